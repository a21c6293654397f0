import PyProof.Rows.All
import Wide.All
import OpenK.AllK
import Wide.FinOn
import KE.KStateDown
import KE.KNest
import KE.KNestM
import KE.KExcSuper
import KE.KSuper
import HandS.Exc
import HandS.Words
import HandS.HeadHook4
import HandS.Head2
import PySem.Challenge.RW_halfread_k31_evenly_changing_codes
import KE.KDictKeyed
import HandS.ForMost
import HandS.WordsExc
import HandS.Lambda
import HandS.HotCalls
import HandS.Star
import HandS.TupAny
import HandS.TupMul
import HandS.Deep
import HandS.Flow
import HandS.IsInst
import KE.GoesNew
import HandS.Property
import HandS.ClsMeth
import HandS.TupSets
import PyProof.WalksMore
import PyProof.TupleIter
import HandS.SortInts
import HandS.Text
import HandS.Strs
import HandS.Conv
import HandS.Style
import PyProof.TupleOfSeq
import PyProof.Rows.StrStep
import PyProof.SliceStr2
import HandS.DictComp
import KE.KOpsOwn
import OpenK.KMeth
import PyProof.ReprRoads
import HandS.EndBits
import HandS.MakeKwOnly
import HandS.MakeKw
import KE.SortData
import KE.KTupSum
import HandS.EndOwn
import HandS.OwnEq
import HandS.SetTxt0
import HandS.ExcValue
import KE.DataCmp
import HandS.ExcInit
import HandS.Finally
set_option Elab.async false
set_option linter.all false
set_option maxRecDepth 100000
set_option maxHeartbeats 4000000
/-! ### the head by one run of the kernel: what the end leans on, by names -/
namespace Hq
open PySem PySem.Spec PyProof.Rows
abbrev Fr := PySem.W.Frag
/-- addresses by names -/
def fdO (K : Fr) (a : Addr) : FuncData := match K.lookup a with
  | some ⟨_, _, .func fd, _⟩ => fd
  | _ => default
def clO (K : Fr) (a : Addr) : Value := match K.lookup a with
  | some o => o.cls
  | _ => default
def diO (K : Fr) (a : Addr) : Option Addr := match K.lookup a with
  | some o => o.dict
  | _ => default
def slO (K : Fr) (a : Addr) : Array (Option Value) := match K.lookup a with
  | some o => o.slots
  | _ => default
def flO (K : Fr) (a : Addr) : Array Value := match K.lookup a with
  | some ⟨_, _, .fields vs, _⟩ => vs
  | _ => default
def sqO (K : Fr) (a : Addr) : Array Value := match K.lookup a with
  | some ⟨_, _, .seq vs _, _⟩ => vs
  | _ => default
def epO (K : Fr) (a : Addr) : Nat := match K.lookup a with
  | some ⟨_, _, .seq _ e, _⟩ => e
  | _ => default
def isFl (K : Fr) (a : Addr) : Bool := match K.lookup a with
  | some ⟨_, _, .fields _, _⟩ => true
  | _ => false
def isSq (K : Fr) (a : Addr) : Bool := match K.lookup a with
  | some ⟨.type c, none, .seq _ _, _⟩ => c == "tuple"
  | _ => false
def noO (K : Fr) (a : Addr) : Bool := match K.lookup a with
  | none => true
  | _ => false
def rfV : Value → Addr
  | .ref a => a
  | _ => 0
def tkV : Value → Tok
  | .int _ t => t
  | .str _ t => t
  | _ => 0
def inV : Value → Int
  | .int i _ => i
  | _ => 0
def boV : Value → Bool
  | .bool b => b
  | _ => false
def stV : Value → Str
  | .str s _ => s
  | _ => default
def ooV : Option (Option Value) → Value
  | some (some v) => v
  | _ => default
def gv (K : Fr) (x : Str) : Value := ooV (PySem.W.nsIn K mainGlobals x)
def ga (K : Fr) (x : Str) : Addr := rfV (gv K x)
def mv (K : Fr) (C : Addr) (m : Str) : Value := ooV (PySem.W.findIn K (.ref C) m)
def ma (K : Fr) (C : Addr) (m : Str) : Addr := rfV (mv K C m)
def rec1 (K : Fr) (p : Addr) (T : String) : List Value := match PySem.W.recIn K p T with
  | some l => l
  | none => []
def rfL : List Value → Addr
  | .ref a :: _ => a
  | _ => 0
/-- the namespace of a class -/
def nsO (K : Fr) (C : Addr) : Addr := match K.lookup C with
  | some ⟨_, _, .cls cd, _⟩ => cd.ns
  | _ => 0
theorem fl_ok {K : Fr} {a : Addr} (h : isFl K a = true) : K.lookup a = some ⟨clO K a, diO K a, .fields (flO K a), slO K a⟩ := by
  unfold isFl at h
  split at h
  · rename_i c d vs s e
    simp only [clO, diO, flO, slO, e]
  · cases h
theorem flc_ok {K : Fr} {a : Addr} (h : isFl K a = true) {v : Value} (hc : clO K a = v) : K.lookup a = some ⟨v, diO K a, .fields (flO K a), slO K a⟩ := by
  rw [← hc]; exact fl_ok h
theorem sq_ok {K : Fr} {a : Addr} (h : isSq K a = true) {vs : List Value} (hv : (sqO K a).toList = vs) : K.lookup a = some ⟨.type "tuple", none, .seq vs.toArray (epO K a), slO K a⟩ := by
  unfold isSq at h
  split at h
  · rename_i c us e' s e
    simp only [beq_iff_eq] at h
    subst h
    subst hv
    simp only [sqO, epO, slO, e]
  · cases h
theorem no_ok {K : Fr} {a : Addr} (h : noO K a = true) : K.lookup a = none := by
  unfold noO at h
  split at h
  · rename_i e; exact e
  · cases h
/-! a def as it stands -/
structure DfE where
  at_ : Fr → Addr
  name : Str
  qual : Str
  st : Stmt
  cl : Bool := false
abbrev OvE := Option (Str × Str × Arguments × FuncBody × Scope × Addr × List Str × Addr)
def ovE (K : Fr) (a : Addr) : OvE := match K.lookup a with
  | some ⟨_, _, .func fd, _⟩ => some (fd.name, fd.qualname, fd.params, fd.body, fd.scope, fd.globals, fd.closure.map (·.1), fd.builtins)
  | _ => none
def DfE.val (d : DfE) : OvE := some (d.name, d.qual, L2.defArgs d.st, .stmts (L2.defBody d.st), L2.defScope d.st, mainGlobals, (match d.cl with | true => ["__class__"] | false => []), builtinsNs)
theorem fn_l {K : Fr} {a : Addr} {d : DfE} (e : ovE K a = d.val) (hc : d.cl = false) {dV : Value} (hd : (fdO K a).defaults = dV) :
    K.lookup a = some ⟨clO K a, diO K a, .func (PySem.W.fnOf d.name d.qual (L2.defArgs d.st) (L2.defBody d.st) (L2.defScope d.st) dV (fdO K a).kwdefaults (fdO K a).doc (fdO K a).pyModule (fdO K a).annotations (fdO K a).code (fdO K a).closureTuple), slO K a⟩ := by
  unfold ovE at e
  split at e
  · rename_i c di fd sl q
    unfold DfE.val at e
    rw [hc] at e
    simp only [Option.some.injEq, Prod.mk.injEq] at e
    obtain ⟨h1, h2, h3, h4, h5, h6, h7, h8⟩ := e
    have h7' : fd.closure = [] := by simpa using h7
    have hf : fdO K a = fd := by simp only [fdO, q]
    subst hd
    rw [hf]
    obtain ⟨n1, n2, n3, n4, n5, n6, n7, n8, n9, n10, n11, n12, n13, n14, n15⟩ := fd
    simp only at h1 h2 h3 h4 h5 h6 h7' h8
    subst h1 h2 h3 h4 h5 h6 h7' h8
    simp only [clO, diO, slO, q]
  · cases e
/-! the hook -/
def tabB (g : Addr → Option Obj) (P : Addr) : Bool := match g P with
  | some o => He.emptyTab o
  | none => false
abbrev Stg := List (Fr → List Addr)
/-- part by part -/
def frE (g : Addr → Option Obj) : Stg → List Addr → Fr
  | [], as => He.frT g as
  | f :: r, as => frE g r (as ++ f (He.frT g as))
theorem frE_in {h : Heap} : ∀ (n : Stg) (as : List Addr), (frE h.get? n as).In h
  | [], _ => He.frT_in
  | _ :: r, _ => frE_in r _
abbrev AlE := List OvE × Bool
def obsE (n : Stg) (fn : List DfE) (tp : Fr → List Addr) (ex : Fr → Bool) (g : Addr → Option Obj) : AlE := (fn.map (fun d => ovE (frE g n [mainGlobals, cStatics]) (d.at_ (frE g n [mainGlobals, cStatics]))), ex (frE g n [mainGlobals, cStatics]) && (tp (frE g n [mainGlobals, cStatics])).all (tabB g))
structure SaysE (fn : List DfE) (tp : Fr → List Addr) (ex : Fr → Bool) (h : Heap) (K : Fr) : Prop where
  df : fn.map (fun d => ovE K (d.at_ K)) = fn.map DfE.val
  ex : ex K = true
  tb : ∀ P ∈ tp K, h.get? P = some { cls := .none, data := .fields #[] }
theorem says_of {n : Stg} {fn : List DfE} {tp : Fr → List Addr} {ex : Fr → Bool} {h : Heap} (e : obsE n fn tp ex h.get? = (fn.map DfE.val, true)) : SaysE fn tp ex h (frE h.get? n [mainGlobals, cStatics]) := by
  obtain ⟨e1, e2⟩ := Prod.mk.inj (show (fn.map (fun d => ovE (frE h.get? n [mainGlobals, cStatics]) (d.at_ (frE h.get? n [mainGlobals, cStatics]))), ex (frE h.get? n [mainGlobals, cStatics]) && (tp (frE h.get? n [mainGlobals, cStatics])).all (tabB h.get?)) = (fn.map DfE.val, true) from e)
  obtain ⟨e3, e4⟩ := Bool.and_eq_true_iff.mp e2
  refine ⟨e1, e3, fun P hP => ?_⟩
  have z := List.all_eq_true.mp e4 P hP
  unfold tabB at z
  split at z
  · rename_i o q
    rw [q, He.emptyTab_eq z]
  · cases z
def hookF (n : Stg) (fn : List DfE) (tp : Fr → List Addr) (ex : Fr → Bool) : PySem.W.Hook where
  α := AlE
  obs := fun s => obsE n fn tp ex s.heap.get?
  val := fun _ => (fn.map DfE.val, true)
  says := fun _ h => ∃ K : Fr, K.In h ∧ SaysE fn tp ex h K
  of := fun _ _ e => ⟨_, frE_in _ _, says_of e⟩
  keeps := fun _ _ _ ⟨K, hK, c⟩ k => ⟨K, PySem.W.Frag.In.keeps hK k, ⟨c.df, c.ex, fun P hP => k _ _ (c.tb P hP)⟩⟩
def obF (n : Stg) (fn : List DfE) (tp : Fr → List Addr) (ex : Fr → Bool) (s : PySem.W.SharedT) : AlE := obsE n fn tp ex (HandSHeadRun.getT s)
theorem obF_eq {n : Stg} {fn : List DfE} {tp : Fr → List Addr} {ex : Fr → Bool} (s : PySem.W.SharedT) : obF n fn tp ex s = (hookF n fn tp ex).obs s.abs := by
  have e : HandSHeadRun.getT s = s.abs.heap.get? := funext (HandSHeadRun.getT_eq s)
  unfold obF
  rw [e]
  rfl
theorem SaysE.def_ {fn : List DfE} {tp : Fr → List Addr} {ex : Fr → Bool} {h : Heap} {K : Fr} (c : SaysE fn tp ex h K) (i : Nat) {d : DfE} (hi : fn[i]? = some d := by rfl) : ovE K (d.at_ K) = d.val := by
  have e2 : (fn.map fun d => ovE K (d.at_ K))[i]? = (fn.map DfE.val)[i]? := by rw [c.df]
  rw [List.getElem?_map, List.getElem?_map, hi] at e2
  exact Option.some.inj e2
end Hq

set_option Elab.async false
set_option linter.all false
set_option maxRecDepth 100000
set_option maxHeartbeats 0
namespace Hk
open PySem PySem.Spec PyProof.Rows L2
def top (i : Nat) : Stmt := PySem.Challenge.pw_halfread_k31_evenly_changing_codes.main.body.getD i (.Pass ⟨0, 0, 0, 0⟩)
abbrev t_place_of : Stmt := top 27
abbrev t_most_changes : Stmt := top 29
abbrev t_is_even : Stmt := top 34
abbrev t__law_pen : Stmt := top 38
abbrev t__law_cell_at : Stmt := top 37
abbrev t__law_near : Stmt := top 42
abbrev t__law_apart : Stmt := top 43
abbrev t__law_rings : Stmt := top 44
abbrev t__law_all : Stmt := top 41
abbrev t__law_counts : Stmt := top 45
abbrev t__law_due : Stmt := top 47
abbrev t__law_draw : Stmt := top 39
abbrev t_is_between : Stmt := top 13
abbrev t_need_bits : Stmt := top 25
abbrev t_need_sizes : Stmt := top 24
abbrev t_changed : Stmt := top 26
abbrev t_next_words : Stmt := top 28
abbrev t_can_close : Stmt := top 30
abbrev t_are_bits : Stmt := top 14
abbrev t_are_words : Stmt := top 15
abbrev t_CodeX_initX : Stmt := inClass (top 17) 0
abbrev t_first_ring : Stmt := top 31
abbrev t_made_single : Stmt := top 32
abbrev t_made_evenly : Stmt := top 33
abbrev t_evenly : Stmt := top 35
abbrev t__law_first_even : Stmt := top 46
abbrev t_CodeX_eqX : Stmt := inClass (top 17) 9
abbrev t_Code_words : Stmt := inClass (top 17) 1
abbrev t__law_great_right : Stmt := top 48
abbrev t__law_pick : Stmt := top 40
abbrev t_law : Stmt := top 49
def A_C0 (K : Hq.Fr) : Addr := Hq.ga K "Code"
def A_f_place_of_ (K : Hq.Fr) : Addr := Hq.ga K "place_of"
def A_f_most_changes_ (K : Hq.Fr) : Addr := Hq.ga K "most_changes"
def A_f_is_even_ (K : Hq.Fr) : Addr := Hq.ga K "is_even"
def A_f__law_pen_ (K : Hq.Fr) : Addr := Hq.ga K "_law_pen"
def A_f__law_cell_at_ (K : Hq.Fr) : Addr := Hq.ga K "_law_cell_at"
def A_f__law_near_ (K : Hq.Fr) : Addr := Hq.ga K "_law_near"
def A_f__law_apart_ (K : Hq.Fr) : Addr := Hq.ga K "_law_apart"
def A_f__law_rings_ (K : Hq.Fr) : Addr := Hq.ga K "_law_rings"
def A_f__law_all_ (K : Hq.Fr) : Addr := Hq.ga K "_law_all"
def A_f__law_counts_ (K : Hq.Fr) : Addr := Hq.ga K "_law_counts"
def A_f__law_due_ (K : Hq.Fr) : Addr := Hq.ga K "_law_due"
def A_f__law_draw_ (K : Hq.Fr) : Addr := Hq.ga K "_law_draw"
def A_f_is_between_ (K : Hq.Fr) : Addr := Hq.ga K "is_between"
def A_f_need_bits_ (K : Hq.Fr) : Addr := Hq.ga K "need_bits"
def A_f_need_sizes_ (K : Hq.Fr) : Addr := Hq.ga K "need_sizes"
def A_f_changed_ (K : Hq.Fr) : Addr := Hq.ga K "changed"
def A_f_next_words_ (K : Hq.Fr) : Addr := Hq.ga K "next_words"
def A_f_can_close_ (K : Hq.Fr) : Addr := Hq.ga K "can_close"
def A_f_are_bits_ (K : Hq.Fr) : Addr := Hq.ga K "are_bits"
def A_f_are_words_ (K : Hq.Fr) : Addr := Hq.ga K "are_words"
def A_f_CodeX_initX_ (K : Hq.Fr) : Addr := Hq.ma K (A_C0 K) "__init__"
def A_f_first_ring_ (K : Hq.Fr) : Addr := Hq.ga K "first_ring"
def A_f_made_single_ (K : Hq.Fr) : Addr := Hq.ga K "made_single"
def A_f_made_evenly_ (K : Hq.Fr) : Addr := Hq.ga K "made_evenly"
def A_f_evenly_ (K : Hq.Fr) : Addr := Hq.ga K "evenly"
def A_f__law_first_even_ (K : Hq.Fr) : Addr := Hq.ga K "_law_first_even"
def A_f_CodeX_eqX_ (K : Hq.Fr) : Addr := Hq.ma K (A_C0 K) "__eq__"
def A_pCode_words (K : Hq.Fr) : Addr := Hq.ma K (A_C0 K) "words"
def A_f_Code_words_ (K : Hq.Fr) : Addr := Hq.rfL (Hq.rec1 K (A_pCode_words K) "property")
def A_f__law_great_right_ (K : Hq.Fr) : Addr := Hq.ga K "_law_great_right"
def A_f__law_pick_ (K : Hq.Fr) : Addr := Hq.ga K "_law_pick"
def A_f_law_ (K : Hq.Fr) : Addr := Hq.ga K "law"
def A_ad_MANY_WORDS (K : Hq.Fr) : Addr := Hq.ga K "MANY_WORDS"
def A_k0made_single (K : Hq.Fr) : Addr := Hq.rfV (Hq.fdO K (A_f_made_single_ K)).code
def A_Pmade_single (K : Hq.Fr) : Addr := Hq.rfV ((Hq.flO K (A_k0made_single K)).getD 11 .none)
def A_k0made_evenly (K : Hq.Fr) : Addr := Hq.rfV (Hq.fdO K (A_f_made_evenly_ K)).code
def A_Pmade_evenly (K : Hq.Fr) : Addr := Hq.rfV ((Hq.flO K (A_k0made_evenly K)).getD 11 .none)
/-! the defs -/
def D_place_of : Hq.DfE := ⟨fun K => A_f_place_of_ K, "place_of", "place_of", t_place_of, false⟩
def D_most_changes : Hq.DfE := ⟨fun K => A_f_most_changes_ K, "most_changes", "most_changes", t_most_changes, false⟩
def D_is_even : Hq.DfE := ⟨fun K => A_f_is_even_ K, "is_even", "is_even", t_is_even, false⟩
def D__law_pen : Hq.DfE := ⟨fun K => A_f__law_pen_ K, "_law_pen", "_law_pen", t__law_pen, false⟩
def D__law_cell_at : Hq.DfE := ⟨fun K => A_f__law_cell_at_ K, "_law_cell_at", "_law_cell_at", t__law_cell_at, false⟩
def D__law_near : Hq.DfE := ⟨fun K => A_f__law_near_ K, "_law_near", "_law_near", t__law_near, false⟩
def D__law_apart : Hq.DfE := ⟨fun K => A_f__law_apart_ K, "_law_apart", "_law_apart", t__law_apart, false⟩
def D__law_rings : Hq.DfE := ⟨fun K => A_f__law_rings_ K, "_law_rings", "_law_rings", t__law_rings, false⟩
def D__law_all : Hq.DfE := ⟨fun K => A_f__law_all_ K, "_law_all", "_law_all", t__law_all, false⟩
def D__law_counts : Hq.DfE := ⟨fun K => A_f__law_counts_ K, "_law_counts", "_law_counts", t__law_counts, false⟩
def D__law_due : Hq.DfE := ⟨fun K => A_f__law_due_ K, "_law_due", "_law_due", t__law_due, false⟩
def D__law_draw : Hq.DfE := ⟨fun K => A_f__law_draw_ K, "_law_draw", "_law_draw", t__law_draw, false⟩
def D_is_between : Hq.DfE := ⟨fun K => A_f_is_between_ K, "is_between", "is_between", t_is_between, false⟩
def D_need_bits : Hq.DfE := ⟨fun K => A_f_need_bits_ K, "need_bits", "need_bits", t_need_bits, false⟩
def D_need_sizes : Hq.DfE := ⟨fun K => A_f_need_sizes_ K, "need_sizes", "need_sizes", t_need_sizes, false⟩
def D_changed : Hq.DfE := ⟨fun K => A_f_changed_ K, "changed", "changed", t_changed, false⟩
def D_next_words : Hq.DfE := ⟨fun K => A_f_next_words_ K, "next_words", "next_words", t_next_words, false⟩
def D_can_close : Hq.DfE := ⟨fun K => A_f_can_close_ K, "can_close", "can_close", t_can_close, false⟩
def D_are_bits : Hq.DfE := ⟨fun K => A_f_are_bits_ K, "are_bits", "are_bits", t_are_bits, false⟩
def D_are_words : Hq.DfE := ⟨fun K => A_f_are_words_ K, "are_words", "are_words", t_are_words, false⟩
def D_CodeX_initX : Hq.DfE := ⟨fun K => A_f_CodeX_initX_ K, "__init__", "Code.__init__", t_CodeX_initX, false⟩
def D_first_ring : Hq.DfE := ⟨fun K => A_f_first_ring_ K, "first_ring", "first_ring", t_first_ring, false⟩
def D_made_single : Hq.DfE := ⟨fun K => A_f_made_single_ K, "made_single", "made_single", t_made_single, false⟩
def D_made_evenly : Hq.DfE := ⟨fun K => A_f_made_evenly_ K, "made_evenly", "made_evenly", t_made_evenly, false⟩
def D_evenly : Hq.DfE := ⟨fun K => A_f_evenly_ K, "evenly", "evenly", t_evenly, false⟩
def D__law_first_even : Hq.DfE := ⟨fun K => A_f__law_first_even_ K, "_law_first_even", "_law_first_even", t__law_first_even, false⟩
def D_CodeX_eqX : Hq.DfE := ⟨fun K => A_f_CodeX_eqX_ K, "__eq__", "Code.__eq__", t_CodeX_eqX, false⟩
def D_Code_words : Hq.DfE := ⟨fun K => A_f_Code_words_ K, "words", "Code.words", t_Code_words, false⟩
def D__law_great_right : Hq.DfE := ⟨fun K => A_f__law_great_right_ K, "_law_great_right", "_law_great_right", t__law_great_right, false⟩
def D__law_pick : Hq.DfE := ⟨fun K => A_f__law_pick_ K, "_law_pick", "_law_pick", t__law_pick, false⟩
def D_law : Hq.DfE := ⟨fun K => A_f_law_ K, "law", "law", t_law, false⟩
def fnL0 : List Hq.DfE := [D_place_of, D_most_changes, D_is_even, D__law_pen, D__law_cell_at, D__law_near, D__law_apart, D__law_rings, D__law_all, D__law_counts, D__law_due, D__law_draw, D_is_between, D_need_bits, D_need_sizes, D_changed, D_next_words, D_can_close, D_are_bits, D_are_words, D_CodeX_initX, D_first_ring, D_made_single, D_made_evenly, D_evenly, D__law_first_even, D_CodeX_eqX, D_Code_words, D__law_great_right, D__law_pick]
def fnL1 : List Hq.DfE := [D_law]
def fnL : List Hq.DfE := fnL0 ++ fnL1
def tpL (K : Hq.Fr) : List Addr := [A_Pmade_single K, A_Pmade_evenly K]
/-! the facts -/
abbrev FG0 (K : Hq.Fr) : Prop := (PySem.W.nsIn K mainGlobals "Code" = some (some (.ref (A_C0 K)))) ∧ (PySem.W.plainGet K (A_C0 K) Str.empty = true) ∧ (PySem.W.hasDictIn K (A_C0 K) = true) ∧ (PySem.W.plainOver K (A_C0 K) = true) ∧ (PySem.W.findIn K (.ref (A_C0 K)) "__setattr__" = some (some (.builtin "object.__setattr__"))) ∧ (PySem.W.makesIn K (A_C0 K) = true) ∧ (PySem.W.keepIn K (.ref (A_C0 K)) = true) ∧ (PySem.W.findIn K (.ref (A_C0 K)) "row" = some none) ∧ (PySem.W.findIn K (.ref (A_C0 K)) "known" = some none) ∧ (PySem.W.findIn K (.ref (A_C0 K)) "__class__" = some (some (.builtin "object.__class__"))) ∧ (PySem.W.mroIn K (A_C0 K) (.type "object") = some true) ∧ (PySem.W.mroIn K (A_C0 K) (.type "int") = some false) ∧ (PySem.W.mroIn K (A_C0 K) (.type "bool") = some false) ∧ (PySem.W.mroIn K (A_C0 K) (.type "tuple") = some false) ∧ (PySem.W.mroIn K (A_C0 K) (.type "str") = some false) ∧ (PySem.W.mroIn K (A_C0 K) (.type "list") = some false) ∧ (PySem.W.mroIn K (A_C0 K) (.type "NoneType") = some false) ∧ (PySem.W.mroIn K (A_C0 K) (.type "dict") = some false) ∧ (PySem.W.isClsIn K (A_C0 K) = true) ∧ (PySem.W.typeIn K (.ref (A_C0 K)) = some (.type "type")) ∧ (PySem.W.specialIn K (.builtin "object.__class__") "__get__" = some (some (.builtin "getset_descriptor.__get__"))) ∧ (PySem.W.takesIn K (.builtin "object.__class__") = some true) ∧ (PySem.W.nsIn K mainGlobals "len" = some none) ∧ (PySem.W.nsIn K mainGlobals "range" = some none)
abbrev FG1 (K : Hq.Fr) : Prop := (PySem.W.nsIn K mainGlobals "isinstance" = some none) ∧ (PySem.W.nsIn K mainGlobals "tuple" = some none) ∧ (PySem.W.nsIn K mainGlobals "list" = some none) ∧ (PySem.W.nsIn K mainGlobals "all" = some none) ∧ (PySem.W.nsIn K mainGlobals "any" = some none) ∧ (PySem.W.nsIn K mainGlobals "max" = some none) ∧ (PySem.W.nsIn K mainGlobals "min" = some none) ∧ (PySem.W.nsIn K mainGlobals "set" = some none) ∧ (PySem.W.nsIn K mainGlobals "sorted" = some none) ∧ (PySem.W.nsIn K mainGlobals "enumerate" = some none) ∧ (PySem.W.nsIn K mainGlobals "zip" = some none) ∧ (PySem.W.nsIn K mainGlobals "repr" = some none) ∧ (PySem.W.nsIn K mainGlobals "str" = some none) ∧ (PySem.W.nsIn K mainGlobals "int" = some none) ∧ (PySem.W.nsIn K mainGlobals "sum" = some none) ∧ (PySem.W.nsIn K mainGlobals "dict" = some none) ∧ (PySem.W.nsIn K mainGlobals "bool" = some none) ∧ (PySem.W.nsIn K mainGlobals "MOST_MADE_BITS" = some (some (.int (4) (Hq.tkV (Hq.gv K "MOST_MADE_BITS"))))) ∧ (PySem.W.nsIn K mainGlobals "FEWEST" = some (some (.int (2) (Hq.tkV (Hq.gv K "FEWEST"))))) ∧ (PySem.W.nsIn K mainGlobals "MOST_VALUES" = some (some (.int (16) (Hq.tkV (Hq.gv K "MOST_VALUES"))))) ∧ (PySem.W.nsIn K mainGlobals "FEWEST_VALUES" = some (some (.int (2) (Hq.tkV (Hq.gv K "FEWEST_VALUES"))))) ∧ (PySem.W.nsIn K mainGlobals "MOST_BITS" = some (some (.int (5) (Hq.tkV (Hq.gv K "MOST_BITS"))))) ∧ (PySem.W.nsIn K mainGlobals "MANY_WORDS" = some (some (.ref (A_ad_MANY_WORDS K)))) ∧ (PySem.W.nsIn K mainGlobals "place_of" = some (some (.ref (A_f_place_of_ K))))
abbrev FG2 (K : Hq.Fr) : Prop := (PySem.W.codeIn K ((Hq.fdO K (A_f_place_of_ K)).code) "place_of" = true) ∧ (PySem.W.keepIn K (.ref (A_f_place_of_ K)) = true) ∧ (PySem.W.nsIn K mainGlobals "most_changes" = some (some (.ref (A_f_most_changes_ K)))) ∧ (PySem.W.codeIn K ((Hq.fdO K (A_f_most_changes_ K)).code) "most_changes" = true) ∧ (PySem.W.keepIn K (.ref (A_f_most_changes_ K)) = true) ∧ (PySem.W.nsIn K mainGlobals "is_even" = some (some (.ref (A_f_is_even_ K)))) ∧ (PySem.W.codeIn K ((Hq.fdO K (A_f_is_even_ K)).code) "is_even" = true) ∧ (PySem.W.keepIn K (.ref (A_f_is_even_ K)) = true) ∧ (PySem.W.nsIn K mainGlobals "_law_pen" = some (some (.ref (A_f__law_pen_ K)))) ∧ (PySem.W.codeIn K ((Hq.fdO K (A_f__law_pen_ K)).code) "_law_pen" = true) ∧ (PySem.W.keepIn K (.ref (A_f__law_pen_ K)) = true) ∧ (PySem.W.nsIn K mainGlobals "_law_cell_at" = some (some (.ref (A_f__law_cell_at_ K)))) ∧ (PySem.W.codeIn K ((Hq.fdO K (A_f__law_cell_at_ K)).code) "_law_cell_at" = true) ∧ (PySem.W.keepIn K (.ref (A_f__law_cell_at_ K)) = true) ∧ (PySem.W.nsIn K mainGlobals "_law_near" = some (some (.ref (A_f__law_near_ K)))) ∧ (PySem.W.codeIn K ((Hq.fdO K (A_f__law_near_ K)).code) "_law_near" = true) ∧ (PySem.W.keepIn K (.ref (A_f__law_near_ K)) = true) ∧ (PySem.W.nsIn K mainGlobals "_law_apart" = some (some (.ref (A_f__law_apart_ K)))) ∧ (PySem.W.codeIn K ((Hq.fdO K (A_f__law_apart_ K)).code) "_law_apart" = true) ∧ (PySem.W.keepIn K (.ref (A_f__law_apart_ K)) = true) ∧ (PySem.W.nsIn K mainGlobals "_law_rings" = some (some (.ref (A_f__law_rings_ K)))) ∧ (PySem.W.codeIn K ((Hq.fdO K (A_f__law_rings_ K)).code) "_law_rings" = true) ∧ (PySem.W.keepIn K (.ref (A_f__law_rings_ K)) = true) ∧ (PySem.W.nsIn K mainGlobals "_law_all" = some (some (.ref (A_f__law_all_ K))))
abbrev FG3 (K : Hq.Fr) : Prop := (PySem.W.codeIn K ((Hq.fdO K (A_f__law_all_ K)).code) "_law_all" = true) ∧ (PySem.W.keepIn K (.ref (A_f__law_all_ K)) = true) ∧ (PySem.W.nsIn K mainGlobals "_law_counts" = some (some (.ref (A_f__law_counts_ K)))) ∧ (PySem.W.codeIn K ((Hq.fdO K (A_f__law_counts_ K)).code) "_law_counts" = true) ∧ (PySem.W.keepIn K (.ref (A_f__law_counts_ K)) = true) ∧ (PySem.W.nsIn K mainGlobals "_law_due" = some (some (.ref (A_f__law_due_ K)))) ∧ (PySem.W.codeIn K ((Hq.fdO K (A_f__law_due_ K)).code) "_law_due" = true) ∧ (PySem.W.keepIn K (.ref (A_f__law_due_ K)) = true) ∧ (PySem.W.nsIn K mainGlobals "_law_draw" = some (some (.ref (A_f__law_draw_ K)))) ∧ (PySem.W.codeIn K ((Hq.fdO K (A_f__law_draw_ K)).code) "_law_draw" = true) ∧ (PySem.W.keepIn K (.ref (A_f__law_draw_ K)) = true) ∧ (PySem.W.nsIn K mainGlobals "is_between" = some (some (.ref (A_f_is_between_ K)))) ∧ (PySem.W.codeIn K ((Hq.fdO K (A_f_is_between_ K)).code) "is_between" = true) ∧ (PySem.W.keepIn K (.ref (A_f_is_between_ K)) = true) ∧ (PySem.W.nsIn K mainGlobals "need_bits" = some (some (.ref (A_f_need_bits_ K)))) ∧ (PySem.W.codeIn K ((Hq.fdO K (A_f_need_bits_ K)).code) "need_bits" = true) ∧ (PySem.W.keepIn K (.ref (A_f_need_bits_ K)) = true) ∧ (PySem.W.nsIn K mainGlobals "need_sizes" = some (some (.ref (A_f_need_sizes_ K)))) ∧ (PySem.W.codeIn K ((Hq.fdO K (A_f_need_sizes_ K)).code) "need_sizes" = true) ∧ (PySem.W.keepIn K (.ref (A_f_need_sizes_ K)) = true) ∧ (PySem.W.nsIn K mainGlobals "changed" = some (some (.ref (A_f_changed_ K)))) ∧ (PySem.W.codeIn K ((Hq.fdO K (A_f_changed_ K)).code) "changed" = true) ∧ (PySem.W.keepIn K (.ref (A_f_changed_ K)) = true) ∧ (PySem.W.nsIn K mainGlobals "next_words" = some (some (.ref (A_f_next_words_ K))))
abbrev FG4 (K : Hq.Fr) : Prop := (PySem.W.codeIn K ((Hq.fdO K (A_f_next_words_ K)).code) "next_words" = true) ∧ (PySem.W.keepIn K (.ref (A_f_next_words_ K)) = true) ∧ (PySem.W.nsIn K mainGlobals "can_close" = some (some (.ref (A_f_can_close_ K)))) ∧ (PySem.W.codeIn K ((Hq.fdO K (A_f_can_close_ K)).code) "can_close" = true) ∧ (PySem.W.keepIn K (.ref (A_f_can_close_ K)) = true) ∧ (PySem.W.nsIn K mainGlobals "are_bits" = some (some (.ref (A_f_are_bits_ K)))) ∧ (PySem.W.codeIn K ((Hq.fdO K (A_f_are_bits_ K)).code) "are_bits" = true) ∧ (PySem.W.keepIn K (.ref (A_f_are_bits_ K)) = true) ∧ (PySem.W.nsIn K mainGlobals "are_words" = some (some (.ref (A_f_are_words_ K)))) ∧ (PySem.W.codeIn K ((Hq.fdO K (A_f_are_words_ K)).code) "are_words" = true) ∧ (PySem.W.keepIn K (.ref (A_f_are_words_ K)) = true) ∧ (PySem.W.findIn K (.ref (A_C0 K)) "__init__" = some (some (.ref (A_f_CodeX_initX_ K)))) ∧ (PySem.W.isFn K (.ref (A_f_CodeX_initX_ K)) = true) ∧ (PySem.W.codeIn K ((Hq.fdO K (A_f_CodeX_initX_ K)).code) "Code.__init__" = true) ∧ (PySem.W.keepIn K (.ref (A_f_CodeX_initX_ K)) = true) ∧ (PySem.W.nsIn K mainGlobals "first_ring" = some (some (.ref (A_f_first_ring_ K)))) ∧ (PySem.W.codeIn K ((Hq.fdO K (A_f_first_ring_ K)).code) "first_ring" = true) ∧ (PySem.W.keepIn K (.ref (A_f_first_ring_ K)) = true) ∧ (PySem.W.nsIn K mainGlobals "made_single" = some (some (.ref (A_f_made_single_ K)))) ∧ (PySem.W.codeIn K ((Hq.fdO K (A_f_made_single_ K)).code) "made_single" = true) ∧ (PySem.W.keepIn K (.ref (A_f_made_single_ K)) = true) ∧ (PySem.W.nsIn K mainGlobals "made_evenly" = some (some (.ref (A_f_made_evenly_ K)))) ∧ (PySem.W.codeIn K ((Hq.fdO K (A_f_made_evenly_ K)).code) "made_evenly" = true) ∧ (PySem.W.keepIn K (.ref (A_f_made_evenly_ K)) = true)
abbrev FG5 (K : Hq.Fr) : Prop := (PySem.W.nsIn K mainGlobals "evenly" = some (some (.ref (A_f_evenly_ K)))) ∧ (PySem.W.codeIn K ((Hq.fdO K (A_f_evenly_ K)).code) "evenly" = true) ∧ (PySem.W.keepIn K (.ref (A_f_evenly_ K)) = true) ∧ (PySem.W.nsIn K mainGlobals "_law_first_even" = some (some (.ref (A_f__law_first_even_ K)))) ∧ (PySem.W.codeIn K ((Hq.fdO K (A_f__law_first_even_ K)).code) "_law_first_even" = true) ∧ (PySem.W.keepIn K (.ref (A_f__law_first_even_ K)) = true) ∧ (PySem.W.findIn K (.ref (A_C0 K)) "__ne__" = some (some (.builtin "object.__ne__"))) ∧ (PySem.W.findIn K (.ref (A_C0 K)) "__eq__" = some (some (.ref (A_f_CodeX_eqX_ K)))) ∧ (PySem.W.isFn K (.ref (A_f_CodeX_eqX_ K)) = true) ∧ (PySem.W.fnIn K (A_f_CodeX_eqX_ K) = true) ∧ (PySem.W.codeIn K ((Hq.fdO K (A_f_CodeX_eqX_ K)).code) "Code.__eq__" = true) ∧ (PySem.W.keepIn K (.ref (A_f_CodeX_eqX_ K)) = true) ∧ (PySem.W.findIn K (.ref (A_C0 K)) "words" = some (some (.ref (A_pCode_words K)))) ∧ (PySem.W.specialIn K (.ref (A_pCode_words K)) "__get__" = some (some (.builtin "property.__get__"))) ∧ (PySem.W.takesIn K (.ref (A_pCode_words K)) = some true) ∧ (PySem.W.recIn K (A_pCode_words K) "property" = some (.ref (A_f_Code_words_ K) :: ((Hq.rec1 K (A_pCode_words K) "property").tail))) ∧ (PySem.W.codeIn K ((Hq.fdO K (A_f_Code_words_ K)).code) "Code.words" = true) ∧ (PySem.W.keepIn K (.ref (A_f_Code_words_ K)) = true) ∧ (PySem.W.nsIn K mainGlobals "_law_great_right" = some (some (.ref (A_f__law_great_right_ K)))) ∧ (PySem.W.codeIn K ((Hq.fdO K (A_f__law_great_right_ K)).code) "_law_great_right" = true) ∧ (PySem.W.keepIn K (.ref (A_f__law_great_right_ K)) = true) ∧ (PySem.W.nsIn K mainGlobals "_law_pick" = some (some (.ref (A_f__law_pick_ K)))) ∧ (PySem.W.codeIn K ((Hq.fdO K (A_f__law_pick_ K)).code) "_law_pick" = true) ∧ (PySem.W.keepIn K (.ref (A_f__law_pick_ K)) = true)
abbrev FG6 (K : Hq.Fr) : Prop := (PySem.W.nsIn K mainGlobals "law" = some (some (.ref (A_f_law_ K)))) ∧ (PySem.W.codeIn K ((Hq.fdO K (A_f_law_ K)).code) "law" = true) ∧ (PySem.W.keepIn K (.ref (A_f_law_ K)) = true) ∧ (((Hq.fdO K (A_f_made_single_ K)).code) = .ref (A_k0made_single K)) ∧ ((Hq.flO K (A_k0made_single K))[11]? = some (.ref (A_Pmade_single K))) ∧ ((Hq.flO K (A_k0made_single K)).getD 11 .none = .ref (A_Pmade_single K)) ∧ ((Hq.flO K (A_k0made_single K)).getD 18 .none = .str (Hq.stV ((Hq.flO K (A_k0made_single K)).getD 18 .none)) (Hq.tkV ((Hq.flO K (A_k0made_single K)).getD 18 .none))) ∧ ((Hq.flO K (A_k0made_single K)).getD 7 .none = .int (Hq.inV ((Hq.flO K (A_k0made_single K)).getD 7 .none)) (Hq.tkV ((Hq.flO K (A_k0made_single K)).getD 7 .none))) ∧ ((Hq.flO K (A_k0made_single K)).getD 9 .none = .bool (Hq.boV ((Hq.flO K (A_k0made_single K)).getD 9 .none))) ∧ ((Hq.flO K (A_k0made_single K)).getD 10 .none = .int (Hq.inV ((Hq.flO K (A_k0made_single K)).getD 10 .none)) (Hq.tkV ((Hq.flO K (A_k0made_single K)).getD 10 .none))) ∧ ((A_k0made_single K) ≠ (A_Pmade_single K)) ∧ (((Hq.fdO K (A_f_made_evenly_ K)).code) = .ref (A_k0made_evenly K)) ∧ ((Hq.flO K (A_k0made_evenly K))[11]? = some (.ref (A_Pmade_evenly K))) ∧ ((Hq.flO K (A_k0made_evenly K)).getD 11 .none = .ref (A_Pmade_evenly K)) ∧ ((Hq.flO K (A_k0made_evenly K)).getD 18 .none = .str (Hq.stV ((Hq.flO K (A_k0made_evenly K)).getD 18 .none)) (Hq.tkV ((Hq.flO K (A_k0made_evenly K)).getD 18 .none))) ∧ ((Hq.flO K (A_k0made_evenly K)).getD 7 .none = .int (Hq.inV ((Hq.flO K (A_k0made_evenly K)).getD 7 .none)) (Hq.tkV ((Hq.flO K (A_k0made_evenly K)).getD 7 .none))) ∧ ((Hq.flO K (A_k0made_evenly K)).getD 9 .none = .bool (Hq.boV ((Hq.flO K (A_k0made_evenly K)).getD 9 .none))) ∧ ((Hq.flO K (A_k0made_evenly K)).getD 10 .none = .int (Hq.inV ((Hq.flO K (A_k0made_evenly K)).getD 10 .none)) (Hq.tkV ((Hq.flO K (A_k0made_evenly K)).getD 10 .none))) ∧ ((A_k0made_evenly K) ≠ (A_Pmade_evenly K)) ∧ ((A_Pmade_evenly K) ≠ (A_Pmade_single K)) ∧ ((Hq.fdO K (A_f_place_of_ K)).defaults = .none) ∧ ((Hq.fdO K (A_f_most_changes_ K)).defaults = .none) ∧ ((Hq.fdO K (A_f_is_even_ K)).defaults = .none) ∧ ((Hq.fdO K (A_f__law_pen_ K)).defaults = .none)
abbrev FG7 (K : Hq.Fr) : Prop := ((Hq.fdO K (A_f__law_cell_at_ K)).defaults = .none) ∧ ((Hq.fdO K (A_f__law_near_ K)).defaults = .none) ∧ ((Hq.fdO K (A_f__law_apart_ K)).defaults = .none) ∧ ((Hq.fdO K (A_f__law_rings_ K)).defaults = .none) ∧ ((Hq.fdO K (A_f__law_all_ K)).defaults = .none) ∧ ((Hq.fdO K (A_f__law_counts_ K)).defaults = .none) ∧ ((Hq.fdO K (A_f__law_due_ K)).defaults = .none) ∧ ((Hq.fdO K (A_f__law_draw_ K)).defaults = .none) ∧ ((Hq.fdO K (A_f_is_between_ K)).defaults = .none) ∧ ((Hq.fdO K (A_f_need_bits_ K)).defaults = .none) ∧ ((Hq.fdO K (A_f_need_sizes_ K)).defaults = .none) ∧ ((Hq.fdO K (A_f_changed_ K)).defaults = .none) ∧ ((Hq.fdO K (A_f_next_words_ K)).defaults = .none) ∧ ((Hq.fdO K (A_f_can_close_ K)).defaults = .none) ∧ ((Hq.fdO K (A_f_are_bits_ K)).defaults = .none) ∧ ((Hq.fdO K (A_f_are_words_ K)).defaults = .none) ∧ ((Hq.fdO K (A_f_CodeX_initX_ K)).defaults = .none) ∧ ((Hq.fdO K (A_f_first_ring_ K)).defaults = .none) ∧ ((Hq.fdO K (A_f_made_single_ K)).defaults = .none) ∧ ((Hq.fdO K (A_f_made_evenly_ K)).defaults = .none) ∧ ((Hq.fdO K (A_f_evenly_ K)).defaults = .none) ∧ ((Hq.fdO K (A_f__law_first_even_ K)).defaults = .none) ∧ ((Hq.fdO K (A_f_CodeX_eqX_ K)).defaults = .none) ∧ ((Hq.fdO K (A_f_Code_words_ K)).defaults = .none)
abbrev FG8 (K : Hq.Fr) : Prop := ((Hq.fdO K (A_f__law_great_right_ K)).defaults = .none) ∧ ((Hq.fdO K (A_f__law_pick_ K)).defaults = .none) ∧ ((Hq.fdO K (A_f_law_ K)).defaults = .none) ∧ (Hq.isSq K (A_ad_MANY_WORDS K) = true) ∧ ((Hq.sqO K (A_ad_MANY_WORDS K)).toList = [.int (1) (Hq.tkV ((Hq.sqO K (A_ad_MANY_WORDS K)).toList.getD 0 .none)), .int (2) (Hq.tkV ((Hq.sqO K (A_ad_MANY_WORDS K)).toList.getD 1 .none)), .int (4) (Hq.tkV ((Hq.sqO K (A_ad_MANY_WORDS K)).toList.getD 2 .none)), .int (8) (Hq.tkV ((Hq.sqO K (A_ad_MANY_WORDS K)).toList.getD 3 .none)), .int (16) (Hq.tkV ((Hq.sqO K (A_ad_MANY_WORDS K)).toList.getD 4 .none))]) ∧ (Hq.isFl K (A_k0made_single K) = true) ∧ (Hq.clO K (A_k0made_single K) = .type "code") ∧ (Hq.noO K (A_Pmade_single K) = true) ∧ (Hq.isFl K (A_k0made_evenly K) = true) ∧ (Hq.clO K (A_k0made_evenly K) = .type "code") ∧ (Hq.noO K (A_Pmade_evenly K) = true)
def exL (K : Hq.Fr) : Bool := decide (FG0 K) && decide (FG1 K) && decide (FG2 K) && decide (FG3 K) && decide (FG4 K) && decide (FG5 K) && decide (FG6 K) && decide (FG7 K) && decide (FG8 K)
def stg0 (K : Hq.Fr) : List Addr := [A_C0 K, A_f_place_of_ K, A_f_most_changes_ K, A_f_is_even_ K, A_f__law_pen_ K, A_f__law_cell_at_ K, A_f__law_near_ K, A_f__law_apart_ K, A_f__law_rings_ K, A_f__law_all_ K, A_f__law_counts_ K, A_f__law_due_ K, A_f__law_draw_ K, A_f_is_between_ K, A_f_need_bits_ K, A_f_need_sizes_ K, A_f_changed_ K, A_f_next_words_ K, A_f_can_close_ K, A_f_are_bits_ K, A_f_are_words_ K, A_f_first_ring_ K, A_f_made_single_ K, A_f_made_evenly_ K, A_f_evenly_ K, A_f__law_first_even_ K, A_f__law_great_right_ K, A_f__law_pick_ K, A_f_law_ K, A_ad_MANY_WORDS K]
def stg1 (K : Hq.Fr) : List Addr := [Hq.nsO K (A_C0 K)]
def stg2 (K : Hq.Fr) : List Addr := [A_f_CodeX_initX_ K, A_f_CodeX_eqX_ K, A_pCode_words K]
def stg3 (K : Hq.Fr) : List Addr := [A_f_Code_words_ K]
def stg4 (K : Hq.Fr) : List Addr := [Hq.rfV (Hq.fdO K (A_f_place_of_ K)).code, Hq.rfV (Hq.fdO K (A_f_most_changes_ K)).code, Hq.rfV (Hq.fdO K (A_f_is_even_ K)).code, Hq.rfV (Hq.fdO K (A_f__law_pen_ K)).code, Hq.rfV (Hq.fdO K (A_f__law_cell_at_ K)).code, Hq.rfV (Hq.fdO K (A_f__law_near_ K)).code, Hq.rfV (Hq.fdO K (A_f__law_apart_ K)).code, Hq.rfV (Hq.fdO K (A_f__law_rings_ K)).code, Hq.rfV (Hq.fdO K (A_f__law_all_ K)).code, Hq.rfV (Hq.fdO K (A_f__law_counts_ K)).code, Hq.rfV (Hq.fdO K (A_f__law_due_ K)).code, Hq.rfV (Hq.fdO K (A_f__law_draw_ K)).code, Hq.rfV (Hq.fdO K (A_f_is_between_ K)).code, Hq.rfV (Hq.fdO K (A_f_need_bits_ K)).code, Hq.rfV (Hq.fdO K (A_f_need_sizes_ K)).code, Hq.rfV (Hq.fdO K (A_f_changed_ K)).code, Hq.rfV (Hq.fdO K (A_f_next_words_ K)).code, Hq.rfV (Hq.fdO K (A_f_can_close_ K)).code, Hq.rfV (Hq.fdO K (A_f_are_bits_ K)).code, Hq.rfV (Hq.fdO K (A_f_are_words_ K)).code, Hq.rfV (Hq.fdO K (A_f_CodeX_initX_ K)).code, Hq.rfV (Hq.fdO K (A_f_first_ring_ K)).code, Hq.rfV (Hq.fdO K (A_f_made_single_ K)).code, Hq.rfV (Hq.fdO K (A_f_made_evenly_ K)).code, Hq.rfV (Hq.fdO K (A_f_evenly_ K)).code, Hq.rfV (Hq.fdO K (A_f__law_first_even_ K)).code, Hq.rfV (Hq.fdO K (A_f_CodeX_eqX_ K)).code, Hq.rfV (Hq.fdO K (A_f_Code_words_ K)).code, Hq.rfV (Hq.fdO K (A_f__law_great_right_ K)).code, Hq.rfV (Hq.fdO K (A_f__law_pick_ K)).code] ++ [Hq.rfV (Hq.fdO K (A_f_law_ K)).code]
def stg : Hq.Stg := [stg0, stg1, stg2, stg3, stg4]
def nm0 : List PySem.Str := ["__name__", "ReadError", "NoWords", "NoValue", "NoWord", "NoText", "NoNumber", "MOST_BITS", "FEWEST_VALUES", "MOST_VALUES", "NO_WORD", "SIGNS", "is_between", "are_bits", "are_words", "word_in", "Code", "need_value", "backwards", "FEWEST", "MOST_MADE_BITS", "MANY_WORDS", "need_sizes", "need_bits", "changed", "place_of", "next_words", "most_changes", "can_close", "first_ring"]
def nm1 : List PySem.Str := ["made_single", "made_evenly", "is_even", "evenly", "_law_cell_at", "_law_pen", "_law_draw", "_law_pick", "_law_all", "_law_near", "_law_apart", "_law_rings", "_law_counts", "_law_first_even", "_law_due", "_law_great_right"]
def names : List PySem.Str := nm0 ++ nm1
abbrev Rw : PySem.W.OpenRow := PySem.W.OpenLaw.row PySem.Challenge.rw_halfread_k31_evenly_changing_codes
abbrev qv : Program := PySem.W.view Rw.prog [49]
abbrev hk : PySem.W.Hook := Hq.hookF stg fnL tpL exL
abbrev ob : PySem.W.SharedT → hk.α := Hq.obF stg fnL tpL exL
/-- the run is asked twice: the kernel's memory holds one of the two alone -/
theorem map3 {α β γ δ : Type} {X : Option α} {a : α → β} {b : α → γ} {c : α → δ} {A : β} {B : γ} {C : δ} (h1 : X.map (fun s => (a s, b s)) = some (A, B)) (h2 : X.map c = some C) : X.map (fun s => (a s, b s, c s)) = some (A, B, C) := by
  cases X with
  | none => cases h1
  | some x =>
    obtain ⟨p, q⟩ := Prod.mk.inj (Option.some.inj h1)
    have r : c x = C := Option.some.inj h2
    show some (a x, b x, c x) = some (A, B, C)
    rw [p, q, r]
open HandSHeadRun PySem.W PySem.Calls in
theorem run_ab (w : World) (os : OsState) : (endF (stepQ (denQ tabQ) Rw.prog w) 12000 Rw.prog w os).map (fun s => (looksF Rw.prog (boot_heap w.params) s.abs, seenQ qv names (importedModules Rw.prog.main.body) (fun s => xlAt qv [] s && recOk Rw.toRowW.records s) s.abs)) = some (true, openGood qv names) := by kernel_rfl
open HandSHeadRun PySem.W PySem.Calls in
theorem run_c (w : World) (os : OsState) : (endF (stepQ (denQ tabQ) Rw.prog w) 12000 Rw.prog w os).map ob = some (hk.val w) := by kernel_rfl
theorem run (w : World) : HandSHeadRun.RunEq Rw qv hk ob 12000 names w := fun os => map3 (run_ab w os) (run_c w os)
end Hk

set_option maxHeartbeats 4000000
set_option Elab.async false
set_option linter.all false
set_option maxRecDepth 100000
set_option maxHeartbeats 4000000
namespace Hf
open PySem L2

/-- pure data -/
inductive D where
  | none | bool (b : Bool) | int (i : Int) | str (s : Str)
  | tup (ds : List D) | lst (ds : List D) | scr (ds : List D) | prs (ds : List D) | dct (ks vs : List D) | inst (c : Nat) (ds : List D) | box (n : Nat) | cls (c : Nat)
  /-- a bare address: an exception that is handled -/
  | ptr (a : Addr)
  /-- a dict of one entry, numbers -/
  | kd (k x : Int)
  /-- a lambda of the text that captures nothing -/
  | fnT (k : Nat)
  /-- an exception that is handled, at a; its dict, at dd, says x at f -/
  | exo (a dd : Addr) (f : Str) (x : D)
  deriving Inhabited

abbrev Sl := List (Option (Bool × D))
abbrev Bs := List D

inductive Rs (α : Type) where
  | ok (a : α) (B : Bs) | exc (c : Nat) (x : Option D) (B : Bs) | bad
def Rs.bind {α β : Type} (m : Rs α) (f : α → Bs → Rs β) : Rs β := match m with
  | .ok a B => f a B
  | .exc c x B => .exc c x B
  | .bad => .bad
abbrev Ev := Sl → Bs → Rs D
abbrev Evs := Sl → Bs → Rs (List D)
abbrev Fn := List D → Bs → Rs D

/-- the names of the fields of the classes -/
def fldN : Nat → List Str
  | 0 => ["row", "known"]
  | 1 => ["own", "seen"]
  | 2 => ["own_bridge", "past"]
  | 3 => ["own_bridge", "past", "limit"]
  | 4 => ["own_bridge", "past"]
  | 5 => ["own_bridge", "past", "limit"]
  | _ => []
/-- the name of the one field of an exception -/
def excF : Nat → Str
  | 27 => "limit"
  | _ => "kind"

/-- a lambda of the text -/
structure LamI where
  q : Str
  prm : Arguments
  bd : Expr
  sc : Scope
/-- what is known of a lambda that captured something, while it is in another def's hands -/
structure LamD where
  live : Bool := false
  fa : Addr := 0
  ca : Addr := 0
  cell : Addr := 0
  y : Str := ⟨#[]⟩
  pm : Value := .none
  ct : Value := .none
  d : D := .none
  v : V := .non
/-- one object, as it is -/
def ObE (a : Addr) (o : Obj) : HO := .ext fun h => h.get? a = some o
structure Gs where
  prog : Program
  w : World
  base : Heap
  K : PySem.W.Frag
  mg : Str → Option Value
  cl : Nat → Addr
  has : Nat → Bool
  /-- the tables of the defs that hold lambdas -/
  tabs : List (Addr × Str) := []
  /-- the lambdas that are values -/
  lam : Nat → LamI
  lmd : Nat → LamD := fun _ => {}
structure Wd where
  P : Hp
  io : Nat → Option Addr
  /-- in an __init__: where the instance stands that is being made -/
  me : Option Addr := Option.none

/-! data as a key -/
mutual
def nkD : D → Option NestedKey
  | .none => some .none
  | .bool b => some (.num (if b = true then 1 else 0))
  | .int i => some (.num i)
  | .str x => some (.text x)
  | .tup ds => (nksD ds).map .tup
  | _ => Option.none
def nksD : List D → Option (List NestedKey)
  | [] => some []
  | d :: ds => match nkD d, nksD ds with
    | some k, some ks => some (k :: ks)
    | _, _ => Option.none
end
/-- a dict's object: its keys with their addresses and values -/
def dctO (g : Gs) (a : Addr) (xs : List (NestedKey × Addr × V)) : HO := .ext fun h => (a == sysModules) = false ∧ xs.length ≤ sizeLine ∧ (∀ p ∈ xs, p.1.depth ≤ 8) ∧ (xs.map (·.1)).Nodup ∧
  ∃ ys : List (NestedKey × Addr × Value), Paired (fun p q => p.1 = q.1 ∧ p.2.1 = q.2.1 ∧ RelV p.2.2 q.2.2) xs ys ∧ ∃ o es ep, h.get? a = some o ∧ o.ExactDict ∧ o.data = .dict es ep ∧ es.toList = ys.map (entryOfKey (nestedKind g.prog g.w))

/-- a tuple of which no dict is known to hang -/
def SqN (K : PySem.W.Frag) (H : Hp) (a : Addr) (xs : List V) : Prop :=
  (∃ o : Obj, H a = some (.frz o (.tup xs)) ∧ o.dict = Option.none) ∨
    ∃ (o : Obj) (us : Array Value) (j : Nat), K.lookup a = some o ∧ o.cls = .type "tuple" ∧ o.dict = Option.none ∧ o.data = .seq us j ∧ us.size ≤ sizeLine ∧ Vals xs us.toList
theorem SqN.T {K : PySem.W.Frag} {H : Hp} {a : Addr} {xs : List V} (h : SqN K H a xs) : SqT K H a xs := by
  rcases h with ⟨o, h, _⟩ | ⟨o, us, j, h1, h2, _, h4⟩
  · exact .inl (.inr ⟨o, h⟩)
  · exact .inr ⟨o, us, j, h1, h2, h4⟩
mutual
def Rep (g : Gs) (w : Wd) : D → V → Prop
  | .none, v => v = .non
  | .bool b, v => v = .bl b
  | .int i, v => v = .int i
  | .str s, v => v = .str s
  | .tup ds, v => ∃ a vs, v = .ref a ∧ SqN g.K w.P a vs ∧ Reps g w ds vs
  | .prs ds, v => ∃ a vs, v = .ref a ∧ SqT g.K w.P a vs ∧ Reps g w ds vs
  | .lst ds, v => ∃ a vs, v = .ref a ∧ w.P a = some (.lst vs) ∧ Reps g w ds vs
  | .scr ds, v => ∃ a vs, v = .ref a ∧ SqL g.K w.P a vs ∧ Reps g w ds vs
  | .dct ks ds, v => ∃ a xs, v = .ref a ∧ w.P a = some (dctO g a xs) ∧ ks.map nkD = xs.map (fun p => some p.1) ∧ Reps g w ks (xs.map fun p => V.ref p.2.1) ∧ Reps g w ds (xs.map fun p => p.2.2)
  | .inst c ds, v => ∃ a dx vs, v = .ref a ∧ w.P a = some (.ins (g.cl c) dx ((fldN c).zip vs)) ∧ ds.length = (fldN c).length ∧ g.has c = true ∧ Reps g w ds vs
  | .box n, v => ∃ a, v = .ref a ∧ w.io n = some a
  | .cls c, v => v = .ref (g.cl c) ∧ g.has c = true
  | .ptr a, v => v = .ref a
  | .kd k x, v => ∃ a, v = .ref a ∧ w.P a = some (.dK [(.inl k, .int x)])
  | .exo a dd f x, v => v = .ref a ∧ ∃ y, w.P dd = some (.xd [(f, y)]) ∧ Rep g w x y
  | .fnT k, v => ((g.lmd k).live = true ∧ v = .ref (g.lmd k).fa ∧ w.P (g.lmd k).ca = some (LamX.CodeO (g.lmd k).ca (g.lam k).q)) ∨ ∃ (a c' : Addr) (pm ct : Value), (g.lmd k).live = false ∧ v = .ref a ∧ w.P a = some (ObE a (PySem.W.kla_obj "<lambda>" (g.lam k).q (g.lam k).prm (g.lam k).bd (g.lam k).sc [] pm c' ct)) ∧ w.P c' = some (LamX.CodeO c' (g.lam k).q)
def Reps (g : Gs) (w : Wd) : List D → List V → Prop
  | [], vs => vs = []
  | d :: ds, vs => ∃ v us, vs = v :: us ∧ Rep g w d v ∧ Reps g w ds us
end

/-- what stands at the address of a container -/
def Cont (g : Gs) (w : Wd) : D → Addr → HO → Prop
  | .lst ds, _, o => ∃ vs, o = .lst vs ∧ Reps g w ds vs
  | .dct ks ds, a, o => ∃ xs, o = dctO g a xs ∧ ks.map nkD = xs.map (fun p => some p.1) ∧ Reps g w ks (xs.map fun p => V.ref p.2.1) ∧ Reps g w ds (xs.map fun p => p.2.2)
  | .inst c ds, _, o => ∃ dx vs, o = .ins (g.cl c) dx ((fldN c).zip vs) ∧ ds.length ≤ (fldN c).length ∧ g.has c = true ∧ Reps g w ds vs
  | _, _, _ => False

/-- no table, no code object -/
structure Nt (o : HO) : Prop where
  t : ∀ ps, o ≠ .tbl ps
  c : ∀ a q, o ≠ LamX.CodeO a q
  x : ∀ fs, o ≠ .xd fs
/-- what may become known of a thing that stands already -/
def PX (b : Addr) (o : HO) : Prop := (∃ q, o = LamX.CodeO b q) ∨ ∃ fs, o = .xd fs
theorem Nt.px {b : Addr} {o : HO} (n : Nt o) (h : PX b o) : False := h.elim (fun ⟨q, e⟩ => n.c _ _ e) fun ⟨fs, e⟩ => n.x _ e
def filO (c : Addr) (o1 o2 : Obj) : Heap := ⟨(Array.replicate c o1).push o2, {}⟩
theorem filO_at (c : Addr) (vs ws : Array Value) (a : Addr) (o : Obj) (h : (filO c { cls := .none, data := .fields vs } { cls := .none, data := .fields ws }).get? a = some o) : ∃ us, o.data = .fields us := by
  have hx : ∀ x, ((Array.replicate c ({ cls := .none, data := .fields vs } : Obj)).push { cls := .none, data := .fields ws })[a]? = some x → ∃ us, x.data = .fields us := fun x hx => by
    simp only [Array.getElem?_push, Array.size_replicate, Array.getElem?_replicate] at hx
    split at hx
    · cases hx; exact ⟨_, rfl⟩
    · split at hx
      · cases hx; exact ⟨_, rfl⟩
      · cases hx
  unfold filO Heap.get? at h
  simp only at h
  revert h
  cases e : ((Array.replicate c ({ cls := .none, data := .fields vs } : Obj)).push { cls := .none, data := .fields ws })[a]? with
  | none => intro h; cases h
  | some x =>
    obtain ⟨us, hu⟩ := hx x e
    obtain ⟨c1, d1, da, sl⟩ := x
    simp only at hu
    subst hu
    intro h
    cases h
    exact ⟨us, rfl⟩
theorem filO_c (c : Addr) (vs ws : Array Value) : (filO c { cls := .none, data := .fields vs } { cls := .none, data := .fields ws }).get? c = some { cls := .none, data := .fields ws } := by
  simp only [filO, Heap.get?, Array.getElem?_push, Array.size_replicate, if_true]
theorem codeO_dct (g : Gs) (a c : Addr) (xs : List (NestedKey × Addr × V)) (q : Str) : dctO g a xs ≠ LamX.CodeO c q := fun e => by
  unfold dctO LamX.CodeO at e
  have e := HO.ext.inj e
  have h1 := congrFun e (filO c { cls := .none, data := .fields #[] } { cls := .none, data := .fields #[.none, .str q default] })
  have h2 := h1.symm.mp ⟨_, _, default, filO_c c _ _, rfl, rfl⟩
  obtain ⟨_, _, _, _, ys, _, o, es, ep, hg, _, hd, _⟩ := h2
  obtain ⟨us, hu⟩ := filO_at _ _ _ _ _ hg
  rw [hu] at hd
  cases hd
theorem nt_lst (xs : List V) : Nt (.lst xs) := ⟨fun ps e => (nomatch e), fun a q e => (by unfold LamX.CodeO at e; cases e), fun fs e => nomatch e⟩
theorem nt_ins (C dx : Addr) (xs : List (Str × V)) : Nt (.ins C dx xs) := ⟨fun ps e => (nomatch e), fun a q e => (by unfold LamX.CodeO at e; cases e), fun fs e => nomatch e⟩
theorem nt_dct (g : Gs) (a : Addr) (xs : List (NestedKey × Addr × V)) : Nt (dctO g a xs) := ⟨fun ps e => (by unfold dctO at e; cases e), fun c q => codeO_dct g a c xs q, fun fs e => by unfold dctO at e; cases e⟩
theorem Cont.nt {g : Gs} {w : Wd} : ∀ {d : D} {a : Addr} {o : HO}, Cont g w d a o → Nt o := by
  intro d a o h
  cases d <;> simp only [Cont] at h
  · obtain ⟨vs, rfl, _⟩ := h; exact nt_lst vs
  · obtain ⟨xs, rfl, _⟩ := h; exact nt_dct g a xs
  · obtain ⟨dx, vs, rfl, _⟩ := h; exact nt_ins _ _ _
/-- what is no table and no code object may change -/
theorem tabs_upd {T : List (Addr × Str)} {H : Hp} {a : Addr} {o : HO} (t : LamX.Tabs T H) (h : ∀ u, H a = some u → Nt u) : LamX.Tabs T (upd H a o) := fun p hp => by
  obtain ⟨ps, h1, h2, h3⟩ := t p hp
  have na : ∀ b u, H b = some u → ¬ Nt u → b ≠ a := fun b u e n z => n (h u (z ▸ e))
  refine ⟨ps, by rw [upd_ne (na _ _ h1 fun z => z.t ps rfl)]; exact h1, h2, fun pos cv hc => ?_⟩
  obtain ⟨c, e1, e2⟩ := h3 pos cv hc
  exact ⟨c, e1, by rw [upd_ne (na _ _ e2 fun z => z.c _ _ rfl)]; exact e2⟩
structure Le (w w' : Wd) : Prop where
  P : Same w.P w'.P
  io : ∀ n a, w.io n = some a → w'.io n = some a
theorem Le.refl (w : Wd) : Le w w := ⟨Same.refl _, fun _ _ h => h⟩
theorem Le.trans {a b c : Wd} (x : Le a b) (y : Le b c) : Le a c := ⟨x.P.trans y.P, fun n p h => y.io n p (x.io n p h)⟩

theorem sqT_mono {K : PySem.W.Frag} {H H' : Hp} {a : Addr} {vs : List V} (e : Same H H') (h : SqT K H a vs) : SqT K H' a vs := by
  rcases h with (h | ⟨o, h⟩) | h
  · exact .inl (.inl (e _ _ h))
  · exact .inl (.inr ⟨o, e _ _ h⟩)
  · exact .inr h

theorem sqN_mono {K : PySem.W.Frag} {H H' : Hp} {a : Addr} {vs : List V} (e : Same H H') (h : SqN K H a vs) : SqN K H' a vs := by
  rcases h with ⟨o, h, hd⟩ | h
  · exact .inl ⟨o, e _ _ h, hd⟩
  · exact .inr h
mutual
theorem Rep.mono {g : Gs} {w w' : Wd} (l : Le w w') : ∀ (d : D) (v : V), Rep g w d v → Rep g w' d v
  | .none, v, h => by simpa only [Rep] using h
  | .bool b, v, h => by simpa only [Rep] using h
  | .int b, v, h => by simpa only [Rep] using h
  | .str b, v, h => by simpa only [Rep] using h
  | .tup ds, v, h => by
    simp only [Rep] at h ⊢
    obtain ⟨a, vs, e, q, r⟩ := h
    exact ⟨a, vs, e, sqN_mono l.P q, Reps.mono l ds vs r⟩
  | .prs ds, v, h => by
    simp only [Rep] at h ⊢
    obtain ⟨a, vs, e, q, r⟩ := h
    exact ⟨a, vs, e, sqT_mono l.P q, Reps.mono l ds vs r⟩
  | .lst ds, v, h => by
    simp only [Rep] at h ⊢
    obtain ⟨a, vs, e, q, r⟩ := h
    exact ⟨a, vs, e, l.P _ _ q, Reps.mono l ds vs r⟩
  | .scr ds, v, h => by
    simp only [Rep] at h ⊢
    obtain ⟨a, vs, e, q, r⟩ := h
    exact ⟨a, vs, e, l.P.seq q, Reps.mono l ds vs r⟩
  | .dct ks ds, v, h => by
    simp only [Rep] at h ⊢
    obtain ⟨a, xs, e, q, q2, r1, r⟩ := h
    exact ⟨a, xs, e, l.P _ _ q, q2, Reps.mono l ks _ r1, Reps.mono l ds _ r⟩
  | .inst c ds, v, h => by
    simp only [Rep] at h ⊢
    obtain ⟨a, dx, vs, e, q, q1, q2, r⟩ := h
    exact ⟨a, dx, vs, e, l.P _ _ q, q1, q2, Reps.mono l ds vs r⟩
  | .box n, v, h => by
    simp only [Rep] at h ⊢
    obtain ⟨a, e, q⟩ := h
    exact ⟨a, e, l.io _ _ q⟩
  | .cls c, v, h => by simpa only [Rep] using h
  | .ptr c, v, h => by simpa only [Rep] using h
  | .kd k x, v, h => by
    simp only [Rep] at h ⊢
    obtain ⟨a, e, q⟩ := h
    exact ⟨a, e, l.P _ _ q⟩
  | .exo a dd f x, v, h => by
    simp only [Rep] at h ⊢
    obtain ⟨e, y, q, r⟩ := h
    exact ⟨e, y, l.P _ _ q, Rep.mono l x y r⟩
  | .fnT k, v, h => by
    simp only [Rep] at h ⊢
    rcases h with ⟨h1, h2, h3⟩ | ⟨a, c', pm, ct, e0, e, q, q2⟩
    · exact .inl ⟨h1, h2, l.P _ _ h3⟩
    · exact .inr ⟨a, c', pm, ct, e0, e, l.P _ _ q, l.P _ _ q2⟩
theorem Reps.mono {g : Gs} {w w' : Wd} (l : Le w w') : ∀ (ds : List D) (vs : List V), Reps g w ds vs → Reps g w' ds vs
  | [], vs, h => by simpa only [Reps] using h
  | d :: ds, vs, h => by
    simp only [Reps] at h ⊢
    obtain ⟨v, us, e, r, rs⟩ := h
    exact ⟨v, us, e, Rep.mono l d v r, Reps.mono l ds us rs⟩
end
theorem Cont.mono {g : Gs} {w w' : Wd} (l : Le w w') : ∀ {d : D} {a : Addr} {o : HO}, Cont g w d a o → Cont g w' d a o := by
  intro d a o h
  cases d <;> simp only [Cont] at h ⊢
  · obtain ⟨vs, e, r⟩ := h; exact ⟨vs, e, Reps.mono l _ _ r⟩
  · obtain ⟨xs, e, q2, r1, r⟩ := h; exact ⟨xs, e, q2, Reps.mono l _ _ r1, Reps.mono l _ _ r⟩
  · obtain ⟨dx, vs, e, q, q2, r⟩ := h; exact ⟨dx, vs, e, q, q2, Reps.mono l _ _ r⟩

structure RB (g : Gs) (w : Wd) (B : Bs) (H : Hp) : Prop where
  sub : Same w.P H
  get : ∀ n b, B[n]? = some b → ∃ a o, w.io n = some a ∧ H a = some o ∧ Cont g w b a o
  inj : ∀ n m a, w.io n = some a → w.io m = some a → n = m
  np : ∀ n a, w.io n = some a → w.P a = Option.none
  dom : ∀ n a, w.io n = some a → n < B.length
  tb : LamX.Tabs g.tabs H
  nt : ∀ b ps, w.P b ≠ some (.tbl ps)
structure Ext (w : Wd) (H : Hp) (w' : Wd) (H' : Hp) : Prop where
  le : Le w w'
  keep : ∀ b o, H b = some o → (∀ n, w.io n ≠ some b) → (∀ ps, o ≠ .tbl ps) → H' b = some o
  pf : ∀ b o, w'.P b = some o → w.P b = some o ∨ H b = Option.none ∨ PX b o
  iof : ∀ n a, w'.io n = some a → w.io n = some a ∨ H a = Option.none
  there : ∀ b, H b ≠ Option.none → H' b ≠ Option.none
  me : w'.me = w.me
theorem Ext.refl (w : Wd) (H : Hp) : Ext w H w H := ⟨Le.refl _, fun _ _ h _ _ => h, fun _ _ h => .inl h, fun _ _ h => .inl h, fun _ h => h, rfl⟩
theorem Ext.trans {a b c : Wd} {H H1 H2 : Hp} (x : Ext a H b H1) (y : Ext b H1 c H2) : Ext a H c H2 where
  le := x.le.trans y.le
  keep := fun p o h hn ht => y.keep p o (x.keep p o h hn ht) (fun n e => by
    rcases x.iof n p e with z | z
    · exact hn n z
    · rw [h] at z; cases z) ht
  pf := fun p o h => by
    rcases y.pf p o h with z | z | z
    · exact x.pf p o z
    · refine .inr (.inl (Classical.byContradiction fun q => x.there p q z))
    · exact .inr (.inr z)
  iof := fun n p h => by
    rcases y.iof n p h with z | z
    · exact x.iof n p z
    · refine .inr (Classical.byContradiction fun q => x.there p q z)
  there := fun p h => y.there p (x.there p h)
  me := y.me.trans x.me

structure S0 (g : Gs) (H0 : Hp) (w : Wd) (σI : Sl) (B : Bs) (σ : L2.St) (H : Hp) : Prop where
  rb : RB g w B H
  len : σI.length = σ.length
  sl : ∀ (i : Nat) (d : D), σI[i]? = some (some (false, d)) → ∃ v, σ[i]? = some (some v) ∧ Rep g w d v
  ow : ∀ (i : Nat) (d : D), σI[i]? = some (some (true, d)) → ∃ a o, σ[i]? = some (some (.ref a)) ∧ H a = some o ∧ Cont g w d a o ∧ w.P a = Option.none ∧ (∀ n, w.io n ≠ some a) ∧ H0 a = Option.none
  oi : ∀ (i j : Nat) (d e : D) (a : Addr), σI[i]? = some (some (true, d)) → σI[j]? = some (some (true, e)) → σ[i]? = some (some (.ref a)) → σ[j]? = some (some (.ref a)) → i = j
  me : ∀ (i c : Nat) (ds : List D) (a : Addr), σI[i]? = some (some (true, .inst c ds)) → σ[i]? = some (some (.ref a)) → w.me = some a
theorem S0.step {g : Gs} {H0 : Hp} {w w' : Wd} {σI : Sl} {B B' : Bs} {σ : L2.St} {H H' : Hp} (s : S0 g H0 w σI B σ H) (x : Ext w H w' H') (rb : RB g w' B' H') : S0 g H0 w' σI B' σ H' where
  rb := rb
  len := s.len
  sl := fun (i : Nat) d h => by
    obtain ⟨v, e, r⟩ := s.sl i d h
    exact ⟨v, e, Rep.mono x.le d v r⟩
  ow := fun (i : Nat) d h => by
    obtain ⟨a, o, e, ha, c, np, nb, n0⟩ := s.ow i d h
    have hk := x.keep a o ha nb c.nt.t
    refine ⟨a, o, e, hk, Cont.mono x.le c, ?_, fun n z => ?_, n0⟩
    · cases q : w'.P a with
      | none => rfl
      | some u =>
        rcases x.pf a u q with z | z | z
        · rw [np] at z; cases z
        · rw [ha] at z; cases z
        · have y := rb.sub a u q
          rw [hk] at y; cases y
          exact (c.nt.px z).elim
    · rcases x.iof n a z with z | z
      · exact nb n z
      · rw [ha] at z; cases z
  oi := s.oi
  me := fun i c ds a h1 h2 => x.me.trans (s.me i c ds a h1 h2)

def RepO (g : Gs) (w : Wd) (σI : Sl) (σ : L2.St) (d : D) (v : V) : Prop := Rep g w d v ∨ ∃ i : Nat, σI[i]? = some (some (true, d)) ∧ σ[i]? = some (some v)
theorem RepO.mono {g : Gs} {w w' : Wd} {σI : Sl} {σ : L2.St} {d : D} {v : V} (l : Le w w') (h : RepO g w σI σ d v) : RepO g w' σI σ d v := by
  rcases h with h | h
  · exact .inl (Rep.mono l d v h)
  · exact .inr h

def ExcR (g : Gs) (w : Wd) (c : Nat) (x : Option D) (cls : Value) (dd : Option Addr) (H : Hp) : Prop :=
  cls = .ref (g.cl c) ∧ match x with
    | Option.none => dd = Option.none
    | some d => ∃ a v, dd = some a ∧ H a = some (.xd [(excF c, v)]) ∧ Rep g w d v

/-- a value; bo: or a name's own container, to be read at once -/
def RepB (g : Gs) (w : Wd) (σI : Sl) (σ : L2.St) : Bool → D → V → Prop
  | false, d, v => Rep g w d v
  | true, d, v => RepO g w σI σ d v
theorem RepB.up {g : Gs} {w : Wd} {σI : Sl} {σ : L2.St} {d : D} {v : V} : ∀ {bo : Bool}, RepB g w σI σ bo d v → RepO g w σI σ d v
  | false, h => .inl h
  | true, h => h
/-- what is wanted of an expression's end -/
def PostE (g : Gs) (E : XK) (w : Wd) (H : Hp) (σI : Sl) (σ : L2.St) (bo : Bool) (Q : VK) : Rs D → Prop
  | .ok d B' => ∀ w' v H', Ext w H w' H' → RB g w' B' H' → RepB g w' σI σ bo d v → Q v H'
  | .exc c x B' => ∀ w' cls dd H', Ext w H w' H' → RB g w' B' H' → ExcR g w' c x cls dd H' → E cls dd H'
  | .bad => False
/-- the same of several values -/
def PostEs (g : Gs) (E : XK) (w : Wd) (H : Hp) (Q : List V → Hp → Prop) : Rs (List D) → Prop
  | .ok ds B' => ∀ w' vs H', Ext w H w' H' → RB g w' B' H' → Reps g w' ds vs → Q vs H'
  | .exc c x B' => ∀ w' cls dd H', Ext w H w' H' → RB g w' B' H' → ExcR g w' c x cls dd H' → E cls dd H'
  | .bad => False
/-- of a test -/
def PostT (g : Gs) (E : XK) (w : Wd) (H : Hp) (Q : Bool → Hp → Prop) : Rs Bool → Prop
  | .ok b B' => ∀ w' H', Ext w H w' H' → RB g w' B' H' → Q b H'
  | .exc c x B' => ∀ w' cls dd H', Ext w H w' H' → RB g w' B' H' → ExcR g w' c x cls dd H' → E cls dd H'
  | .bad => False
abbrev Et := Sl → Bs → Rs Bool
def tI (g : Gs) (E : XK) (H0 : Hp) (bo : Bool) (m : Ev) : TE := fun σ H Q => ∃ w σI B, S0 g H0 w σI B σ H ∧ PostE g E w H σI σ bo Q (m σI B)
def tIs (g : Gs) (E : XK) (H0 : Hp) (m : Evs) : TA := fun σ H Q => ∃ w σI B, S0 g H0 w σI B σ H ∧ PostEs g E w H Q (m σI B)
def tIt (g : Gs) (E : XK) (H0 : Hp) (m : Et) : TT := fun σ H Q => ∃ w σI B, S0 g H0 w σI B σ H ∧ PostT g E w H Q (m σI B)
/-- the expression's meaning is m -/
abbrev Snd (g : Gs) (E : XK) (H0 : Hp) (X : Cx) (bo : Bool) (e : Expr) (m : Ev) : Prop := PE X e (tI g E H0 bo m)
abbrev Snds (g : Gs) (E : XK) (H0 : Hp) (X : Cx) (es : List Expr) (m : Evs) : Prop := PA X es (tIs g E H0 m)
abbrev SndT (g : Gs) (E : XK) (H0 : Hp) (X : Cx) (e : Expr) (m : Et) : Prop := PT X e (tIt g E H0 m)
abbrev SndW (g : Gs) (E : XK) (H0 : Hp) (X : Cx) (e : Expr) (m : Et) : Prop := PW X e (tIt g E H0 m)

theorem weak {X : Cx} {e : Expr} {t t' : TE} (h : PE X e t) (k : ∀ σ H Q, t' σ H Q → t σ H Q) : PE X e t' := ⟨fun pins s σ H Q I q => h.run pins s σ H Q I (k σ H Q q)⟩
theorem weakA {X : Cx} {es : List Expr} {t t' : TA} (h : PA X es t) (k : ∀ σ H Q, t' σ H Q → t σ H Q) : PA X es t' := ⟨fun pos pins s σ H Q I q => h.run pos pins s σ H Q I (k σ H Q q)⟩
theorem weakT {X : Cx} {e : Expr} {t t' : TT} (h : PT X e t) (k : ∀ σ H Q, t' σ H Q → t σ H Q) : PT X e t' := ⟨fun pins s σ H Q I q => h.run pins s σ H Q I (k σ H Q q)⟩
theorem weakW {X : Cx} {e : Expr} {t t' : TT} (h : PW X e t) (k : ∀ σ H Q, t' σ H Q → t σ H Q) : PW X e t' := ⟨fun wh pins s σ H Q I q => h.run wh pins s σ H Q I (k σ H Q q)⟩

section
variable {g : Gs} {E : XK} {H0 : Hp} {w w1 : Wd} {H H1 : Hp} {σI : Sl} {σ : L2.St} {bo bo1 : Bool} {Q : VK}
/-- an end is wanted of a later state -/
theorem PostE.ext (x : Ext w H w1 H1) : ∀ {m : Rs D}, PostE g E w H σI σ bo Q m → PostE g E w1 H1 σI σ bo Q m
  | .ok _ _, h => fun w2 v2 H2 x2 rb2 r2 => h w2 v2 H2 (x.trans x2) rb2 r2
  | .exc _ _ _, h => fun w2 cls dd H2 x2 rb2 r2 => h w2 cls dd H2 (x.trans x2) rb2 r2
  | .bad, h => h
theorem PostEs.ext {Q : List V → Hp → Prop} (x : Ext w H w1 H1) : ∀ {m : Rs (List D)}, PostEs g E w H Q m → PostEs g E w1 H1 Q m
  | .ok _ _, h => fun w2 v2 H2 x2 rb2 r2 => h w2 v2 H2 (x.trans x2) rb2 r2
  | .exc _ _ _, h => fun w2 cls dd H2 x2 rb2 r2 => h w2 cls dd H2 (x.trans x2) rb2 r2
  | .bad, h => h
theorem PostT.ext {Q : Bool → Hp → Prop} (x : Ext w H w1 H1) : ∀ {m : Rs Bool}, PostT g E w H Q m → PostT g E w1 H1 Q m
  | .ok _ _, h => fun w2 H2 x2 rb2 => h w2 H2 (x.trans x2) rb2
  | .exc _ _ _, h => fun w2 cls dd H2 x2 rb2 r2 => h w2 cls dd H2 (x.trans x2) rb2 r2
  | .bad, h => h

/-- THE STEP: a part's reading from what is wanted of the whole -/
theorem tI_go {m : Ev} {B : Bs} {Q1 : VK} (s : S0 g H0 w σI B σ H) (he : ∀ c x B1, m σI B = .exc c x B1 → ∀ w' cls dd H', Ext w H w' H' → RB g w' B1 H' → ExcR g w' c x cls dd H' → E cls dd H') (hb : m σI B ≠ .bad)
    (ho : ∀ d B1, m σI B = .ok d B1 → ∀ w1 v H1, Ext w H w1 H1 → S0 g H0 w1 σI B1 σ H1 → RepB g w1 σI σ bo d v → Q1 v H1) : tI g E H0 bo m σ H Q1 := by
  refine ⟨w, σI, B, s, ?_⟩
  cases q : m σI B with
  | ok d B1 => exact fun w1 v H1 x rb r => ho d B1 q w1 v H1 x (s.step x rb) r
  | exc c x B1 => exact he c x B1 q
  | bad => exact hb q
theorem tI_bind {m : Ev} {f : D → Bs → Rs D} {B : Bs} {Q1 : VK} (s : S0 g H0 w σI B σ H) (p : PostE g E w H σI σ bo1 Q ((m σI B).bind f))
    (ho : ∀ d B1 w1 v H1, Ext w H w1 H1 → S0 g H0 w1 σI B1 σ H1 → RepB g w1 σI σ bo d v → PostE g E w1 H1 σI σ bo1 Q (f d B1) → Q1 v H1) : tI g E H0 bo m σ H Q1 := by
  refine tI_go s (fun c x B1 q => ?_) (fun q => ?_) fun d B1 q w1 v H1 x s1 r => ?_
  · rw [q] at p; exact p
  · rw [q] at p; exact p
  · rw [q] at p; exact ho d B1 w1 v H1 x s1 r (PostE.ext x p)
theorem tI_bindA {m : Ev} {f : D → Bs → Rs (List D)} {B : Bs} {Q1 : VK} {Q : List V → Hp → Prop} (s : S0 g H0 w σI B σ H) (p : PostEs g E w H Q ((m σI B).bind f))
    (ho : ∀ d B1 w1 v H1, Ext w H w1 H1 → S0 g H0 w1 σI B1 σ H1 → RepB g w1 σI σ bo d v → PostEs g E w1 H1 Q (f d B1) → Q1 v H1) : tI g E H0 bo m σ H Q1 := by
  refine tI_go s (fun c x B1 q => ?_) (fun q => ?_) fun d B1 q w1 v H1 x s1 r => ?_
  · rw [q] at p; exact p
  · rw [q] at p; exact p
  · rw [q] at p; exact ho d B1 w1 v H1 x s1 r (PostEs.ext x p)
theorem tI_bindT {m : Ev} {f : D → Bs → Rs Bool} {B : Bs} {Q1 : VK} {Q : Bool → Hp → Prop} (s : S0 g H0 w σI B σ H) (p : PostT g E w H Q ((m σI B).bind f))
    (ho : ∀ d B1 w1 v H1, Ext w H w1 H1 → S0 g H0 w1 σI B1 σ H1 → RepB g w1 σI σ bo d v → PostT g E w1 H1 Q (f d B1) → Q1 v H1) : tI g E H0 bo m σ H Q1 := by
  refine tI_go s (fun c x B1 q => ?_) (fun q => ?_) fun d B1 q w1 v H1 x s1 r => ?_
  · rw [q] at p; exact p
  · rw [q] at p; exact p
  · rw [q] at p; exact ho d B1 w1 v H1 x s1 r (PostT.ext x p)
/-- the same for an argument list -/
theorem tIs_go {m : Evs} {B : Bs} {Q1 : List V → Hp → Prop} (s : S0 g H0 w σI B σ H) (he : ∀ c x B1, m σI B = .exc c x B1 → ∀ w' cls dd H', Ext w H w' H' → RB g w' B1 H' → ExcR g w' c x cls dd H' → E cls dd H') (hb : m σI B ≠ .bad)
    (ho : ∀ d B1, m σI B = .ok d B1 → ∀ w1 v H1, Ext w H w1 H1 → S0 g H0 w1 σI B1 σ H1 → Reps g w1 d v → Q1 v H1) : tIs g E H0 m σ H Q1 := by
  refine ⟨w, σI, B, s, ?_⟩
  cases q : m σI B with
  | ok d B1 => exact fun w1 v H1 x rb r => ho d B1 q w1 v H1 x (s.step x rb) r
  | exc c x B1 => exact he c x B1 q
  | bad => exact hb q
theorem tIs_bind {m : Evs} {f : List D → Bs → Rs D} {B : Bs} {Q1 : List V → Hp → Prop} (s : S0 g H0 w σI B σ H) (p : PostE g E w H σI σ bo1 Q ((m σI B).bind f))
    (ho : ∀ d B1 w1 v H1, Ext w H w1 H1 → S0 g H0 w1 σI B1 σ H1 → Reps g w1 d v → PostE g E w1 H1 σI σ bo1 Q (f d B1) → Q1 v H1) : tIs g E H0 m σ H Q1 := by
  refine tIs_go s (fun c x B1 q => ?_) (fun q => ?_) fun d B1 q w1 v H1 x s1 r => ?_
  · rw [q] at p; exact p
  · rw [q] at p; exact p
  · rw [q] at p; exact ho d B1 w1 v H1 x s1 r (PostE.ext x p)
theorem tIs_bindA {m : Evs} {f : List D → Bs → Rs (List D)} {B : Bs} {Q1 Q : List V → Hp → Prop} (s : S0 g H0 w σI B σ H) (p : PostEs g E w H Q ((m σI B).bind f))
    (ho : ∀ d B1 w1 v H1, Ext w H w1 H1 → S0 g H0 w1 σI B1 σ H1 → Reps g w1 d v → PostEs g E w1 H1 Q (f d B1) → Q1 v H1) : tIs g E H0 m σ H Q1 := by
  refine tIs_go s (fun c x B1 q => ?_) (fun q => ?_) fun d B1 q w1 v H1 x s1 r => ?_
  · rw [q] at p; exact p
  · rw [q] at p; exact p
  · rw [q] at p; exact ho d B1 w1 v H1 x s1 r (PostEs.ext x p)
/-- for a test -/
theorem tIt_go {m : Et} {B : Bs} {Q1 : Bool → Hp → Prop} (s : S0 g H0 w σI B σ H) (he : ∀ c x B1, m σI B = .exc c x B1 → ∀ w' cls dd H', Ext w H w' H' → RB g w' B1 H' → ExcR g w' c x cls dd H' → E cls dd H') (hb : m σI B ≠ .bad)
    (ho : ∀ d B1, m σI B = .ok d B1 → ∀ w1 H1, Ext w H w1 H1 → S0 g H0 w1 σI B1 σ H1 → Q1 d H1) : tIt g E H0 m σ H Q1 := by
  refine ⟨w, σI, B, s, ?_⟩
  cases q : m σI B with
  | ok d B1 => exact fun w1 H1 x rb => ho d B1 q w1 H1 x (s.step x rb)
  | exc c x B1 => exact he c x B1 q
  | bad => exact hb q
theorem tIt_bind {m : Et} {f : Bool → Bs → Rs D} {B : Bs} {Q1 : Bool → Hp → Prop} (s : S0 g H0 w σI B σ H) (p : PostE g E w H σI σ bo1 Q ((m σI B).bind f))
    (ho : ∀ d B1 w1 H1, Ext w H w1 H1 → S0 g H0 w1 σI B1 σ H1 → PostE g E w1 H1 σI σ bo1 Q (f d B1) → Q1 d H1) : tIt g E H0 m σ H Q1 := by
  refine tIt_go s (fun c x B1 q => ?_) (fun q => ?_) fun d B1 q w1 H1 x s1 => ?_
  · rw [q] at p; exact p
  · rw [q] at p; exact p
  · rw [q] at p; exact ho d B1 w1 H1 x s1 (PostE.ext x p)
theorem tIt_bindT {m : Et} {f : Bool → Bs → Rs Bool} {B : Bs} {Q1 Q : Bool → Hp → Prop} (s : S0 g H0 w σI B σ H) (p : PostT g E w H Q ((m σI B).bind f))
    (ho : ∀ d B1 w1 H1, Ext w H w1 H1 → S0 g H0 w1 σI B1 σ H1 → PostT g E w1 H1 Q (f d B1) → Q1 d H1) : tIt g E H0 m σ H Q1 := by
  refine tIt_go s (fun c x B1 q => ?_) (fun q => ?_) fun d B1 q w1 H1 x s1 => ?_
  · rw [q] at p; exact p
  · rw [q] at p; exact p
  · rw [q] at p; exact ho d B1 w1 H1 x s1 (PostT.ext x p)
end

def mBin (f : D → D → Bs → Rs D) (a b : Ev) : Ev := fun σI B => (a σI B).bind fun x B1 => (b σI B1).bind fun y B2 => f x y B2
def OpSem (g : Gs) (E : XK) (H0 : Hp) (r : R2) (f : D → D → Bs → Rs D) : Prop := ∀ (w : Wd) (σI : Sl) (B : Bs) (σ : L2.St) (H : Hp) (Q : VK) (x y : V) (dx dy : D),
  S0 g H0 w σI B σ H → RepO g w σI σ dx x → RepO g w σI σ dy y → PostE g E w H σI σ false Q (f dx dy B) → r x y H Q
section
variable {g : Gs} {E : XK} {H0 : Hp} {X : Cx} {a b : Expr} {ma mb : Ev} {pos : Pos} {b1 b2 : Bool}
theorem tOp_of {r : R2} {f : D → D → Bs → Rs D} (h : OpSem g E H0 r f) : ∀ σ H Q, tI g E H0 false (mBin f ma mb) σ H Q → tOp r (tI g E H0 b1 ma) (tI g E H0 b2 mb) σ H Q := by
  rintro σ H Q ⟨w, σI, B, s, p⟩
  refine tI_bind s p fun d B1 w1 v H1 x1 s1 r1 p1 => ?_
  refine tI_bind s1 p1 fun d2 B2 w2 v2 H2 x2 s2 r2 p2 => ?_
  exact h w2 σI B2 σ H2 Q v v2 d d2 s2 (r1.up.mono x2.le) r2.up p2
theorem s_bin {op : Operator} {r : R2} {f : D → D → Bs → Rs D} (ho : OpR X (binaryOp op) r) (h : OpSem g E H0 r f) (ha : Snd g E H0 X b1 a ma) (hb : Snd g E H0 X b2 b mb) : Snd g E H0 X false (.BinOp a op b pos) (mBin f ma mb) :=
  weak (pe_op ho ha hb) (tOp_of h)

def mVar (i : Nat) : Ev := fun σI B => match σI[i]? with
  | some (some (false, d)) => .ok d B
  | _ => .bad
def mBor (i : Nat) : Ev := fun σI B => match σI[i]? with
  | some (some (_, d)) => .ok d B
  | _ => .bad
def mC (d : D) : Ev := fun _ B => .ok d B
theorem s_var {i : Nat} {x : Str} (hN : X.N[i]? = some x := by rfl) (hv : Vis X.env.scope x := by first | exact Or.inl rfl | exact Or.inr (Or.inl rfl) | exact Or.inr (Or.inr rfl)) (hd : (x == ("__debug__" : Str)) = false := by decide)
    (hcd : (x == ("__classdict__" : Str)) = false := by decide) : Snd g E H0 X false (.Name x pos) (mVar i) := weak (pe_var hN hv hd hcd) fun σ H Q ⟨w, σI, B, s, p⟩ => by
  unfold mVar at p
  split at p
  · rename_i d e
    obtain ⟨v, h1, h2⟩ := s.sl i d e
    exact ⟨v, h1, p w v H (Ext.refl _ _) s.rb h2⟩
  · exact p.elim
theorem s_bor {i : Nat} {x : Str} (hN : X.N[i]? = some x := by rfl) (hv : Vis X.env.scope x := by first | exact Or.inl rfl | exact Or.inr (Or.inl rfl) | exact Or.inr (Or.inr rfl)) (hd : (x == ("__debug__" : Str)) = false := by decide)
    (hcd : (x == ("__classdict__" : Str)) = false := by decide) : Snd g E H0 X true (.Name x pos) (mBor i) := weak (pe_var hN hv hd hcd) fun σ H Q ⟨w, σI, B, s, p⟩ => by
  unfold mBor at p
  split at p
  · rename_i k d e
    cases k with
    | false =>
      obtain ⟨v, h1, h2⟩ := s.sl i d e
      exact ⟨v, h1, p w v H (Ext.refl _ _) s.rb (.inl h2)⟩
    | true =>
      obtain ⟨a, o, h1, h2, _⟩ := s.ow i d e
      exact ⟨_, h1, p w _ H (Ext.refl _ _) s.rb (.inr ⟨i, e, h1⟩)⟩
  · exact p.elim
theorem s_const {e : Expr} {v : V} {d : D} (h : PE X e (tC v)) (r : ∀ w, Rep g w d v) : Snd g E H0 X false e (mC d) := weak h fun σ H Q ⟨w, σI, B, s, p⟩ => p w v H (Ext.refl _ _) s.rb (r w)
theorem s_int {i : Int} {j : Nat} : Snd g E H0 X false (.Constant (.int i) j pos) (mC (.int i)) := s_const pe_int fun w => by simp only [Rep]
theorem s_bool {x : Bool} {j : Nat} : Snd g E H0 X false (.Constant (.bool x) j pos) (mC (.bool x)) := s_const pe_bl fun w => by simp only [Rep]
theorem s_none {j : Nat} : Snd g E H0 X false (.Constant .none j pos) (mC .none) := s_const pe_non fun w => by simp only [Rep]
end
/-! ### exceptions whose context is None -/
open PySem.Spec PyProof.Rows
theorem passN {X : Cx} : Passes (L2N.CX X.prog X.w) X E0 := fun _ _ _ _ _ _ _ h => by
  obtain ⟨_, _, _, _, _, _, _, _, _, _, _, _, z⟩ := h
  exact z.elim
theorem _root_.L2.Fun.okN {P : Program} {w : World} {K : PySem.W.Frag} {mg : Str → Option Value} {base : Heap} {x qual : Str} {st : Stmt} {f : Addr} {fd : FuncData} {N ps : List Str} {k : Nat} {sp : Sp} (F : L2.Fun K x qual st f fd) (S : FnScope N ps (defScope st)) (len : ∀ vs H Q E, sp vs H Q E → vs.length = ps.length)
    (hbody : ∀ (cdv : Value) (A : Around) (outer : List Env) (s : Shared) (H : Hp) (vs : List V) (Q : VK) (E : XK), Room k (A.deeper (envOfC qual (defScope st) s.heap.objs.size f cdv)) → sp vs H Q E →
      ∃ t, PSs (cxOf (L2N.CX P w) P w K mg base N qual (defScope st) f cdv A outer s H E) (defBody st) t ∧ t { nx := fun _ H' => Q .non H', rt := Q } (L2.start N vs) H) : FnOk P w K mg base (L2N.CX P w) (k + 1) f fd ps sp := by
  obtain ⟨oc, od, kV, doc, pm, an, cdv, ct, osl, rfl, lk, hcd⟩ := F.ex
  exact fn_of lk hcd S len fun A outer s H vs Q E hr hsp => hbody cdv A outer s H vs Q E hr hsp
theorem cxUpN {P : Program} {w : World} : StX.CXUp (L2N.CX P w) := by
  rintro outer s H s2 H2 E e s' un kp ho ⟨a, B, H', cls, d, ea, fl, hok, ub, na, os, ag, he⟩
  refine ⟨a, B, H', cls, d, ea, fl, hok, ⟨fun b o q n hb => ub.keep b o (kp b o q) (un.free b o q n (by simp)) hb, fun b o q hb => ub.slot b o (kp b o q) hb, fun b o q n => ub.free b o (kp b o q) (un.free b o q n (by simp)),
    fun b o q hb => ub.there b o (kp b o q) hb, fun b xs q => ub.tups b xs (un.tups b xs q), fun b o xs q => ub.frzs b o xs (un.frzs b o xs q), fun b ps q => ?_⟩, na, os.trans ho, ag, he⟩
  obtain ⟨m1, e1⟩ := un.tbls b ps q
  obtain ⟨m2, e2⟩ := ub.tbls b _ e1
  exact ⟨m1 ++ m2, by rw [e2, Array.append_assoc]⟩
end Hf

set_option Elab.async false
set_option linter.all false
set_option maxRecDepth 100000
set_option maxHeartbeats 4000000
namespace Hf
open PySem L2

/-! ### what stands behind data -/
section
variable {g : Gs} {w : Wd} {H H0 : Hp} {σI : Sl} {σ : L2.St} {B : Bs} {x : V}
theorem Reps.len : ∀ {ds : List D} {vs : List V}, Reps g w ds vs → vs.length = ds.length
  | [], vs, h => by simp only [Reps] at h; subst h; rfl
  | d :: ds, vs, h => by
    simp only [Reps] at h
    obtain ⟨v, us, rfl, _, r⟩ := h
    simp [Reps.len r]
theorem Reps.app : ∀ {ds es : List D} {vs us : List V}, Reps g w ds vs → Reps g w es us → Reps g w (ds ++ es) (vs ++ us)
  | [], es, vs, us, h, k => by simp only [Reps] at h; subst h; exact k
  | d :: ds, es, vs, us, h, k => by
    simp only [Reps] at h
    obtain ⟨v, us', rfl, r, rs⟩ := h
    simp only [List.cons_append, Reps]
    exact ⟨v, _, rfl, r, Reps.app rs k⟩
theorem Reps.get : ∀ {ds : List D} {vs : List V} {i : Nat} {d : D}, Reps g w ds vs → ds[i]? = some d → ∃ v, vs[i]? = some v ∧ Rep g w d v
  | [], _, _, _, _, e => by simp at e
  | d :: ds, vs, i, d', h, e => by
    simp only [Reps] at h
    obtain ⟨v, us, rfl, r, rs⟩ := h
    cases i with
    | zero => simp at e; subst e; exact ⟨v, by simp, r⟩
    | succ i =>
      obtain ⟨u, h1, h2⟩ := Reps.get (i := i) rs (by simpa using e)
      exact ⟨u, by simpa using h1, h2⟩
theorem Reps.drop : ∀ {ds : List D} {vs : List V} (n : Nat), Reps g w ds vs → Reps g w (ds.drop n) (vs.drop n)
  | ds, vs, 0, h => by simpa using h
  | [], vs, n + 1, h => by simp only [Reps] at h; subst h; simp [Reps]
  | d :: ds, vs, n + 1, h => by
    simp only [Reps] at h
    obtain ⟨v, us, rfl, r, rs⟩ := h
    simpa using Reps.drop n rs
theorem Reps.take : ∀ {ds : List D} {vs : List V} (n : Nat), Reps g w ds vs → Reps g w (ds.take n) (vs.take n)
  | ds, vs, 0, h => by simp [Reps]
  | [], vs, n + 1, h => by simp only [Reps] at h; subst h; simp [Reps]
  | d :: ds, vs, n + 1, h => by
    simp only [Reps] at h
    obtain ⟨v, us, rfl, r, rs⟩ := h
    simp only [List.take_succ_cons, Reps]
    exact ⟨v, _, rfl, r, Reps.take n rs⟩
theorem Reps.set : ∀ {ds : List D} {vs : List V} (n : Nat) {d : D} {v : V}, Reps g w ds vs → Rep g w d v → Reps g w (ds.set n d) (vs.set n v)
  | [], vs, n, d, v, h, k => by simp only [Reps] at h; subst h; simp [Reps]
  | e :: ds, vs, 0, d, v, h, k => by
    simp only [Reps] at h
    obtain ⟨u, us, rfl, r, rs⟩ := h
    simp only [List.set_cons_zero, Reps]
    exact ⟨v, _, rfl, k, rs⟩
  | e :: ds, vs, n + 1, d, v, h, k => by
    simp only [Reps] at h
    obtain ⟨u, us, rfl, r, rs⟩ := h
    simp only [List.set_cons_succ, Reps]
    exact ⟨u, _, rfl, r, Reps.set n rs k⟩
theorem Reps.one {d : D} {v : V} (h : Rep g w d v) : Reps g w [d] [v] := by simp only [Reps]; exact ⟨v, [], rfl, h, rfl⟩
theorem Reps.rep {ds : List D} {vs : List V} (h : Reps g w ds vs) : ∀ k : Nat, Reps g w (List.replicate k ds).flatten (List.replicate k vs).flatten
  | 0 => by simp [Reps]
  | k + 1 => by
    simp only [List.replicate_succ, List.flatten_cons]
    exact Reps.app h (Reps.rep h k)

theorem RepO.lst {ds : List D} (s : S0 g H0 w σI B σ H) (h : RepO g w σI σ (.lst ds) x) : ∃ a vs, x = .ref a ∧ H a = some (.lst vs) ∧ Reps g w ds vs := by
  rcases h with h | ⟨i, h1, h2⟩
  · simp only [Rep] at h
    obtain ⟨a, vs, rfl, p, r⟩ := h
    exact ⟨a, vs, rfl, s.rb.sub _ _ p, r⟩
  · obtain ⟨a, o, e, ha, c, _⟩ := s.ow i _ h1
    rw [h2] at e
    cases e
    simp only [Cont] at c
    obtain ⟨vs, rfl, r⟩ := c
    exact ⟨a, vs, rfl, ha, r⟩
theorem RepO.of {d : D} (s : S0 g H0 w σI B σ H) (h : RepO g w σI σ d x) (hd : ∀ ds, d ≠ .lst ds) (hd2 : ∀ ks ds, d ≠ .dct ks ds) (hd3 : ∀ c ds, d ≠ .inst c ds) : Rep g w d x := by
  rcases h with h | ⟨i, h1, h2⟩
  · exact h
  · obtain ⟨a, o, e, ha, c, _⟩ := s.ow i _ h1
    cases d <;> simp [Cont] at c <;> first | exact (hd _ rfl).elim | exact (hd2 _ _ rfl).elim | exact (hd3 _ _ rfl).elim
theorem RepO.int {i : Int} (s : S0 g H0 w σI B σ H) (h : RepO g w σI σ (.int i) x) : x = .int i := by
  have := h.of s (by simp) (by simp) (by simp); simpa only [Rep] using this
theorem RepO.bool {i : Bool} (s : S0 g H0 w σI B σ H) (h : RepO g w σI σ (.bool i) x) : x = .bl i := by
  have := h.of s (by simp) (by simp) (by simp); simpa only [Rep] using this
theorem RepO.str {i : Str} (s : S0 g H0 w σI B σ H) (h : RepO g w σI σ (.str i) x) : x = .str i := by
  have := h.of s (by simp) (by simp) (by simp); simpa only [Rep] using this
theorem RepO.none (s : S0 g H0 w σI B σ H) (h : RepO g w σI σ .none x) : x = .non := by
  have := h.of s (by simp) (by simp) (by simp); simpa only [Rep] using this
theorem RepO.tup {ds : List D} (s : S0 g H0 w σI B σ H) (h : RepO g w σI σ (.tup ds) x) : ∃ a vs, x = .ref a ∧ SqT g.K H a vs ∧ Reps g w ds vs := by
  have := h.of s (by simp) (by simp) (by simp)
  simp only [Rep] at this
  obtain ⟨a, vs, rfl, p, r⟩ := this
  exact ⟨a, vs, rfl, sqT_mono s.rb.sub p.T, r⟩
theorem RepO.prs {ds : List D} (s : S0 g H0 w σI B σ H) (h : RepO g w σI σ (.prs ds) x) : ∃ a vs, x = .ref a ∧ SqT g.K H a vs ∧ Reps g w ds vs := by
  have := h.of s (by simp) (by simp) (by simp)
  simp only [Rep] at this
  obtain ⟨a, vs, rfl, p, r⟩ := this
  exact ⟨a, vs, rfl, sqT_mono s.rb.sub p, r⟩
theorem RepO.scr {ds : List D} (s : S0 g H0 w σI B σ H) (h : RepO g w σI σ (.scr ds) x) : ∃ a vs, x = .ref a ∧ SqL g.K H a vs ∧ Reps g w ds vs := by
  have := h.of s (by simp) (by simp) (by simp)
  simp only [Rep] at this
  obtain ⟨a, vs, rfl, p, r⟩ := this
  exact ⟨a, vs, rfl, s.rb.sub.seq p, r⟩
theorem RepO.box {n : Nat} (s : S0 g H0 w σI B σ H) (h : RepO g w σI σ (.box n) x) : ∃ a, x = .ref a ∧ w.io n = some a := by
  have := h.of s (by simp) (by simp) (by simp)
  simpa only [Rep] using this
theorem RepO.dct {ks ds : List D} (s : S0 g H0 w σI B σ H) (h : RepO g w σI σ (.dct ks ds) x) : ∃ a xs, x = .ref a ∧ H a = some (dctO g a xs) ∧ ks.map nkD = xs.map (fun p => some p.1) ∧ Reps g w ks (xs.map fun p => V.ref p.2.1) ∧ Reps g w ds (xs.map fun p => p.2.2) := by
  rcases h with h | ⟨i, h1, h2⟩
  · simp only [Rep] at h
    obtain ⟨a, xs, rfl, p, q⟩ := h
    exact ⟨a, xs, rfl, s.rb.sub _ _ p, q⟩
  · obtain ⟨a, o, e, ha, c, _⟩ := s.ow i _ h1
    rw [h2] at e
    cases e
    simp only [Cont] at c
    obtain ⟨xs, rfl, q⟩ := c
    exact ⟨a, xs, rfl, ha, q⟩

/-- a new thing is laid and from then on persistent -/
def regW (w : Wd) (p : Addr) (o : HO) : Wd := { w with P := upd w.P p o }
theorem RB.fresh_io (rb : RB g w B H) {p : Addr} (hp : H p = Option.none) : ∀ n, w.io n ≠ some p := fun n e => by
  by_cases hn : n < B.length
  · obtain ⟨a, o, h1, h2, _⟩ := rb.get n B[n] (List.getElem?_eq_getElem hn)
    rw [e] at h1; cases h1; rw [hp] at h2; cases h2
  · exact hn (rb.dom n p e)
theorem RB.fresh_P (rb : RB g w B H) {p : Addr} (hp : H p = Option.none) : w.P p = Option.none := by
  cases q : w.P p with
  | none => rfl
  | some o => rw [rb.sub _ _ q] at hp; cases hp
theorem same_upd2 {P H : Hp} {p : Addr} {o : HO} (h : Same P H) : Same (upd P p o) (upd H p o) := fun b u e => by
  by_cases hb : b = p
  · subst hb; rw [upd_same] at e ⊢; exact e
  · rw [upd_ne hb] at e ⊢; exact h b u e
theorem same_upd {H : Hp} {p : Addr} {o : HO} (hp : H p = Option.none) : Same H (upd H p o) := fun b u e => by
  rw [upd_ne (ne_of_none e hp)]; exact e
theorem regLe (w : Wd) {p : Addr} {o : HO} (hp : w.P p = Option.none) : Le w (regW w p o) := ⟨same_upd hp, fun _ _ h => h⟩
/-- boxes over a heap that is kept -/
theorem nt_reg {p : Addr} {o : HO} (h : ∀ b ps, w.P b ≠ some (.tbl ps)) (ho : ∀ ps, o ≠ .tbl ps) : ∀ b ps, (regW w p o).P b ≠ some (.tbl ps) := fun b ps e => by
  have e : upd w.P p o b = some (.tbl ps) := e
  by_cases z : b = p
  · subst z; rw [upd_same] at e; exact ho ps (Option.some.inj e)
  · rw [upd_ne z] at e; exact h b ps e
theorem RB.keep {H' : Hp} {w' : Wd} (rb : RB g w B H) (l : Le w w') (hio : w'.io = w.io) (hs : Same w'.P H') (hk : Same H H') (hp : ∀ n a, w.io n = some a → w'.P a = Option.none) (hn : ∀ b ps, w'.P b ≠ some (.tbl ps)) : RB g w' B H' where
  tb := rb.tb.ext hk
  nt := hn
  sub := hs
  get := fun n b e => by
    obtain ⟨a, o, h1, h2, c⟩ := rb.get n b e
    exact ⟨a, o, by rw [hio]; exact h1, hk _ _ h2, c.mono l⟩
  inj := by rw [hio]; exact rb.inj
  np := by rw [hio]; exact hp
  dom := by rw [hio]; exact rb.dom
theorem RB.reg {p : Addr} {o : HO} (rb : RB g w B H) (hp : H p = Option.none) (ho : ∀ ps, o ≠ .tbl ps := by first | (intro ps e; cases e) | (intro ps e; unfold dctO at e; cases e)) : RB g (regW w p o) B (upd H p o) :=
  rb.keep (regLe w (rb.fresh_P hp)) rfl (same_upd2 rb.sub) (same_upd hp) (fun n a e => by
    show upd w.P p o a = Option.none
    rw [upd_ne (fun z => rb.fresh_io hp n (by rw [← z]; exact e))]
    exact rb.np n a e) (nt_reg rb.nt ho)
theorem Ext.reg {p : Addr} {o : HO} (rb : RB g w B H) (hp : H p = Option.none) : Ext w H (regW w p o) (upd H p o) where
  le := regLe w (rb.fresh_P hp)
  keep := fun b u h _ _ => same_upd hp b u h
  pf := fun b u h => by
    by_cases hb : b = p
    · subst hb; exact .inr (.inl hp)
    · refine .inl ?_
      have h : upd w.P p o b = some u := h
      rwa [upd_ne hb] at h
  iof := fun n a h => .inl h
  there := fun b h z => h (by
    by_cases hb : b = p
    · subst hb; exact hp
    · rwa [upd_ne hb] at z)
  me := rfl
/-- a thing laid, not persistent -/
theorem RB.lay {p : Addr} {o : HO} (rb : RB g w B H) (hp : H p = Option.none) : RB g w B (upd H p o) :=
  rb.keep (Le.refl w) rfl (rb.sub.trans (same_upd hp)) (same_upd hp) rb.np rb.nt
theorem Ext.lay {p : Addr} {o : HO} (hp : H p = Option.none) : Ext w H w (upd H p o) where
  le := Le.refl w
  keep := fun b u h _ _ => same_upd hp b u h
  pf := fun b u h => .inl h
  iof := fun n a h => .inl h
  there := fun b h z => h (by
    by_cases hb : b = p
    · subst hb; exact hp
    · rwa [upd_ne hb] at z)
  me := rfl
variable {E : XK} {Q : VK}
theorem PostE.nowR {d : D} {v : V} (s : S0 g H0 w σI B σ H) (h : PostE g E w H σI σ false Q (.ok d B)) (r : Rep g w d v) : Q v H := h w v H (Ext.refl _ _) s.rb r
theorem RepO.tupR {ds : List D} (s : S0 g H0 w σI B σ H) (h : RepO g w σI σ (.tup ds) x) : Rep g w (.tup ds) x := h.of s (by simp) (by simp) (by simp)
theorem PostE.newT {ds : List D} {vs : List V} {p : Addr} (s : S0 g H0 w σI B σ H) (h : PostE g E w H σI σ false Q (.ok (.tup ds) B)) {ob : Obj} (r : Reps g w ds vs) (hp : H p = Option.none) (hd : ob.dict = Option.none) : Q (.ref p) (upd H p (.frz ob (.tup vs))) :=
  h (regW w p (.frz ob (.tup vs))) _ _ (Ext.reg s.rb hp) (s.rb.reg hp) (by
    simp only [RepB, Rep]
    exact ⟨p, vs, rfl, .inl ⟨ob, upd_same, hd⟩, Reps.mono (regLe w (s.rb.fresh_P hp)) _ _ r⟩)
theorem PostE.newL {ds : List D} {vs : List V} {p : Addr} (s : S0 g H0 w σI B σ H) (h : PostE g E w H σI σ false Q (.ok (.lst ds) B)) (r : Reps g w ds vs) (hp : H p = Option.none) : Q (.ref p) (upd H p (.lst vs)) :=
  h (regW w p (.lst vs)) _ _ (Ext.reg s.rb hp) (s.rb.reg hp) (by
    simp only [RepB, Rep]
    exact ⟨p, vs, rfl, upd_same, Reps.mono (regLe w (s.rb.fresh_P hp)) _ _ r⟩)
end

/-- the built-in classes that are asked for -/
inductive Bt where
  | int | bool | tuple | str | list
  deriving DecidableEq
def Bt.nm : Bt → String
  | .int => "int" | .bool => "bool" | .tuple => "tuple" | .str => "str" | .list => "list"
/-- which class of instances is derived from which -/
def subC (c d : Nat) : Bool := c == d || (d == 2 && (c == 3 || c == 4 || c == 5)) || (c == 5 && (d == 3 || d == 4))
/-- what is known of a class of instances -/
structure ClsC (g : Gs) (c : Nat) : Prop where
  cls : L2.Cls g.K (g.cl c)
  na : ∀ f ∈ fldN c, NoAttr g.K (g.cl c) f
  nd : (fldN c).Nodup
  ha : PySem.W.findIn g.K (.ref (g.cl c)) "__class__" = some (some (.builtin "object.__class__"))
  hm : PySem.W.mroIn g.K (g.cl c) (.type "object") = some true
  isB : ∀ T : Bt, PySem.W.kitOne g.K (.ref (g.cl c)) (.type T.nm) = some false
  isO : ∀ n ∈ ["NoneType", "int", "bool", "str", "list", "tuple", "dict"], PySem.W.kitOne g.K (.type n) (.ref (g.cl c)) = some false
/-- what the top has left -/
structure Fx (g : Gs) : Prop where
  cls : ∀ c, g.has c = true → ClsC g c
  sub : ∀ c d, g.has c = true → g.has d = true → PySem.W.kitOne g.K (.ref (g.cl c)) (.ref (g.cl d)) = some (subC c d)
  hn : PySem.W.specialIn g.K (.builtin "object.__class__") "__get__" = some (some (.builtin "getset_descriptor.__get__"))
  htk : PySem.W.takesIn g.K (.builtin "object.__class__") = some true
  nb : ∀ x ∈ ["len", "range", "isinstance", "tuple", "list", "all", "any", "max", "min", "set", "sorted", "enumerate", "zip", "repr", "str", "int", "sum", "dict", "bool"], g.mg (Str.ofString x) = none
/-- what a body must know of where it stands -/
structure Ok (g : Gs) (X : Cx) : Prop where
  K : X.K = g.K
  mg : X.mg = g.mg
  calm : X.calm = true
  un : X.A.units + 100 < cLine
  prog : X.prog = g.prog
  w : X.w = g.w
  base : X.base = g.base
  fx : Fx g

/-! ### arithmetic -/
def fI2 (k : Int → Int → D) (c : Int → Int → Bool) : D → D → Bs → Rs D
  | .int i, .int j, B => if c i j then .ok (k i j) B else .bad
  | _, _, _ => .bad
theorem os_I {g : Gs} {E : XK} {H0 : Hp} {C : Int → Int → Prop} {c : Int → Int → Bool} {k : Int → Int → D} {kv : Int → Int → V} (hc : ∀ i j, c i j = true → C i j) (hk : ∀ w i j, Rep g w (k i j) (kv i j)) :
    OpSem g E H0 (rI C kv) (fI2 k c) := by
  intro w σI B σ H Q x y dx dy s rx ry p
  cases dx <;> first | exact p.elim | skip
  cases dy <;> first | exact p.elim | skip
  rename_i i j
  simp only [fI2] at p
  split at p
  · rename_i h
    exact ⟨i, j, rx.int s, ry.int s, hc _ _ h, p.nowR s (hk w i j)⟩
  · exact p.elim
theorem os_I0 {g : Gs} {E : XK} {H0 : Hp} {k : Int → Int → D} {kv : Int → Int → V} (hk : ∀ w i j, Rep g w (k i j) (kv i j)) :
    OpSem g E H0 (rI0 kv) (fI2 k fun _ _ => true) := by
  intro w σI B σ H Q x y dx dy s rx ry p
  cases dx <;> first | exact p.elim | skip
  cases dy <;> first | exact p.elim | skip
  rename_i i j
  exact ⟨i, j, rx.int s, ry.int s, PostE.nowR s p (hk w i j)⟩
theorem rep_int (g : Gs) (w : Wd) (i : Int) : Rep g w (.int i) (.int i) := by simp only [Rep]
theorem rep_bool (g : Gs) (w : Wd) (i : Bool) : Rep g w (.bool i) (.bl i) := by simp only [Rep]
theorem rep_str (g : Gs) (w : Wd) (i : Str) : Rep g w (.str i) (.str i) := by simp only [Rep]
theorem rep_none (g : Gs) (w : Wd) : Rep g w .none .non := by simp only [Rep]

def b2D (b : Bool) : Int := if b then 1 else 0
def fAdd : D → D → Bs → Rs D
  | .int i, .int j, B => .ok (.int (i + j)) B
  | .int i, .bool b, B => .ok (.int (i + b2D b)) B
  | .str a, .str b, B => if a.length + b.length ≤ sizeLine then .ok (.str (a ++ b)) B else .bad
  | .tup a, .tup b, B => if a.length + b.length ≤ sizeLine then .ok (.tup (a ++ b)) B else .bad
  | .lst a, .lst b, B => if a.length + b.length ≤ sizeLine then .ok (.lst (a ++ b)) B else .bad
  | _, _, _ => .bad
/-- a + b of tuples: what is made has no dict -/
def rCatN (K : PySem.W.Frag) : R2 := fun x y H Q => ∃ a b xs ys, x = .ref a ∧ y = .ref b ∧ SqT K H a xs ∧ SqT K H b ys ∧ xs.length + ys.length ≤ sizeLine ∧
  (xs = [] → Q (.ref b) H) ∧ (xs ≠ [] → ys = [] → Q (.ref a) H) ∧ (xs ≠ [] → ys ≠ [] → ∀ p (ob : Obj), H p = Option.none → ob.dict = Option.none → Q (.ref p) (upd H p (.frz ob (.tup (xs ++ ys)))))
theorem frz_tup {P : Program} {w : World} {H : Hp} {h : Heap} {a : Addr} {xs : List V} {us : List Value} (hz : xs.length ≤ sizeLine) (r : Vals xs us) (e : h.get? a = some { cls := .type "tuple", data := .seq us.toArray }) :
    ObjOk P w H h a (.frz { cls := .type "tuple", data := .seq us.toArray } (.tup xs)) := ⟨e, hz, us, r, _, e, rfl, _, rfl⟩
theorem op_catN {X : Cx} : OpR X (binaryOp .Add) (rCatN X.K) := by
  intro pins s σ H x y v u Q I rx ry h
  obtain ⟨a, b, xs, ys, rfl, rfl, ha, hb, hz, q0, q1, q2⟩ := h
  cases rx
  cases ry
  obtain ⟨us, ra, pa, _⟩ := I.tuple ha
  obtain ⟨ws, rb, pb, _⟩ := I.tuple hb
  by_cases hx : xs = []
  · subst hx
    cases ra
    exact cat_tup0 pa pb ⟨.ref b, H, I, rfl, q0 rfl⟩
  · have hu : us ≠ [] := fun z => hx (ra.nil_iff.mp z)
    refine HT.cat_tup pa pb hu (fun z => ⟨.ref a, H, I, rfl, q1 hx (rb.nil_iff.mp z)⟩) (fun z => ?_) (by rw [← ra.length, ← rb.length]; exact hz)
    have hp : H s.heap.objs.size = Option.none := I.hok.fresh (Nat.le_refl _)
    refine ⟨.ref s.heap.objs.size, upd H s.heap.objs.size _, I.laid (t' := s.toks) (o := .frz { cls := .type "tuple", data := .seq (us ++ ws).toArray } (.tup (xs ++ ys))) (fun c oc qc => Heap.get?_push_of_some _ qc) (Nat.le_refl _) ?_, rfl, q2 hx (fun w => z (rb.nil_iff.mpr w)) _ _ hp rfl⟩
    exact frz_tup (by rw [List.length_append]; exact hz) (ra.append rb) (Heap.get?_push_size _ rfl)
def rAdd (K : PySem.W.Frag) : R2 := fun x y H Q => (rI0 (fun i j => .int (i + j))) x y H Q ∨ (∃ i k, x = .int i ∧ y = .bl k ∧ Q (.int (i + PyProof.Rows.b2i k)) H) ∨ (∃ i j, x = .str i ∧ y = .str j ∧ i.length + j.length ≤ sizeLine ∧ Q (.str (i ++ j)) H) ∨ rCatN K x y H Q ∨ rCat x y H Q
theorem op_addA {X : Cx} : OpR X (binaryOp .Add) (rAdd X.K) := op_add.or (op_add_ib.or (op_add_str.or (op_catN.or op_cat)))
theorem os_add {g : Gs} {E : XK} {H0 : Hp} : OpSem g E H0 (rAdd g.K) fAdd := by
  intro w σI B σ H Q x y dx dy s rx ry p
  unfold fAdd at p
  split at p
  · rename_i i j
    exact .inl ⟨i, j, rx.int s, ry.int s, p.nowR s (rep_int g w _)⟩
  · rename_i i b
    exact .inr (.inl ⟨i, b, rx.int s, ry.bool s, p.nowR s (by simp only [Rep]; cases b <;> rfl)⟩)
  · rename_i a b
    split at p
    · rename_i h
      exact .inr (.inr (.inl ⟨a, b, rx.str s, ry.str s, h, p.nowR s (rep_str g w _)⟩))
    · exact p.elim
  · rename_i ds es
    split at p
    · rename_i h
      obtain ⟨a, vs, rfl, q1, r1⟩ := rx.tup s
      obtain ⟨b, us, rfl, q2, r2⟩ := ry.tup s
      refine .inr (.inr (.inr (.inl ⟨a, b, vs, us, rfl, rfl, q1, q2, by rw [r1.len, r2.len]; exact h, ?_, ?_, ?_⟩)))
      · intro e
        have hd : ds = [] := List.eq_nil_of_length_eq_zero (by rw [← r1.len, e]; rfl)
        subst hd
        exact p.nowR s (ry.tupR s)
      · intro e e2
        have hd : es = [] := List.eq_nil_of_length_eq_zero (by rw [← r2.len, e2]; rfl)
        subst hd
        rw [List.append_nil] at p
        exact p.nowR s (rx.tupR s)
      · intro _ _ q ob hq ho
        exact p.newT s (r1.app r2) hq ho
    · exact p.elim
  · rename_i ds es
    split at p
    · rename_i h
      obtain ⟨a, vs, rfl, q1, r1⟩ := rx.lst s
      obtain ⟨b, us, rfl, q2, r2⟩ := ry.lst s
      exact .inr (.inr (.inr (.inr ⟨a, b, vs, us, rfl, rfl, q1, q2, by rw [r1.len, r2.len]; exact h, fun q hq => p.newL s (r1.app r2) hq⟩)))
    · exact p.elim
  · exact p.elim
def wideB (i : Int) : Bool := decide (-(2 ^ 64) < i) && decide (i < 2 ^ 64)
theorem wideB_ok {i : Int} (h : wideB i = true) : -(2 ^ 64) < i ∧ i < 2 ^ 64 := by
  unfold wideB at h
  simp only [Bool.and_eq_true, decide_eq_true_eq] at h
  exact h
abbrev fSub := fI2 (fun i j => .int (i - j)) fun _ _ => true
abbrev fMod := fI2 (fun i j => .int (i % j)) fun _ j => decide (0 < j)
abbrev fDiv := fI2 (fun i j => .int (i / j)) fun _ j => decide (0 < j) && decide (j < 1073741824)
abbrev fPow := fI2 (fun i j => .int (i ^ j.toNat)) fun i j => decide (0 ≤ j) && decide (j ≤ 1000000) && decide (i.natAbs < 2 ^ 64)
theorem os_sub {g : Gs} {E : XK} {H0 : Hp} : OpSem g E H0 (rI0 fun i j => .int (i - j)) fSub := os_I0 fun w i j => rep_int g w _
theorem os_mod {g : Gs} {E : XK} {H0 : Hp} : OpSem g E H0 (rI (fun _ j => 0 < j) fun i j => .int (i % j)) fMod := os_I (fun i j h => of_decide_eq_true h) fun w i j => rep_int g w _
theorem os_div {g : Gs} {E : XK} {H0 : Hp} : OpSem g E H0 (rI CDiv fun i j => .int (i / j)) fDiv := os_I (fun i j h => by
  simp only [Bool.and_eq_true, decide_eq_true_eq] at h; exact h) fun w i j => rep_int g w _
theorem os_pow {g : Gs} {E : XK} {H0 : Hp} : OpSem g E H0 (rI CPow fun i j => .int (i ^ j.toNat)) fPow := os_I (fun i j h => by
  simp only [Bool.and_eq_true, decide_eq_true_eq] at h; exact ⟨h.1.1, h.1.2, h.2⟩) fun w i j => rep_int g w _
section
variable {g : Gs} {E : XK} {H0 : Hp} {X : Cx} {a b : Expr} {ma mb : Ev} {pos : Pos} {b1 b2 : Bool}
theorem s_add (c : Ok g X) (ha : Snd g E H0 X b1 a ma) (hb : Snd g E H0 X b2 b mb) : Snd g E H0 X false (.BinOp a .Add b pos) (mBin fAdd ma mb) := s_bin (c.K ▸ op_addA) os_add ha hb
theorem s_sub (ha : Snd g E H0 X b1 a ma) (hb : Snd g E H0 X b2 b mb) : Snd g E H0 X false (.BinOp a .Sub b pos) (mBin fSub ma mb) := s_bin op_sub os_sub ha hb
theorem s_mod (ha : Snd g E H0 X b1 a ma) (hb : Snd g E H0 X b2 b mb) : Snd g E H0 X false (.BinOp a .Mod b pos) (mBin fMod ma mb) := s_bin op_mod os_mod ha hb
theorem s_div (ha : Snd g E H0 X b1 a ma) (hb : Snd g E H0 X b2 b mb) : Snd g E H0 X false (.BinOp a .FloorDiv b pos) (mBin fDiv ma mb) := s_bin op_fdiv os_div ha hb
theorem s_pow (ha : Snd g E H0 X b1 a ma) (hb : Snd g E H0 X b2 b mb) : Snd g E H0 X false (.BinOp a .Pow b pos) (mBin fPow ma mb) := s_bin op_pow os_pow ha hb
end


/-! ### order of whole numbers -/
abbrev fLt := fI2 (fun i j => .bool (decide (i < j))) fun _ _ => true
abbrev fLe := fI2 (fun i j => .bool (decide (i ≤ j))) fun _ _ => true
abbrev fGt := fI2 (fun i j => .bool (decide (j < i))) fun _ _ => true
/-- a comparison that is known -/
structure Cmp (g : Gs) (E : XK) (H0 : Hp) (X : Cx) (op : CmpOp) (f : D → D → Bs → Rs D) : Prop where
  ex : ∃ r, OpR X (compareOp op) r ∧ OpSem g E H0 r f
  bl : ∀ d e B, f d e B = .bad ∨ ∃ b B', f d e B = .ok (.bool b) B'
theorem fI2_bl (k : Int → Int → Bool) (c : Int → Int → Bool) : ∀ d e B, fI2 (fun i j => .bool (k i j)) c d e B = .bad ∨ ∃ b B', fI2 (fun i j => .bool (k i j)) c d e B = .ok (.bool b) B' := fun d e B => by
  cases d <;> first | exact .inl rfl | skip
  cases e <;> first | exact .inl rfl | skip
  rename_i i j
  simp only [fI2]
  by_cases h : c i j = true
  · rw [if_pos h]; exact .inr ⟨_, _, rfl⟩
  · rw [if_neg h]; exact .inl rfl
section
variable {g : Gs} {E : XK} {H0 : Hp} {X : Cx}
theorem c_lt : Cmp g E H0 X .Lt fLt := ⟨⟨_, op_lt, os_I0 fun w i j => rep_bool g w _⟩, fI2_bl _ _⟩
theorem c_le : Cmp g E H0 X .LtE fLe := ⟨⟨_, op_le, os_I0 fun w i j => rep_bool g w _⟩, fI2_bl _ _⟩
theorem c_gt : Cmp g E H0 X .Gt fGt := ⟨⟨_, op_gt, os_I0 fun w i j => rep_bool g w _⟩, fI2_bl _ _⟩
end
end Hf

set_option Elab.async false
set_option linter.all false
set_option maxRecDepth 100000
set_option maxHeartbeats 4000000
namespace Hf
open PySem PySem.Spec PyProof.Rows L2
theorem tuple_mulS (l : Addr) (items : Array Value) (n : Nat) (dd : Option Addr) (sl : Array (Option Value)) (x : Int) (u : Tok) (c0 : (decide (x < -(2 ^ 63)) || decide (x ≥ 2 ^ 63)) = false) (c1 : (items.isEmpty || x == 1) = true) :
    Meets (Builtin.«tuple.__mul__» ⟨[.ref l, .int x u], []⟩) (fun _ R s => s.heap.get? l = some { cls := .type "tuple", dict := dd, data := .seq items n, slots := sl } ∧ R (.ok (.ret (Value.ref l))) s) :=
  .of_wp fun prog w A R s h => by
    obtain ⟨hp, g, d, tk, os⟩ := s
    obtain ⟨hl, h⟩ := h
    have f1 := AutoSeq1.idx_int
    wp_walk using wpAny_loadPart' hl
    repeat (first
      | (refine wpAny_ite_false (decide_eq_false (by rw [c0]; exact Bool.false_ne_true)) ?_; wp_walk using wpAny_loadPart' hl)
      | (refine wpAny_ite_true (decide_eq_true c1) ?_; wp_walk using wpAny_loadPart' hl))
    exact ⟨_, rfl, h⟩
theorem tuple_mul0 (l : Addr) (items : Array Value) (n : Nat) (dd : Option Addr) (sl : Array (Option Value)) (x : Int) (u : Tok) (c0 : (decide (x < -(2 ^ 63)) || decide (x ≥ 2 ^ 63)) = false) (c1 : (items.isEmpty || x == 1) = false) (c2 : (decide (x ≤ 0) || items.isEmpty) = true) :
    Meets (Builtin.«tuple.__mul__» ⟨[.ref l, .int x u], []⟩) (fun _ R s => s.heap.get? l = some { cls := .type "tuple", dict := dd, data := .seq items n, slots := sl } ∧
      R (.ok (.ret (Value.ref s.heap.objs.size))) { s with heap := s.heap.push { cls := Value.type "tuple", data := Data.seq #[] }, toks := s.toks }) :=
  .of_wp fun prog w A R s h => by
    obtain ⟨hp, g, d, tk, os⟩ := s
    obtain ⟨hl, h⟩ := h
    have f1 := AutoSeq1.idx_int
    wp_walk using wpAny_loadPart' hl
    repeat (first
      | (refine wpAny_ite_false (decide_eq_false (by rw [c0]; exact Bool.false_ne_true)) ?_; wp_walk using wpAny_loadPart' hl)
      | (refine wpAny_ite_false (decide_eq_false (by rw [c1]; exact Bool.false_ne_true)) ?_; wp_walk using wpAny_loadPart' hl)
      | (refine wpAny_ite_true (decide_eq_true c2) ?_; wp_walk using wpAny_loadPart' hl))
    exact ⟨_, rfl, h⟩

def rRepTA (K : PySem.W.Frag) : R2 := fun x y H Q => ∃ l k xs, x = .ref l ∧ y = .int k ∧ SqT K H l xs ∧ -1000 < k ∧ k ≤ 1000 ∧ xs.length ≤ 1000 ∧
  ((xs = [] ∨ k = 1) → Q (.ref l) H) ∧ (xs ≠ [] → k ≠ 1 → ∀ p (ob : Obj), H p = none → ob.dict = none → Q (.ref p) (upd H p (.frz ob (.tup (List.replicate k.toNat xs).flatten))))
theorem op_repTA {X : Cx} : OpR X (binaryOp .Mult) (rRepTA X.K) := by
  intro pins s σ H x y v u Q I rx ry h
  obtain ⟨l, k, xs, rfl, rfl, hT, h1, h2, hz, q0, q⟩ := h
  cases rx
  obtain ⟨t, rfl⟩ := ry
  obtain ⟨its, r, ⟨⟨cls, dd, data, sl⟩, ho, hc, n, hd⟩, hs⟩ := I.tuple hT
  simp only at hc hd
  subst hc hd
  have hle : its.length = xs.length := r.length.symm
  have hfree : H s.heap.objs.size = none := I.hok.fresh (Nat.le_refl _)
  have c0 : (decide (k < -(2 ^ 63)) || decide (k ≥ 2 ^ 63)) = false := by
    rw [decide_eq_false (by omega), decide_eq_false (by omega)] <;> rfl
  by_cases hs1 : xs = [] ∨ k = 1
  · have c1 : (its.toArray.isEmpty || k == 1) = true := by
      rcases hs1 with e | e
      · subst e
        cases its with
        | nil => rfl
        | cons a b => simp at hle
      · subst e; simp
    exact wpAny_binaryOp_repeat_ref (T := "tuple") (U := "int") (by decide) ⟨_, ho, rfl⟩ (fun s' => typeIs_int s' k t) noFill_tuple_mul F.fills_int_mul F.slot_int_rmul repeat_tuple F.slot_int_index.lookup
      (call_meets F.slot_int_rmul (typeIs_int s k t) F.entry_int_rmul (F.args_int_rmul_2 _ _) (int_rmul_tuple k t l its.toArray n dd sl)
        ⟨ho, rfl, ⟨_, ho, rfl⟩, call_meets F.slot_tuple_mul ⟨_, ho, rfl⟩ F.entry_tuple_mul (F.args_tuple_mul_2 _ _) (tuple_mulS l its.toArray n dd sl k t c0 c1) ⟨ho, ⟨.ref l, H, I, rfl, q0 hs1⟩⟩⟩)
  · have hx : xs ≠ [] := fun e => hs1 (.inl e)
    have hk1 : k ≠ 1 := fun e => hs1 (.inr e)
    have hi : its.toArray.isEmpty = false := by
      cases its with
      | nil => exact absurd (List.eq_nil_of_length_eq_zero hle.symm) hx
      | cons a b => rfl
    have c1 : (its.toArray.isEmpty || k == 1) = false := by
      rw [hi, Bool.false_or]
      exact beq_eq_false_iff_ne.mpr hk1
    by_cases hk : k ≤ 0
    case neg =>
      have d2 : (decide (k ≤ 0) || its.toArray.isEmpty) = false := by
        rw [hi, Bool.or_false]; exact decide_eq_false hk
      have hm : ((its.toArray.size : Nat) : Int) * k ≤ 1000000 := by
        rw [List.size_toArray, hle]
        have := Int.mul_le_mul_of_nonneg_right (show ((xs.length : Nat) : Int) ≤ 1000 by omega) (show 0 ≤ k by omega)
        omega
      have lf : (List.replicate k.toNat its).flatten.length ≤ sizeLine := by
        rw [PyProof.Rows.lm_len_rep_flat, hle, sizeLine_eq]
        have := Nat.mul_le_mul (show k.toNat ≤ 1000 by omega) hz
        omega
      have d4 : Builtin.Tuple.tupleTooMany (((its.toArray.size : Nat) : Int) * k) = false := by
        unfold Builtin.Tuple.tupleTooMany
        rw [sizeLine_eq]; exact decide_eq_false (by omega)
      refine wpAny_binaryOp_repeat_ref (U := "int") (T := "tuple") (by decide) ⟨_, ho, rfl⟩ (fun s1 => typeIs_int s1 k t) noFill_tuple_mul F.fills_int_mul F.slot_int_rmul repeat_tuple F.slot_int_index.lookup
        (call_meets F.slot_int_rmul (typeIs_int s k t) F.entry_int_rmul (F.args_int_rmul_2 _ _) (int_rmul_tuple k t l its.toArray n dd sl)
          ⟨ho, rfl, ⟨_, ho, rfl⟩, call_meets F.slot_tuple_mul ⟨_, ho, rfl⟩ F.entry_tuple_mul (F.args_tuple_mul_2 _ _) (tuple_mulW l its.toArray n dd sl k t c0 c1 d2 (by omega) d4 (by rw [size_rep, List.size_toArray]; exact lf)) ⟨ho, ?_⟩⟩)
      rw [size_rep]
      exact ⟨.ref s.heap.objs.size, upd H s.heap.objs.size _, I.laid (t' := s.toks) (o := .frz { cls := .type "tuple", data := .seq (List.replicate k.toNat its).flatten.toArray } (.tup (List.replicate k.toNat xs).flatten)) (fun c oc qc => Heap.get?_push_of_some _ qc) (Nat.le_refl _)
        (frz_tup (by rw [← (r.rep k.toNat).length] at lf; exact lf) (r.rep k.toNat) (Heap.get?_push_size _ rfl)), rfl, q hx hk1 _ _ hfree rfl⟩
    have c2 : (decide (k ≤ 0) || its.toArray.isEmpty) = true := by rw [decide_eq_true hk]; rfl
    refine wpAny_binaryOp_repeat_ref (T := "tuple") (U := "int") (by decide) ⟨_, ho, rfl⟩ (fun s' => typeIs_int s' k t) noFill_tuple_mul F.fills_int_mul F.slot_int_rmul repeat_tuple F.slot_int_index.lookup
      (call_meets F.slot_int_rmul (typeIs_int s k t) F.entry_int_rmul (F.args_int_rmul_2 _ _) (int_rmul_tuple k t l its.toArray n dd sl)
        ⟨ho, rfl, ⟨_, ho, rfl⟩, call_meets F.slot_tuple_mul ⟨_, ho, rfl⟩ F.entry_tuple_mul (F.args_tuple_mul_2 _ _) (tuple_mul0 l its.toArray n dd sl k t c0 c1 c2) ⟨ho, ?_⟩⟩)
    have e0 : k.toNat = 0 := by omega
    rw [e0] at q
    exact ⟨.ref s.heap.objs.size, upd H s.heap.objs.size _, I.laid (t' := s.toks) (o := .frz { cls := .type "tuple", data := .seq ([] : List Value).toArray } (.tup [])) (fun c oc qc => Heap.get?_push_of_some _ qc) (Nat.le_refl _)
      (frz_tup (Nat.zero_le _) .nil (Heap.get?_push_size _ rfl)), rfl, q hx hk1 _ _ hfree rfl⟩

def fMul : D → D → Bs → Rs D
  | .int i, .int j, B => if wideB i || wideB j then .ok (.int (i * j)) B else .bad
  | .lst a, .int k, B => if decide (k < 1000) && decide (-1000 < k) && decide (a.length ≤ 1000) then .ok (.lst (List.replicate k.toNat a).flatten) B else .bad
  | .tup a, .int k, B => if decide (k < 1000) && decide (-1000 < k) && decide (a.length ≤ 1000) then .ok (.tup (List.replicate k.toNat a).flatten) B else .bad
  | _, _, _ => .bad
def rMulA (K : PySem.W.Frag) : R2 := fun x y H Q => (rI CMul fun i j => .int (i * j)) x y H Q ∨ rRep x y H Q ∨ rRepTA K x y H Q
theorem op_mulA {X : Cx} : OpR X (binaryOp .Mult) (rMulA X.K) := op_mul.or (op_rep.or op_repTA)
theorem os_mul {g : Gs} {E : XK} {H0 : Hp} : OpSem g E H0 (rMulA g.K) fMul := by
  intro w σI B σ H Q x y dx dy s rx ry p
  unfold fMul at p
  split at p
  · rename_i i j
    split at p
    · rename_i h
      refine .inl ⟨i, j, rx.int s, ry.int s, ?_, p.nowR s (rep_int g w _)⟩
      rcases Bool.or_eq_true_iff.mp h with h | h
      · exact .inl (wideB_ok h)
      · exact .inr (wideB_ok h)
    · exact p.elim
  · rename_i ds k
    split at p
    · rename_i h
      simp only [Bool.and_eq_true, decide_eq_true_eq] at h
      obtain ⟨⟨h1, h2⟩, h3⟩ := h
      obtain ⟨a, vs, rfl, q1, r1⟩ := rx.lst s
      refine .inr (.inl ⟨a, k, vs, rfl, ry.int s, q1, by omega, by omega, ?_, fun q hq => p.newL s (r1.rep _) hq⟩)
      rw [r1.len, sizeLine_eq]
      have a1 : ds.length * k.toNat ≤ 1000 * 1000 := Nat.mul_le_mul h3 (by omega)
      omega
    · exact p.elim
  · rename_i ds k
    split at p
    · rename_i h
      simp only [Bool.and_eq_true, decide_eq_true_eq] at h
      obtain ⟨⟨h1, h2⟩, h3⟩ := h
      obtain ⟨a, vs, rfl, q1, r1⟩ := rx.tup s
      refine .inr (.inr ⟨a, k, vs, rfl, ry.int s, q1, by omega, by omega, by rw [r1.len]; exact h3, ?_, fun _ _ q ob hq ho => p.newT s (r1.rep _) hq ho⟩)
      rintro (e | e)
      · have hd : ds = [] := List.eq_nil_of_length_eq_zero (by rw [← r1.len, e]; rfl)
        subst hd
        have e : (List.replicate k.toNat ([] : List D)).flatten = [] := by simp
        rw [e] at p
        exact p.nowR s (rx.tupR s)
      · subst e
        simp at p
        exact p.nowR s (rx.tupR s)
    · exact p.elim
  · exact p.elim
section
variable {g : Gs} {E : XK} {H0 : Hp} {X : Cx} {a b : Expr} {ma mb : Ev} {pos : Pos} {b1 b2 : Bool}
theorem s_mul (c : Ok g X) (ha : Snd g E H0 X b1 a ma) (hb : Snd g E H0 X b2 b mb) : Snd g E H0 X false (.BinOp a .Mult b pos) (mBin fMul ma mb) := s_bin (c.K ▸ op_mulA) os_mul ha hb
end

/-! ### equality of data -/
mutual
def toPy : D → PyData
  | .none => .none
  | .bool b => .bool b
  | .int i => .int i
  | .str x => .str x
  | .tup ds => .tuple (toPys ds)
  | .lst ds => .list (toPys ds)
  | .kd k x => .dict [(.int k, .int x)]
  | _ => .dict []
def toPys : List D → List PyData
  | [] => []
  | d :: ds => toPy d :: toPys ds
end
mutual
theorem Rep.dp {g : Gs} {w : Wd} {H : Hp} (hs : Same w.P H) : ∀ (d : D) (v : V), Rep g w d v → (toPy d).canLay0 = true → Dp g.K H v (toPy d)
  | .none, v, h, _ => by simp only [Rep] at h; subst h; exact .non
  | .bool b, v, h, _ => by simp only [Rep] at h; subst h; exact .bl b
  | .int b, v, h, _ => by simp only [Rep] at h; subst h; exact .int b
  | .str b, v, h, _ => by simp only [Rep] at h; subst h; exact .str b
  | .tup ds, v, h, c => by
    simp only [Rep] at h
    obtain ⟨a, vs, rfl, q, r⟩ := h
    simp only [toPy, PyData.canLay0] at c ⊢
    exact .tup (sqT_mono hs q.T) (Reps.dp hs ds vs r c)
  | .lst ds, v, h, c => by
    simp only [Rep] at h
    obtain ⟨a, vs, rfl, q, r⟩ := h
    simp only [toPy, PyData.canLay0] at c ⊢
    exact .lst (.inl (.inl (hs _ _ q))) (Reps.dp hs ds vs r c)
  | .scr ds, v, h, c => by simp [toPy, PyData.canLay0] at c
  | .prs ds, v, h, c => by simp [toPy, PyData.canLay0] at c
  | .dct ks ds, v, h, c => by simp [toPy, PyData.canLay0] at c
  | .inst k ds, v, h, c => by simp [toPy, PyData.canLay0] at c
  | .box n, v, h, c => by simp [toPy, PyData.canLay0] at c
  | .cls n, v, h, c => by simp [toPy, PyData.canLay0] at c
  | .ptr n, v, h, c => by simp [toPy, PyData.canLay0] at c
  | .kd k x, v, h, c => by simp [toPy, PyData.canLay0] at c
  | .fnT k, v, h, c => by simp [toPy, PyData.canLay0] at c
  | .exo a dd f x, v, h, c => by simp [toPy, PyData.canLay0] at c
theorem Reps.dp {g : Gs} {w : Wd} {H : Hp} (hs : Same w.P H) : ∀ (ds : List D) (vs : List V), Reps g w ds vs → PyData.canLayAll0 (toPys ds) = true → DpAll g.K H vs (toPys ds)
  | [], vs, h, _ => by simp only [Reps] at h; subst h; exact .nil
  | d :: ds, vs, h, c => by
    simp only [Reps] at h
    obtain ⟨v, us, rfl, r, rs⟩ := h
    simp only [toPys, PyData.canLayAll0, Bool.and_eq_true] at c ⊢
    exact .cons (Rep.dp hs d v r c.1) (Reps.dp hs ds us rs c.2)
end
theorem RepO.dp {g : Gs} {w : Wd} {H H0 : Hp} {σI : Sl} {σ : L2.St} {B : Bs} {x : V} {d : D} (s : S0 g H0 w σI B σ H) (h : RepO g w σI σ d x) (c : (toPy d).canLay0 = true) : Dp g.K H x (toPy d) := by
  rcases h with h | h
  · exact Rep.dp s.rb.sub d x h c
  · have h' : RepO g w σI σ d x := .inr h
    obtain ⟨i, h1, h2⟩ := h
    obtain ⟨a, o, e, ha, ct, _⟩ := s.ow i _ h1
    cases d <;> simp [Cont] at ct
    · obtain ⟨a, vs, rfl, q, r⟩ := h'.lst s
      simp only [toPy, PyData.canLay0] at c ⊢
      exact .lst (.inl (.inl q)) (Reps.dp s.rb.sub _ vs r c)
    · simp [toPy, PyData.canLay0] at c
    · simp [toPy, PyData.canLay0] at c
/-- plain data of some depth -/
def shp (d : D) : Bool := SeqAt.shaped (toPy d)
def eqD (d e : D) : Bool := PyData.eqv (toPy d) (toPy e)
def fEq : D → D → Bs → Rs D := fun d e B => if shp d && shp e then .ok (.bool (eqD d e)) B else .bad
def fNe : D → D → Bs → Rs D := fun d e B => if shp d && shp e then .ok (.bool (!eqD d e)) B else .bad
theorem os_eq {g : Gs} {E : XK} {H0 : Hp} : OpSem g E H0 (rEqD g.K) fEq := by
  intro w σI B σ H Q x y dx dy s rx ry p
  unfold fEq at p
  split at p
  · rename_i h
    obtain ⟨h1, h2⟩ := Bool.and_eq_true_iff.mp h
    exact ⟨_, _, rx.dp s (SeqAt.canLay_of_shaped h1), ry.dp s (SeqAt.canLay_of_shaped h2), h1, h2, p.nowR s (rep_bool g w _)⟩
  · exact p.elim
theorem os_ne {g : Gs} {E : XK} {H0 : Hp} : OpSem g E H0 (rNeD g.K) fNe := by
  intro w σI B σ H Q x y dx dy s rx ry p
  unfold fNe at p
  split at p
  · rename_i h
    obtain ⟨h1, h2⟩ := Bool.and_eq_true_iff.mp h
    exact ⟨_, _, rx.dp s (SeqAt.canLay_of_shaped h1), ry.dp s (SeqAt.canLay_of_shaped h2), h1, h2, p.nowR s (rep_bool g w _)⟩
  · exact p.elim
/-! ### in -/
def rInT (K : PySem.W.Frag) : R2 := fun x y H Q => ∃ d ds, Dp K H x d ∧ Dp K H y (.tuple ds) ∧ SeqAt.shaped d = true ∧ SeqAt.shaped (.tuple ds) = true ∧ Q (.bl (ds.any fun z => PyData.eqv z d)) H
def rNotInT (K : PySem.W.Frag) : R2 := fun x y H Q => ∃ d ds, Dp K H x d ∧ Dp K H y (.tuple ds) ∧ SeqAt.shaped d = true ∧ SeqAt.shaped (.tuple ds) = true ∧ Q (.bl (!ds.any fun z => PyData.eqv z d)) H
theorem op_inT {X : Cx} (hu : X.A.units + 65 < cLine) : OpR X (compareOp .In) (rInT X.K) := by
  intro pins s σ H x y v u Q I rx ry h
  obtain ⟨d, ds, hd, he, sd, se, q⟩ := h
  obtain ⟨as, r1⟩ := Dp.reads I d x v hd rx
  obtain ⟨bs, r2⟩ := Dp.reads I (.tuple ds) y u he ry
  exact SeqAt.in_tuple_reads r2 r1 (SeqAt.canLay_of_shaped se) (SeqAt.canLay_of_shaped sd) (room_in_shaped sd hu) ⟨.bl _, H, I, rfl, q⟩
theorem op_notInT {X : Cx} (hu : X.A.units + 65 < cLine) : OpR X (compareOp .NotIn) (rNotInT X.K) := by
  intro pins s σ H x y v u Q I rx ry h
  obtain ⟨d, ds, hd, he, sd, se, q⟩ := h
  obtain ⟨as, r1⟩ := Dp.reads I d x v hd rx
  obtain ⟨bs, r2⟩ := Dp.reads I (.tuple ds) y u he ry
  exact SeqAt.notIn_tuple_reads r2 r1 (SeqAt.canLay_of_shaped se) (SeqAt.canLay_of_shaped sd) (room_in_shaped sd hu) ⟨.bl _, H, I, rfl, q⟩
def inD (d : D) (ds : List D) : Bool := (toPys ds).any fun z => PyData.eqv z (toPy d)
def fInG (f : Bool → Bool) : D → D → Bs → Rs D
  | d, .lst ds, B => if shp d && shp (.lst ds) then .ok (.bool (f (inD d ds))) B else .bad
  | d, .tup ds, B => if shp d && shp (.tup ds) then .ok (.bool (f (inD d ds))) B else .bad
  | _, _, _ => .bad
abbrev fIn := fInG fun b => b
abbrev fNotIn := fInG fun b => !b
theorem os_in {g : Gs} {E : XK} {H0 : Hp} : OpSem g E H0 (fun x y H Q => rInD g.K x y H Q ∨ rInT g.K x y H Q) fIn := by
  intro w σI B σ H Q x y dx dy s rx ry p
  unfold fIn fInG at p
  split at p
  · split at p
    · rename_i h
      obtain ⟨h1, h2⟩ := Bool.and_eq_true_iff.mp h
      exact .inl ⟨_, _, rx.dp s (SeqAt.canLay_of_shaped h1), ry.dp s (SeqAt.canLay_of_shaped h2), h1, h2, p.nowR s (rep_bool g w _)⟩
    · exact p.elim
  · split at p
    · rename_i h
      obtain ⟨h1, h2⟩ := Bool.and_eq_true_iff.mp h
      exact .inr ⟨_, _, rx.dp s (SeqAt.canLay_of_shaped h1), ry.dp s (SeqAt.canLay_of_shaped h2), h1, h2, p.nowR s (rep_bool g w _)⟩
    · exact p.elim
  · exact p.elim
theorem os_notin {g : Gs} {E : XK} {H0 : Hp} : OpSem g E H0 (fun x y H Q => rNotInD g.K x y H Q ∨ rNotInT g.K x y H Q) fNotIn := by
  intro w σI B σ H Q x y dx dy s rx ry p
  unfold fNotIn fInG at p
  split at p
  · split at p
    · rename_i h
      obtain ⟨h1, h2⟩ := Bool.and_eq_true_iff.mp h
      exact .inl ⟨_, _, rx.dp s (SeqAt.canLay_of_shaped h1), ry.dp s (SeqAt.canLay_of_shaped h2), h1, h2, p.nowR s (rep_bool g w _)⟩
    · exact p.elim
  · split at p
    · rename_i h
      obtain ⟨h1, h2⟩ := Bool.and_eq_true_iff.mp h
      exact .inr ⟨_, _, rx.dp s (SeqAt.canLay_of_shaped h1), ry.dp s (SeqAt.canLay_of_shaped h2), h1, h2, p.nowR s (rep_bool g w _)⟩
    · exact p.elim
  · exact p.elim
section
variable {g : Gs} {E : XK} {H0 : Hp} {X : Cx} {a b c : Expr} {ma mb mc : Ev} {pos : Pos}
theorem Ok.u65 (k : Ok g X) : X.A.units + 65 < cLine := by have := k.un; omega
theorem blB (c : Bool) (b : Bool) (B : Bs) : (if c then (Rs.ok (D.bool b) B) else .bad) = Rs.bad ∨ ∃ x B', (if c then (Rs.ok (D.bool b) B) else .bad) = Rs.ok (.bool x) B' := by
  cases c
  · exact .inl rfl
  · exact .inr ⟨_, _, rfl⟩
theorem fIn_bl (f : Bool → Bool) : ∀ d e B, fInG f d e B = .bad ∨ ∃ b B', fInG f d e B = .ok (.bool b) B' := fun d e B => by
  cases e <;> first | exact .inl rfl | exact blB _ _ _
theorem c_eq (k : Ok g X) : Cmp g E H0 X .Eq fEq := ⟨⟨_, k.K ▸ op_eqD (by have := k.un; omega), os_eq⟩, fun _ _ _ => blB _ _ _⟩
theorem c_ne (k : Ok g X) : Cmp g E H0 X .NotEq fNe := ⟨⟨_, k.K ▸ op_neD (by have := k.un; omega), os_ne⟩, fun _ _ _ => blB _ _ _⟩
theorem c_in (k : Ok g X) : Cmp g E H0 X .In fIn := ⟨⟨_, k.K ▸ (op_inD k.u65).or (op_inT k.u65), os_in⟩, fIn_bl _⟩
theorem c_notin (k : Ok g X) : Cmp g E H0 X .NotIn fNotIn := ⟨⟨_, k.K ▸ (op_notInD k.u65).or (op_notInT k.u65), os_notin⟩, fIn_bl _⟩
/-! ### is None -/
def isN : D → Bool
  | .none => true
  | _ => false
def fIs : D → D → Bs → Rs D := fun d e B => if isN e then .ok (.bool (isN d)) B else .bad
def fIsNot : D → D → Bs → Rs D := fun d e B => if isN e then .ok (.bool (!isN d)) B else .bad
theorem isN_rep {w : Wd} {H : Hp} {σI : Sl} {σ : L2.St} {B : Bs} {x : V} {d : D} (s : S0 g H0 w σI B σ H) (r : RepO g w σI σ d x) : decide (x = .non) = isN d := by
  have fin : ∀ a, x = V.ref a → decide (x = V.non) = false := fun a e => by subst e; rfl
  cases d with
  | none => rw [r.none s]; rfl
  | bool b => rw [r.bool s]; rfl
  | int i => rw [r.int s]; rfl
  | str i => rw [r.str s]; rfl
  | tup ds => obtain ⟨a, _, e, _⟩ := r.tup s; exact fin a e
  | lst ds => obtain ⟨a, _, e, _⟩ := r.lst s; exact fin a e
  | scr ds => obtain ⟨a, _, e, _⟩ := r.scr s; exact fin a e
  | prs ds => obtain ⟨a, _, e, _⟩ := r.prs s; exact fin a e
  | dct ks ds => obtain ⟨a, _, e, _⟩ := r.dct s; exact fin a e
  | box n => obtain ⟨a, e, _⟩ := r.box s; exact fin a e
  | cls n =>
    have := r.of s (by simp) (by simp) (by simp)
    simp only [Rep] at this
    exact fin _ this.1
  | ptr n =>
    have := r.of s (by simp) (by simp) (by simp)
    simp only [Rep] at this
    exact fin _ this
  | kd n x =>
    have := r.of s (by simp) (by simp) (by simp)
    simp only [Rep] at this
    obtain ⟨a, e, _⟩ := this
    exact fin a e
  | exo n dd f x =>
    have := r.of s (by simp) (by simp) (by simp)
    simp only [Rep] at this
    exact fin _ this.1
  | fnT n =>
    have := r.of s (by simp) (by simp) (by simp)
    simp only [Rep] at this
    rcases this with ⟨_, e, _⟩ | ⟨a, _, _, _, _, e, _⟩
    · exact fin _ e
    · exact fin a e
  | inst c ds =>
    rcases r with r | ⟨i, h1, h2⟩
    · simp only [Rep] at r
      obtain ⟨a, _, _, e, _⟩ := r
      exact fin a e
    · obtain ⟨a, o, e, _⟩ := s.ow i _ h1
      rw [h2] at e; cases e; rfl
theorem os_is : OpSem g E H0 (fun x y H Q => y = .non ∧ Q (.bl (decide (x = .non))) H) fIs := by
  intro w σI B σ H Q x y dx dy s rx ry p
  unfold fIs at p
  split at p
  · rename_i h
    cases dy <;> first | exact absurd h Bool.false_ne_true | skip
    exact ⟨ry.none s, by rw [isN_rep s rx]; exact p.nowR s (rep_bool g w _)⟩
  · exact p.elim
theorem os_isnot : OpSem g E H0 (fun x y H Q => y = .non ∧ Q (.bl (!decide (x = .non))) H) fIsNot := by
  intro w σI B σ H Q x y dx dy s rx ry p
  unfold fIsNot at p
  split at p
  · rename_i h
    cases dy <;> first | exact absurd h Bool.false_ne_true | skip
    exact ⟨ry.none s, by rw [isN_rep s rx]; exact p.nowR s (rep_bool g w _)⟩
  · exact p.elim
theorem c_is : Cmp g E H0 X .Is fIs := ⟨⟨_, op_isN, os_is⟩, fun _ _ _ => blB _ _ _⟩
theorem c_isnot : Cmp g E H0 X .IsNot fIsNot := ⟨⟨_, op_notN, os_isnot⟩, fun _ _ _ => blB _ _ _⟩
end
end Hf

set_option Elab.async false
set_option linter.all false
set_option maxRecDepth 100000
set_option maxHeartbeats 4000000
namespace Hf
open PySem PySem.Spec PyProof.Rows L2

/-! ### comparisons -/
section
variable {g : Gs} {E : XK} {H0 : Hp} {X : Cx} {a b c : Expr} {ma mb mc : Ev} {pos : Pos} {b1 b2 b3 bo : Bool} {op op' : CmpOp} {f f' : D → D → Bs → Rs D}
theorem s_cmp (P : Cmp g E H0 X op f) (ha : Snd g E H0 X b1 a ma) (hb : Snd g E H0 X b2 b mb) (hm : behindInMarks op b = false := by rfl) : Snd g E H0 X false (.Compare a [op] [b] pos) (mBin f ma mb) := by
  obtain ⟨r, h1, h2⟩ := P.ex
  exact weak (pe_cmpR h1 ha hb hm) (tOp_of h2)
def toB (m : Rs D) : Rs Bool := m.bind fun d B => match d with
  | .bool b => .ok b B
  | _ => .bad
def mCmpT (f : D → D → Bs → Rs D) (ma mb : Ev) : Et := fun σI B => (ma σI B).bind fun x B1 => (mb σI B1).bind fun y B2 => toB (f x y B2)
theorem cmp_end (P : Cmp g E H0 X op f) {w : Wd} {H : Hp} {σI : Sl} {σ : L2.St} {B : Bs} {Q : Bool → Hp → Prop} {x y : D} (p : PostT g E w H Q (toB (f x y B))) :
    PostE g E w H σI σ false (fun x H' => ∃ k, x = .bl k ∧ Q k H') (f x y B) := by
  rcases P.bl x y B with e | ⟨b, B', e⟩
  · rw [e] at p; exact p.elim
  · rw [e] at p ⊢
    intro w' v H' x rb r
    simp only [RepB, Rep] at r
    exact ⟨b, r, p w' H' x rb⟩
theorem t_cmp (P : Cmp g E H0 X op f) (ha : Snd g E H0 X b1 a ma) (hb : Snd g E H0 X b2 b mb) (hm : behindInMarks op b = false := by rfl) : SndT g E H0 X (.Compare a [op] [b] pos) (mCmpT f ma mb) := by
  obtain ⟨r, h1, h2⟩ := id P.ex
  refine weakT (pt_cmpR h1 ha hb hm) ?_
  rintro σ H Q ⟨w, σI, B, s, p⟩
  refine tI_bindT s p fun d B1 w1 v H1 x1 s1 r1 p1 => ?_
  refine tI_bindT s1 p1 fun d2 B2 w2 v2 H2 x2 s2 r2 p2 => ?_
  exact h2 w2 σI B2 σ H2 _ v v2 d d2 s2 (r1.up.mono x2.le) r2.up (cmp_end P p2)
def mChain (f f' : D → D → Bs → Rs D) (ma mb mc : Ev) : Ev := fun σI B => (ma σI B).bind fun x B1 => (mb σI B1).bind fun y B2 => (toB (f x y B2)).bind fun k B3 =>
  if k then (mc σI B3).bind fun z B4 => f' y z B4 else .ok (.bool false) B3
theorem chain_at (P : Cmp g E H0 X op f) {w : Wd} {H : Hp} {σI : Sl} {σ : L2.St} {B : Bs} {Q : VK} {x y : D} {k : Bool → Bs → Rs D} (p : PostE g E w H σI σ false Q ((toB (f x y B)).bind k)) :
    PostE g E w H σI σ false (fun z H' => ∃ b w' B', z = .bl b ∧ Ext w H w' H' ∧ RB g w' B' H' ∧ PostE g E w' H' σI σ false Q (k b B')) (f x y B) := by
  rcases P.bl x y B with e | ⟨b, B', e⟩
  · rw [e] at p; exact p.elim
  · rw [e] at p ⊢
    intro w' v H' x rb r
    simp only [RepB, Rep] at r
    exact ⟨b, w', B', r, x, rb, PostE.ext x p⟩
theorem s_chain (P : Cmp g E H0 X op f) (P' : Cmp g E H0 X op' f') (ha : Snd g E H0 X b1 a ma) (hb : Snd g E H0 X b2 b mb) (hc : Snd g E H0 X b3 c mc) (hm : lastMarks [op, op'] [b, c] = false := by with_unfolding_all rfl) :
    Snd g E H0 X false (.Compare a [op, op'] [b, c] pos) (mChain f f' ma mb mc) := by
  obtain ⟨r, h1, h2⟩ := id P.ex
  obtain ⟨r', h1', h2'⟩ := id P'.ex
  refine weak (pe_chain h1 h1' ha hb hc hm) ?_
  rintro σ H Q ⟨w, σI, B, s, p⟩
  refine tI_bind s p fun d B1 w1 v H1 x1 s1 r1 p1 => ?_
  refine tI_bind s1 p1 fun d2 B2 w2 v2 H2 x2 s2 r2 p2 => ?_
  refine h2 w2 σI B2 σ H2 _ v v2 d d2 s2 (r1.up.mono x2.le) r2.up ?_
  have p3 := chain_at P p2
  revert p3
  generalize hm : f d d2 B2 = m
  intro p3
  cases m with
  | bad => exact p3
  | exc _ _ _ => exact p3
  | ok e B3 =>
    intro w' v' H' x rb rr
    obtain ⟨k, w3, B4, rfl, x3, rb3, p4⟩ := p3 w' v' H' x rb rr
    refine ⟨k, rfl, ?_⟩
    have s3 := s2.step x3 rb3
    cases k with
    | false => exact p4 w3 _ H' (Ext.refl _ _) rb3 (rep_bool g w3 false)
    | true =>
      refine tI_bind s3 p4 fun d5 B5 w5 v5 H5 x5 s5 r5 p5 => ?_
      exact h2' w5 σI B5 σ H5 _ v2 v5 d2 d5 s5 (r2.up.mono (x3.le.trans x5.le)) r5.up p5
def mChainT (f f' : D → D → Bs → Rs D) (ma mb mc : Ev) : Et := fun σI B => (ma σI B).bind fun x B1 => (mb σI B1).bind fun y B2 => (toB (f x y B2)).bind fun k B3 =>
  if k then (mc σI B3).bind fun z B4 => toB (f' y z B4) else .ok false B3
end
/-! ### truth -/
def fTru : D → Option Bool
  | .none => some false
  | .bool b => some b
  | .int i => some (i != 0)
  | .str x => if x.length ≤ sizeLine then some ((x.length : Int) != 0) else Option.none
  | .tup ds => some (!ds.isEmpty)
  | .lst ds => some (!ds.isEmpty)
  | .scr ds => some (!ds.isEmpty)
  | _ => Option.none
theorem isE {g : Gs} {w : Wd} {ds : List D} {vs : List V} (r : Reps g w ds vs) : (!ds.isEmpty) = !vs.isEmpty := by
  have := r.len
  cases ds <;> cases vs <;> simp_all
theorem RepO.tru {g : Gs} {w : Wd} {H H0 : Hp} {σI : Sl} {σ : L2.St} {B : Bs} {x : V} {d : D} {k : Bool} (s : S0 g H0 w σI B σ H) (r : RepO g w σI σ d x) (h : fTru d = some k) : TruV g.K x H k := by
  cases d with
  | none => rw [r.none s]; exact (Option.some.inj h).symm
  | bool b => rw [r.bool s]; exact (Option.some.inj h).symm
  | int i => rw [r.int s]; exact (Option.some.inj h).symm
  | str i =>
    rw [r.str s]
    simp only [fTru] at h
    split at h
    · rename_i hl; exact ⟨hl, (Option.some.inj h).symm⟩
    · cases h
  | tup ds => obtain ⟨a, vs, rfl, q, r⟩ := r.tup s; exact .inr (.inl ⟨vs, q, by rw [← isE r]; exact (Option.some.inj h).symm⟩)
  | lst ds => obtain ⟨a, vs, rfl, q, r⟩ := r.lst s; exact .inl ⟨vs, .inl (.inl q), by rw [← isE r]; exact (Option.some.inj h).symm⟩
  | scr ds => obtain ⟨a, vs, rfl, q, r⟩ := r.scr s; exact .inl ⟨vs, q, by rw [← isE r]; exact (Option.some.inj h).symm⟩
  | prs ds => cases h
  | dct ks ds => cases h
  | box n => cases h
  | cls n => cases h
  | ptr n => cases h
  | kd n x => cases h
  | fnT n => cases h
  | exo a dd f x => cases h
  | inst c ds => cases h
def tru (d : D) (B : Bs) : Rs Bool := match fTru d with
  | some b => .ok b B
  | Option.none => .bad
theorem tru_ok' {d : D} {B : Bs} {β : Type} {f : Bool → Bs → Rs β} {P : Rs β → Prop} (hp : P ((tru d B).bind f)) (hb : ¬ P .bad) : ∃ k, fTru d = some k ∧ P (f k B) := by
  unfold tru at hp
  cases h : fTru d with
  | none => rw [h] at hp; exact (hb hp).elim
  | some k => rw [h] at hp; exact ⟨k, rfl, hp⟩
def mT (m : Ev) : Et := fun σI B => (m σI B).bind fun d B1 => tru d B1
section
variable {g : Gs} {E : XK} {H0 : Hp} {X : Cx} {a b c : Expr} {ma mb mc : Ev} {ta tb tc : Et} {pos : Pos} {b1 b2 b3 bo : Bool} {rest : List Expr}
/-- an expression as a test -/
theorem t_val (k : Ok g X) (ha : Snd g E H0 X b1 a ma) (he : ∀ whole, isTrue a X.env whole = (do let v ← whole; standAt a.pos; holding [v] (truthy v)) := by intro _; rfl) : SndT g E H0 X a (mT ma) := by
  refine weakT (pt_truth ha he) ?_
  rintro σ H Q ⟨w, σI, B, s, p⟩
  refine tI_bindT s p fun d B1 w1 v H1 x1 s1 r1 p1 => ?_
  unfold tru at p1
  split at p1
  · rename_i k' e
    exact ⟨k', k.K ▸ r1.up.tru s1 e, p1 w1 H1 (Ext.refl _ _) s1.rb⟩
  · exact p1.elim
def mNotT (t : Et) : Et := fun σI B => (t σI B).bind fun k B1 => .ok (!k) B1
theorem t_not (ha : SndT g E H0 X a ta) : SndT g E H0 X (.UnaryOp .Not a pos) (mNotT ta) := by
  refine weakT (pt_not ha) ?_
  rintro σ H Q ⟨w, σI, B, s, p⟩
  exact tIt_bindT s p fun k B1 w1 H1 x1 s1 p1 => p1 w1 H1 (Ext.refl _ _) s1.rb
def mAndT (t u : Et) : Et := fun σI B => (t σI B).bind fun k B1 => if k then u σI B1 else .ok false B1
def mOrT (t u : Et) : Et := fun σI B => (t σI B).bind fun k B1 => if k then .ok true B1 else u σI B1
theorem w_and1 (ha : SndT g E H0 X a ta) : SndW g E H0 X (.BoolOp .And [a] pos) ta := pw_and1 ha
theorem w_or1 (ha : SndT g E H0 X a ta) : SndW g E H0 X (.BoolOp .Or [a] pos) ta := pw_or1 ha
theorem w_and (ha : SndT g E H0 X a ta) (hb : SndW g E H0 X (.BoolOp .And (b :: rest) pos) tb) : SndW g E H0 X (.BoolOp .And (a :: b :: rest) pos) (mAndT ta tb) := by
  refine weakW (pw_and ha hb) ?_
  rintro σ H Q ⟨w, σI, B, s, p⟩
  refine tIt_bindT s p fun k B1 w1 H1 x1 s1 p1 => ?_
  cases k with
  | true => exact ⟨w1, σI, B1, s1, p1⟩
  | false => exact p1 w1 H1 (Ext.refl _ _) s1.rb
theorem w_or (ha : SndT g E H0 X a ta) (hb : SndW g E H0 X (.BoolOp .Or (b :: rest) pos) tb) : SndW g E H0 X (.BoolOp .Or (a :: b :: rest) pos) (mOrT ta tb) := by
  refine weakW (pw_or ha hb) ?_
  rintro σ H Q ⟨w, σI, B, s, p⟩
  refine tIt_bindT s p fun k B1 w1 H1 x1 s1 p1 => ?_
  cases k with
  | false => exact ⟨w1, σI, B1, s1, p1⟩
  | true => exact p1 w1 H1 (Ext.refl _ _) s1.rb
theorem t_w (h : SndW g E H0 X a ta) : SndT g E H0 X a ta := h.pt
/-! as values -/
def mAnd (ma mb : Ev) : Ev := fun σI B => (ma σI B).bind fun d B1 => (tru d B1).bind fun k _ => if k then mb σI B1 else .ok d B1
def mNot (ma : Ev) : Ev := fun σI B => (ma σI B).bind fun d B1 => (tru d B1).bind fun k _ => .ok (.bool (!k)) B1
theorem s_one {o : BoolOp} (ha : Snd g E H0 X b1 a ma) : Snd g E H0 X b1 (.BoolOp o [a] pos) ma := pe_one ha
theorem s_and (k : Ok g X) (ha : Snd g E H0 X false a ma) (hb : Snd g E H0 X false (.BoolOp .And (b :: rest) pos) mb) : Snd g E H0 X false (.BoolOp .And (a :: b :: rest) pos) (mAnd ma mb) := by
  refine weak (pe_andT ha hb) ?_
  rintro σ H Q ⟨w, σI, B, s, p⟩
  refine tI_bind s p fun d B1 w1 v H1 x1 s1 r1 p1 => ?_
  obtain ⟨k', e, p2⟩ := tru_ok' (P := fun m => PostE g E w1 H1 σI σ false Q m) p1 (fun h => h)
  refine ⟨k', k.K ▸ r1.up.tru s1 e, ?_⟩
  cases k' with
  | true => exact ⟨w1, σI, B1, s1, p2⟩
  | false => exact p2 w1 v H1 (Ext.refl _ _) s1.rb r1
theorem s_not (k : Ok g X) (ha : Snd g E H0 X b1 a ma) : Snd g E H0 X false (.UnaryOp .Not a pos) (mNot ma) := by
  refine weak (pe_notT ha) ?_
  rintro σ H Q ⟨w, σI, B, s, p⟩
  refine tI_bind s p fun d B1 w1 v H1 x1 s1 r1 p1 => ?_
  obtain ⟨k', e, p2⟩ := tru_ok' (P := fun m => PostE g E w1 H1 σI σ false Q m) p1 (fun h => h)
  exact ⟨k', k.K ▸ r1.up.tru s1 e, p2 w1 _ H1 (Ext.refl _ _) s1.rb (rep_bool g w1 _)⟩
def mIte (t : Et) (ma mb : Ev) : Ev := fun σI B => (t σI B).bind fun k B1 => if k then ma σI B1 else mb σI B1
theorem s_ite (hc : SndT g E H0 X c tc) (ha : Snd g E H0 X bo a ma) (hb : Snd g E H0 X bo b mb) : Snd g E H0 X bo (.IfExp c a b pos) (mIte tc ma mb) := by
  refine weak (pe_ifExp hc ha hb) ?_
  rintro σ H Q ⟨w, σI, B, s, p⟩
  refine tIt_bind s p fun k B1 w1 H1 x1 s1 p1 => ?_
  cases k with
  | true => exact ⟨w1, σI, B1, s1, p1⟩
  | false => exact ⟨w1, σI, B1, s1, p1⟩
def mNeg (ma : Ev) : Ev := fun σI B => (ma σI B).bind fun d B1 => match d with
  | .int i => .ok (.int (-i)) B1
  | _ => .bad
theorem s_neg (ha : Snd g E H0 X b1 a ma) : Snd g E H0 X false (.UnaryOp .USub a pos) (mNeg ma) := by
  refine weak (pe_un un_neg ha) ?_
  rintro σ H Q ⟨w, σI, B, s, p⟩
  refine tI_bind s p fun d B1 w1 v H1 x1 s1 r1 p1 => ?_
  cases d <;> first | exact p1.elim | skip
  rename_i i
  exact ⟨i, r1.up.int s1, p1 w1 _ H1 (Ext.refl _ _) s1.rb (rep_int g w1 _)⟩

/-! ### argument lists, displays -/
def mNil : Evs := fun _ B => .ok [] B
def mCons (m : Ev) (ms : Evs) : Evs := fun σI B => (m σI B).bind fun d B1 => (ms σI B1).bind fun ds B2 => .ok (d :: ds) B2
def seqOf : D → Option (List D)
  | .tup ds => some ds
  | .lst ds => some ds
  | _ => Option.none
def mStar (m : Ev) (ms : Evs) : Evs := fun σI B => (m σI B).bind fun d B1 => match seqOf d with
  | some ds => (ms σI B1).bind fun es B2 => .ok (ds ++ es) B2
  | Option.none => .bad
variable {e : Expr} {es : List Expr} {m : Ev} {ms : Evs}
theorem a_nil : Snds g E H0 X [] mNil := weakA pa_nil fun σ H Q ⟨w, σI, B, s, p⟩ => p w [] H (Ext.refl _ _) s.rb (by simp only [Reps])
theorem a_cons (he : Snd g E H0 X false e m) (hr : Snds g E H0 X es ms) (hs : starEach (e :: es) X.env = (false, eval e X.env) :: starEach es X.env := by rfl) : Snds g E H0 X (e :: es) (mCons m ms) := by
  refine weakA (pa_cons he hr hs) ?_
  rintro σ H Q ⟨w, σI, B, s, p⟩
  refine tI_bindA s p fun d B1 w1 v H1 x1 s1 r1 p1 => ?_
  refine tIs_bindA s1 p1 fun ds B2 w2 vs H2 x2 s2 r2 p2 => ?_
  refine p2 w2 _ H2 (Ext.refl _ _) s2.rb ?_
  simp only [Reps]
  exact ⟨v, vs, rfl, Rep.mono x2.le _ _ r1, r2⟩
theorem a_star {p1 : Pos} (k : Ok g X) (he : Snd g E H0 X false e m) (hr : Snds g E H0 X es ms) (hs : starEach (.Starred e p1 :: es) X.env = (true, eval e X.env) :: starEach es X.env := by rfl) : Snds g E H0 X (.Starred e p1 :: es) (mStar m ms) := by
  refine weakA (StX.pa_star he hr hs) ?_
  rintro σ H Q ⟨w, σI, B, s, p⟩
  refine tI_bindA s p fun d B1 w1 v H1 x1 s1 r1 p1 => ?_
  cases hd : seqOf d with
  | none => rw [hd] at p1; exact p1.elim
  | some ds =>
    rw [hd] at p1
    have hv : ∃ a vs, v = V.ref a ∧ (SqT X.K H1 a vs ∨ SqL X.K H1 a vs) ∧ Reps g w1 ds vs := by
      cases d <;> simp [seqOf] at hd
      · subst hd
        obtain ⟨a, vs, e, q, r⟩ := (RepB.up r1).tup s1
        exact ⟨a, vs, e, .inl (k.K ▸ q), r⟩
      · subst hd
        obtain ⟨a, vs, e, q, r⟩ := (RepB.up r1).lst s1
        exact ⟨a, vs, e, .inr (.inl (.inl q)), r⟩
    obtain ⟨a, vs, e, q, r⟩ := hv
    refine ⟨a, vs, e, q, ?_⟩
    refine tIs_bindA s1 p1 fun es B2 w2 us H2 x2 s2 r2 p2 => ?_
    exact p2 w2 _ H2 (Ext.refl _ _) s2.rb (Reps.app (Reps.mono x2.le _ _ r) r2)
end
end Hf

set_option Elab.async false
set_option linter.all false
set_option maxRecDepth 100000
set_option maxHeartbeats 4000000
namespace Hf
open PySem PySem.Spec PyProof.Rows L2

/-! ### fresh containers -/
def PostF (g : Gs) (E : XK) (w : Wd) (H : Hp) (Q : VK) : Rs D → Prop
  | .ok d B' => ∀ w' a o H', Ext w H w' H' → RB g w' B' H' → H' a = some o → Cont g w' d a o → H a = Option.none → w'.P a = Option.none → (∀ n, w'.io n ≠ some a) → (∀ c ds, d ≠ .inst c ds) → Q (.ref a) H'
  | .exc c x B' => ∀ w' cls dd H', Ext w H w' H' → RB g w' B' H' → ExcR g w' c x cls dd H' → E cls dd H'
  | .bad => False
def tF (g : Gs) (E : XK) (H0 : Hp) (m : Ev) : TE := fun σ H Q => ∃ w σI B, S0 g H0 w σI B σ H ∧ PostF g E w H Q (m σI B)
/-- the expression makes a new container -/
abbrev SndF (g : Gs) (E : XK) (H0 : Hp) (X : Cx) (e : Expr) (m : Ev) : Prop := PE X e (tF g E H0 m)
section
variable {g : Gs} {E : XK} {H0 : Hp} {w w1 : Wd} {H H1 : Hp} {σI : Sl} {σ : L2.St} {bo bo1 : Bool} {Q : VK}
theorem PostF.ext (x : Ext w H w1 H1) : ∀ {m : Rs D}, PostF g E w H Q m → PostF g E w1 H1 Q m
  | .ok _ _, h => fun w2 a o H2 x2 rb2 e c n p i z => h w2 a o H2 (x.trans x2) rb2 e c (Classical.byContradiction fun q => x.there a q n) p i z
  | .exc _ _ _, h => fun w2 cls dd H2 x2 rb2 r2 => h w2 cls dd H2 (x.trans x2) rb2 r2
  | .bad, h => h
theorem Cont.rep {d : D} {o : HO} {a : Addr} (c : Cont g w d a o) (hp : w.P a = some o) (z : ∀ c ds, d ≠ .inst c ds) : Rep g w d (.ref a) := by
  cases d <;> simp only [Cont] at c
  · obtain ⟨vs, rfl, r⟩ := c; simp only [Rep]; exact ⟨a, vs, rfl, hp, r⟩
  · obtain ⟨xs, rfl, q⟩ := c; simp only [Rep]; exact ⟨a, xs, rfl, hp, q⟩
  · exact (z _ _ rfl).elim
/-- from now on it is persistent -/
theorem reg_ext {w' : Wd} {H' : Hp} {a : Addr} {o : HO} {B' : Bs} (x : Ext w H w' H') (rb : RB g w' B' H') (e : H' a = some o) (n : H a = Option.none) (p : w'.P a = Option.none) (i : ∀ n, w'.io n ≠ some a) (ho : Nt o) :
    Ext w H (regW w' a o) H' ∧ RB g (regW w' a o) B' H' := by
  have l := regLe w' (o := o) p
  refine ⟨⟨x.le.trans l, x.keep, fun b u h => ?_, x.iof, x.there, x.me⟩, rb.keep l rfl (fun b u h => ?_) (Same.refl _) (fun n b h => ?_) (nt_reg rb.nt ho.t)⟩
  · by_cases hb : b = a
    · subst hb; exact .inr (.inl n)
    · have h : upd w'.P a o b = some u := h
      rw [upd_ne hb] at h
      exact x.pf b u h
  · by_cases hb : b = a
    · subst hb
      have h : upd w'.P b o b = some u := h
      rw [upd_same] at h; cases h; exact e
    · have h : upd w'.P a o b = some u := h
      rw [upd_ne hb] at h
      exact rb.sub b u h
  · show upd w'.P a o b = Option.none
    rw [upd_ne (fun z => i n (by rw [← z]; exact h))]
    exact rb.np n b h
theorem PostF.of : ∀ {m : Rs D}, PostE g E w H σI σ false Q m → PostF g E w H Q m
  | .ok d B', h => fun w' a o H' x rb e c n p i z => by
    obtain ⟨x2, rb2⟩ := reg_ext x rb e n p i c.nt
    exact h (regW w' a o) _ H' x2 rb2 ((c.mono (regLe w' p)).rep upd_same z)
  | .exc _ _ _, h => h
  | .bad, h => h
variable {X : Cx} {e : Expr} {m : Ev}
theorem f_val (h : SndF g E H0 X e m) : Snd g E H0 X false e m := weak h fun σ H Q ⟨w, σI, B, s, p⟩ => ⟨w, σI, B, s, PostF.of p⟩
theorem PostF.newL {ds : List D} {vs : List V} {p : Addr} {B : Bs} (s : S0 g H0 w σI B σ H) (h : PostF g E w H Q (.ok (.lst ds) B)) (r : Reps g w ds vs) (hp : H p = Option.none) : Q (.ref p) (upd H p (.lst vs)) :=
  h w p _ _ (Ext.lay hp) (s.rb.lay hp) upd_same (by simp only [Cont]; exact ⟨vs, rfl, r⟩) hp (s.rb.fresh_P hp) (s.rb.fresh_io hp) (by simp)
theorem tI_bindF {m : Ev} {f : D → Bs → Rs D} {B : Bs} {Q1 : VK} (s : S0 g H0 w σI B σ H) (p : PostF g E w H Q ((m σI B).bind f))
    (ho : ∀ d B1 w1 v H1, Ext w H w1 H1 → S0 g H0 w1 σI B1 σ H1 → RepB g w1 σI σ bo d v → PostF g E w1 H1 Q (f d B1) → Q1 v H1) : tI g E H0 bo m σ H Q1 := by
  refine tI_go s (fun c x B1 q => ?_) (fun q => ?_) fun d B1 q w1 v H1 x s1 r => ?_
  · rw [q] at p; exact p
  · rw [q] at p; exact p
  · rw [q] at p; exact ho d B1 w1 v H1 x s1 r (PostF.ext x p)
theorem tIs_bindF {m : Evs} {f : List D → Bs → Rs D} {B : Bs} {Q1 : List V → Hp → Prop} (s : S0 g H0 w σI B σ H) (p : PostF g E w H Q ((m σI B).bind f))
    (ho : ∀ d B1 w1 v H1, Ext w H w1 H1 → S0 g H0 w1 σI B1 σ H1 → Reps g w1 d v → PostF g E w1 H1 Q (f d B1) → Q1 v H1) : tIs g E H0 m σ H Q1 := by
  refine tIs_go s (fun c x B1 q => ?_) (fun q => ?_) fun d B1 q w1 v H1 x s1 r => ?_
  · rw [q] at p; exact p
  · rw [q] at p; exact p
  · rw [q] at p; exact ho d B1 w1 v H1 x s1 r (PostF.ext x p)
variable {es : List Expr} {ms : Evs} {pos : Pos}
def szL (ds : List D) : Bool := decide (ds.length ≤ sizeLine)
def mTup (ms : Evs) : Ev := fun σI B => (ms σI B).bind fun ds B1 => if szL ds then .ok (.tup ds) B1 else .bad
def mLst (ms : Evs) : Ev := fun σI B => (ms σI B).bind fun ds B1 => if szL ds then .ok (.lst ds) B1 else .bad
/-- (a, b, ..): what is made has no dict -/
def tTupN (t : TA) : TE := fun σ H Q => t σ H fun xs H1 => xs.length ≤ sizeLine ∧ ∀ p (ob : Obj), H1 p = Option.none → ob.dict = Option.none → Q (.ref p) (upd H1 p (.frz ob (.tup xs)))
theorem pe_tupN {t : TA} {x1} (h : PA X es t) : PE X (.Tuple es x1 pos) (tTupN t) := by
  refine ⟨fun pins s σ H Q I h0 => ?_⟩
  refine wpAny_Tuple_spliced (thn (h.run pos pins s σ H _ I h0) fun ws s1 ⟨xs, H1, I1, r, z, q⟩ => ⟨by rw [← r.length]; exact z, ?_⟩)
  exact ⟨.ref s1.heap.objs.size, upd H1 s1.heap.objs.size _, I1.laid (t' := s1.toks) (o := .frz { cls := .type "tuple", data := .seq ws.toArray } (.tup xs)) (fun c oc qc => Heap.get?_push_of_some _ qc) (Nat.le_refl _)
    (frz_tup z r (Heap.get?_push_size _ rfl)), rfl, q _ _ (I1.hok.fresh (Nat.le_refl _)) rfl⟩
theorem s_tup {x1} (h : Snds g E H0 X es ms) : Snd g E H0 X false (.Tuple es x1 pos) (mTup ms) := by
  refine weak (pe_tupN h) ?_
  rintro σ H Q ⟨w, σI, B, s, p⟩
  refine tIs_bind s p fun ds B1 w1 vs H1 x1 s1 r1 p1 => ?_
  split at p1
  · rename_i hl
    exact ⟨by rw [r1.len]; exact of_decide_eq_true hl, fun q ob hq ho => p1.newT s1 r1 hq ho⟩
  · exact p1.elim
theorem f_lst (h : Snds g E H0 X es ms) : SndF g E H0 X (.List es pos) (mLst ms) := by
  refine weak (pe_lst h) ?_
  rintro σ H Q ⟨w, σI, B, s, p⟩
  refine tIs_bindF s p fun ds B1 w1 vs H1 x1 s1 r1 p1 => ?_
  split at p1
  · rename_i hl
    exact ⟨by rw [r1.len]; exact of_decide_eq_true hl, fun q hq => p1.newL s1 r1 hq⟩
  · exact p1.elim
end

/-! ### subscripts -/
def okIf (o : Option D) (B : Bs) : Rs D := match o with
  | some d => .ok d B
  | Option.none => .bad
def fIx : D → D → Bs → Rs D
  | .lst ds, .int i, B => okIf (atI ds i) B
  | .scr ds, .int i, B => okIf (atI ds i) B
  | .tup ds, .int i, B => okIf (atI ds i) B
  | .str z, .int i, B => if z.length ≤ sizeLine then okIf ((atI z.cps.toList i).map fun c => .str ⟨#[c]⟩) B else .bad
  | .box n, .int i, B => match B[n]? with
    | some (.lst ds) => okIf (atI ds i) B
    | _ => .bad
  | _, _, _ => .bad
theorem okIf_go {g : Gs} {E : XK} {w : Wd} {H : Hp} {σI : Sl} {σ : L2.St} {Q : VK} {o : Option D} {B : Bs} (p : PostE g E w H σI σ false Q (okIf o B)) : ∃ d, o = some d ∧ PostE g E w H σI σ false Q (.ok d B) := by
  cases o with
  | none => exact p.elim
  | some d => exact ⟨d, rfl, p⟩
theorem Reps.atI {g : Gs} {w : Wd} {ds : List D} {vs : List V} {i : Int} {d : D} (r : Reps g w ds vs) (e : L2.atI ds i = some d) : ∃ v, L2.atI vs i = some v ∧ Rep g w d v := by
  unfold L2.atI at e ⊢
  rw [r.len]
  cases h : ixN ds.length i with
  | none => rw [h] at e; cases e
  | some j =>
    rw [h] at e
    exact Reps.get r e
theorem os_ix {g : Gs} {E : XK} {H0 : Hp} : OpSem g E H0 (rIx g.K) fIx := by
  intro w σI B σ H Q x y dx dy s rx ry p
  unfold fIx at p
  split at p
  · obtain ⟨d, e, p⟩ := okIf_go p
    obtain ⟨a, vs, rfl, q, r⟩ := rx.lst s
    obtain ⟨v, e2, rv⟩ := r.atI e
    exact .inl ⟨a, vs, _, v, rfl, ry.int s, .inl (.inl q), e2, p.nowR s rv⟩
  · obtain ⟨d, e, p⟩ := okIf_go p
    obtain ⟨a, vs, rfl, q, r⟩ := rx.scr s
    obtain ⟨v, e2, rv⟩ := r.atI e
    exact .inl ⟨a, vs, _, v, rfl, ry.int s, q, e2, p.nowR s rv⟩
  · obtain ⟨d, e, p⟩ := okIf_go p
    obtain ⟨a, vs, rfl, q, r⟩ := rx.tup s
    obtain ⟨v, e2, rv⟩ := r.atI e
    exact .inr (.inl ⟨a, vs, _, v, rfl, ry.int s, q, e2, p.nowR s rv⟩)
  · split at p
    · rename_i hl
      obtain ⟨d, e, p⟩ := okIf_go p
      obtain ⟨c, e1, rfl⟩ := Option.map_eq_some_iff.mp e
      exact .inr (.inr ⟨_, _, c, rx.str s, ry.int s, hl, e1, p.nowR s (rep_str g w _)⟩)
    · exact p.elim
  · split at p
    · rename_i n i ds hb
      obtain ⟨d, e, p⟩ := okIf_go p
      obtain ⟨a, rfl, ha⟩ := rx.box s
      obtain ⟨a', o, h1, h2, c⟩ := s.rb.get _ _ hb
      rw [ha] at h1; cases h1
      simp only [Cont] at c
      obtain ⟨vs, rfl, r⟩ := c
      obtain ⟨v, e2, rv⟩ := r.atI e
      exact .inl ⟨a, vs, _, v, rfl, ry.int s, .inl (.inl h2), e2, p.nowR s rv⟩
    · exact p.elim
  · exact p.elim
section
variable {g : Gs} {E : XK} {H0 : Hp} {X : Cx} {a b e : Expr} {ma mb m ml mh : Ev} {pos p2 : Pos} {b1 b2 b3 : Bool}
theorem s_ix (k : Ok g X) (ha : Snd g E H0 X b1 a ma) (hb : Snd g E H0 X b2 b mb) (hs : PlainIx b := by exact fun _ _ => rfl) : Snd g E H0 X false (.Subscript a b pos) (mBin fIx ma mb) := weak (pe_ix (k.K ▸ ix_seq) ha hb hs) (tOp_of os_ix)
/-! ### slices -/
def cut {α : Type} (xs : List α) (lo hi : Option Int) : List α := (xs.drop (HT.sIx xs.length 0 lo)).take (HT.sIx xs.length xs.length hi - HT.sIx xs.length 0 lo)
def fSl : D → Option Int → Option Int → Bs → Rs D
  | .lst ds, lo, hi, B => .ok (.lst (cut ds lo hi)) B
  | .tup ds, lo, hi, B => .ok (.tup (cut ds lo hi)) B
  | .str z, lo, hi, B => if z.length ≤ sizeLine then .ok (.str (cutS z lo hi)) B else .bad
  | .box n, lo, hi, B => match B[n]? with
    | some (.lst ds) => .ok (.lst (cut ds lo hi)) B
    | _ => .bad
  | _, _, _, _ => .bad
theorem Reps.cut {w : Wd} {ds : List D} {vs : List V} (lo hi : Option Int) (r : Reps g w ds vs) : Reps g w (cut ds lo hi) (cutV vs lo hi) := by
  unfold Hf.cut cutV
  rw [r.len]
  exact Reps.take _ (Reps.drop _ r)
/-- t[lo:hi]: the whole of it is t itself, a part has no dict -/
def rSlN (K : PySem.W.Frag) : V → Option Int → Option Int → Hp → VK → Prop := fun x lo hi H Q => ∃ a xs, x = .ref a ∧ SqT K H a xs ∧
  (HT.sIx xs.length 0 lo = 0 ∧ HT.sIx xs.length xs.length hi = xs.length → Q (.ref a) H) ∧ (¬ (HT.sIx xs.length 0 lo = 0 ∧ HT.sIx xs.length xs.length hi = xs.length) → ∀ p (ob : Obj), H p = Option.none → ob.dict = Option.none → Q (.ref p) (upd H p (.frz ob (.tup (cutV xs lo hi)))))
theorem sl_tupN : SlR X (rSlN X.K) := by
  intro pins s σ H x v vl vu lo hi sl Q I rx hs pl pu h
  obtain ⟨a, xs, rfl, hx, q1, q2⟩ := h
  cases rx
  obtain ⟨us, r, ht, hz⟩ := I.tuple hx
  have hl : us.toArray.size = xs.length := by rw [List.size_toArray, r.length]
  refine ⟨"tuple", _, PyProof.Rows.slot_tuple_getitem.lookup, ht.typeIs, ?_⟩
  by_cases hw : HT.sIx xs.length 0 lo = 0 ∧ HT.sIx xs.length xs.length hi = xs.length
  · exact getItem_tuple_whole ht hs pl pu (by rw [hl]; exact hw) ⟨.ref a, H, I, rfl, q1 hw⟩
  · refine HT.getItem_tuple_cut ht hs pl pu (by rw [hl]; exact hw) ?_ (by rw [hl]; exact hz)
    rw [hl]
    exact ⟨.ref s.heap.objs.size, upd H s.heap.objs.size _, I.laid (t' := s.toks) (o := .frz { cls := .type "tuple", data := .seq ((us.drop (HT.sIx xs.length 0 lo)).take (HT.sIx xs.length xs.length hi - HT.sIx xs.length 0 lo)).toArray } (.tup (cutV xs lo hi))) (fun c oc qc => Heap.get?_push_of_some _ qc) (Nat.le_refl _)
      (frz_tup (Nat.le_trans (cutV_length xs lo hi) hz) ((r.drop _).take _) (Heap.get?_push_size _ rfl)), rfl, q2 hw _ _ (I.hok.fresh (Nat.le_refl _)) rfl⟩
def rSlAll (K : PySem.W.Frag) : V → Option Int → Option Int → Hp → VK → Prop := fun x lo hi H Q => rSlL K x lo hi H Q ∨ rSlN K x lo hi H Q ∨ rSlS x lo hi H Q
theorem sl_all : SlR X (rSlAll X.K) := sl_list.or (sl_tupN.or sl_str)
theorem sl_sem {w : Wd} {σI : Sl} {B : Bs} {σ : L2.St} {H : Hp} {Q : VK} {x : V} {d : D} {lo hi : Option Int} (s : S0 g H0 w σI B σ H) (rx : RepO g w σI σ d x) (p : PostE g E w H σI σ false Q (fSl d lo hi B)) : rSlAll g.K x lo hi H Q := by
  unfold fSl at p
  split at p
  · obtain ⟨a, vs, rfl, q, r⟩ := rx.lst s
    exact .inl ⟨a, vs, rfl, .inl (.inl q), fun q hq => p.newL s (r.cut _ _) hq⟩
  · obtain ⟨a, vs, rfl, q, r⟩ := rx.tup s
    refine .inr (.inl ⟨a, vs, rfl, q, fun h => ?_, fun _ q ob hq ho => p.newT s (r.cut _ _) hq ho⟩)
    have r2 := rx.tupR s
    have e : ∀ ds : List D, vs.length = ds.length → cut ds lo hi = ds := fun ds e => by
      unfold cut
      rw [← e, h.1, h.2, List.drop_zero, Nat.sub_zero, e, List.take_length]
    rw [e _ r.len] at p
    exact p.nowR s r2
  · split at p
    · rename_i hl
      exact .inr (.inr ⟨_, rx.str s, hl, p.nowR s (rep_str g w _)⟩)
    · exact p.elim
  · split at p
    · rename_i n lo hi ds hb
      obtain ⟨a, rfl, ha⟩ := rx.box s
      obtain ⟨a', o, h1, h2, c⟩ := s.rb.get _ _ hb
      rw [ha] at h1; cases h1
      simp only [Cont] at c
      obtain ⟨vs, rfl, r⟩ := c
      exact .inl ⟨a, vs, rfl, .inl (.inl h2), fun q hq => p.newL s (r.cut _ _) hq⟩
    · exact p.elim
  · exact p.elim
def asI (d : D) (B : Bs) : Rs Int := match d with
  | .int i => .ok i B
  | _ => .bad
def mSl10 (m ml : Ev) : Ev := fun σI B => (m σI B).bind fun d B1 => (ml σI B1).bind fun l B2 => (asI l B2).bind fun i B3 => fSl d (some i) none B3
def mSl01 (m mh : Ev) : Ev := fun σI B => (m σI B).bind fun d B1 => (mh σI B1).bind fun l B2 => (asI l B2).bind fun i B3 => fSl d none (some i) B3
theorem asI_go {w : Wd} {σI : Sl} {B B2 : Bs} {σ : L2.St} {H : Hp} {Q : VK} {d : D} {v : V} {f : Int → Bs → Rs D} (s : S0 g H0 w σI B2 σ H) (r : RepO g w σI σ d v) (p : PostE g E w H σI σ false Q ((asI d B).bind f)) :
    ∃ i, v = .int i ∧ PostE g E w H σI σ false Q (f i B) := by
  cases d <;> first | exact p.elim | skip
  exact ⟨_, r.int s, p⟩
theorem s_sl10 (k : Ok g X) {l : Expr} (he : Snd g E H0 X b1 e m) (hl : Snd g E H0 X b2 l ml) : Snd g E H0 X false (.Subscript e (.Slice (some l) none none p2) pos) (mSl10 m ml) := by
  refine weak (pe_slice (k.K ▸ sl_all) he (po_some hl) po_none) ?_
  rintro σ H Q ⟨w, σI, B, s, p⟩
  refine tI_bind s p fun d B1 w1 v H1 x1 s1 r1 p1 => ?_
  refine tI_bind s1 p1 fun d2 B2 w2 v2 H2 x2 s2 r2 p2 => ?_
  obtain ⟨i, rfl, p3⟩ := asI_go s2 r2.up p2
  exact ⟨i, rfl, sl_sem s2 (r1.up.mono x2.le) p3⟩
theorem s_sl01 (k : Ok g X) {h : Expr} (he : Snd g E H0 X b1 e m) (hh : Snd g E H0 X b2 h mh) : Snd g E H0 X false (.Subscript e (.Slice none (some h) none p2) pos) (mSl01 m mh) := by
  refine weak (pe_slice (k.K ▸ sl_all) he po_none (po_some hh)) ?_
  rintro σ H Q ⟨w, σI, B, s, p⟩
  refine tI_bind s p fun d B1 w1 v H1 x1 s1 r1 p1 => ?_
  refine tI_bind s1 p1 fun d2 B2 w2 v2 H2 x2 s2 r2 p2 => ?_
  obtain ⟨i, rfl, p3⟩ := asI_go s2 r2.up p2
  exact ⟨i, rfl, sl_sem s2 (r1.up.mono x2.le) p3⟩
end

/-! ### built-in functions -/
/-- a built-in by values: one argument -/
def One (g : Gs) (E : XK) (H0 : Hp) (X : Cx) (f : Value) (k : D → Bs → Rs D) : Prop := ∃ r, CallR X f r ∧ ∀ (w : Wd) (σI : Sl) (B : Bs) (σ : L2.St) (H : Hp) (Q : VK) (x : V) (d : D),
  S0 g H0 w σI B σ H → RepO g w σI σ d x → PostE g E w H σI σ false Q (k d B) → r [x] H Q
def Two (g : Gs) (E : XK) (H0 : Hp) (X : Cx) (f : Value) (k : D → D → Bs → Rs D) : Prop := ∃ r, CallR X f r ∧ ∀ (w : Wd) (σI : Sl) (B : Bs) (σ : L2.St) (H : Hp) (Q : VK) (x y : V) (d e : D),
  S0 g H0 w σI B σ H → RepO g w σI σ d x → RepO g w σI σ e y → PostE g E w H σI σ false Q (k d e B) → r [x, y] H Q
/-- .. that makes a new list -/
def OneF (g : Gs) (E : XK) (H0 : Hp) (X : Cx) (f : Value) (k : D → Bs → Rs D) : Prop := ∃ r, CallR X f r ∧ ∀ (w : Wd) (σI : Sl) (B : Bs) (σ : L2.St) (H : Hp) (Q : VK) (x : V) (d : D),
  S0 g H0 w σI B σ H → RepO g w σI σ d x → PostF g E w H Q (k d B) → r [x] H Q
section
variable {g : Gs} {E : XK} {H0 : Hp} {X : Cx} {a b e : Expr} {ma mb m : Ev} {pos p1 : Pos} {b1 b2 : Bool} {x : Str} {id T : String} {k : D → Bs → Rs D} {k2 : D → D → Bs → Rs D}
def m1 (k : D → Bs → Rs D) (m : Ev) : Ev := fun σI B => (m σI B).bind k
theorem one_go {r : List V → Hp → VK → Prop} (hr : ∀ (w : Wd) (σI : Sl) (B : Bs) (σ : L2.St) (H : Hp) (Q : VK) (x : V) (d : D), S0 g H0 w σI B σ H → RepO g w σI σ d x → PostE g E w H σI σ false Q (k d B) → r [x] H Q) :
    ∀ σ H Q, tI g E H0 false (m1 k m) σ H Q → tCB r (tCons (tI g E H0 b1 m) tNil) σ H Q := by
  rintro σ H Q ⟨w, σI, B, s, p⟩
  exact tI_bind s p fun d B1 w1 v H1 x1 s1 r1 p1 => hr w1 σI B1 σ H1 Q v d s1 r1.up p1
theorem s_b1 (h : One g E H0 X (.builtin id) k) (hv : bootBuiltins x = some (.builtin id)) (hm : X.mg x = none) (he : Snd g E H0 X b1 e m) (hg : Gl X x := by rfl) (hn : x ≠ "__name__" := by decide) (hdb : (x == ("__debug__" : Str)) = false := by decide)
    (h1 : starEach (e :: []) X.env = (false, eval e X.env) :: starEach [] X.env := by rfl) : Snd g E H0 X false (.Call (.Name x p1) [e] [] pos) (m1 k m) := by
  obtain ⟨r, hc, hr⟩ := h
  exact weak (pe_callB hc hg hm hv (pa_cons he pa_nil h1) hn hdb h1 rfl) (one_go hr)
theorem s_ty1 (h : One g E H0 X (.type T) k) (hv : bootBuiltins x = some (.type T)) (hm : X.mg x = none) (he : Snd g E H0 X b1 e m) (hg : Gl X x := by rfl) (hn : x ≠ "__name__" := by decide) (hdb : (x == ("__debug__" : Str)) = false := by decide)
    (h1 : starEach (e :: []) X.env = (false, eval e X.env) :: starEach [] X.env := by rfl) : Snd g E H0 X false (.Call (.Name x p1) [e] [] pos) (m1 k m) := by
  obtain ⟨r, hc, hr⟩ := h
  exact weak (pe_callTy hc hg hm hv (pa_cons he pa_nil h1) hn hdb h1 rfl) (one_go hr)
theorem f_ty1 (h : OneF g E H0 X (.type T) k) (hv : bootBuiltins x = some (.type T)) (hm : X.mg x = none) (he : Snd g E H0 X b1 e m) (hg : Gl X x := by rfl) (hn : x ≠ "__name__" := by decide) (hdb : (x == ("__debug__" : Str)) = false := by decide)
    (h1 : starEach (e :: []) X.env = (false, eval e X.env) :: starEach [] X.env := by rfl) : SndF g E H0 X (.Call (.Name x p1) [e] [] pos) (m1 k m) := by
  obtain ⟨r, hc, hr⟩ := h
  refine weak (pe_callTy hc hg hm hv (pa_cons he pa_nil h1) hn hdb h1 rfl) ?_
  rintro σ H Q ⟨w, σI, B, s, p⟩
  exact tI_bindF s p fun d B1 w1 v H1 x1 s1 r1 p1 => hr w1 σI B1 σ H1 Q v d s1 r1.up p1
theorem f_b1 (h : OneF g E H0 X (.builtin id) k) (hv : bootBuiltins x = some (.builtin id)) (hm : X.mg x = none) (he : Snd g E H0 X b1 e m) (hg : Gl X x := by rfl) (hn : x ≠ "__name__" := by decide) (hdb : (x == ("__debug__" : Str)) = false := by decide)
    (h1 : starEach (e :: []) X.env = (false, eval e X.env) :: starEach [] X.env := by rfl) : SndF g E H0 X (.Call (.Name x p1) [e] [] pos) (m1 k m) := by
  obtain ⟨r, hc, hr⟩ := h
  refine weak (pe_callB hc hg hm hv (pa_cons he pa_nil h1) hn hdb h1 rfl) ?_
  rintro σ H Q ⟨w, σI, B, s, p⟩
  exact tI_bindF s p fun d B1 w1 v H1 x1 s1 r1 p1 => hr w1 σI B1 σ H1 Q v d s1 r1.up p1
theorem s_b2 (h : Two g E H0 X (.builtin id) k2) (hv : bootBuiltins x = some (.builtin id)) (hm : X.mg x = none) (ha : Snd g E H0 X b1 a ma) (hb : Snd g E H0 X b2 b mb) (hg : Gl X x := by rfl) (hn : x ≠ "__name__" := by decide) (hdb : (x == ("__debug__" : Str)) = false := by decide)
    (h1 : starEach (a :: [b]) X.env = (false, eval a X.env) :: starEach [b] X.env := by rfl) (h2 : starEach (b :: []) X.env = (false, eval b X.env) :: starEach [] X.env := by rfl) (hpl : (backTo pos (starEach [b] X.env)).any (·.1) = false := by rfl) :
    Snd g E H0 X false (.Call (.Name x p1) [a, b] [] pos) (mBin k2 ma mb) := by
  obtain ⟨r, hc, hr⟩ := h
  refine weak (pe_callB hc hg hm hv (pa_cons ha (pa_cons hb pa_nil h2) h1) hn hdb h1 hpl) ?_
  rintro σ H Q ⟨w, σI, B, s, p⟩
  refine tI_bind s p fun d B1 w1 v H1 x1 s1 r1 p1 => ?_
  refine tI_bind s1 p1 fun d2 B2 w2 v2 H2 x2 s2 r2 p2 => ?_
  exact hr w2 σI B2 σ H2 Q v v2 d d2 s2 (r1.up.mono x2.le) r2.up p2

def fLen : D → Bs → Rs D
  | .str z, B => if z.length ≤ sizeLine then .ok (.int z.length) B else .bad
  | .tup ds, B => .ok (.int ds.length) B
  | .lst ds, B => .ok (.int ds.length) B
  | .scr ds, B => .ok (.int ds.length) B
  | .box n, B => match B[n]? with
    | some (.lst ds) => .ok (.int ds.length) B
    | _ => .bad
  | _, _ => .bad
theorem o_len (c : Ok g X) : One g E H0 X (.builtin "len") fLen := ⟨_, call_len, fun w σI B σ H Q x d s r p => by
  unfold fLen at p
  split at p
  · split at p
    · rename_i hl
      exact ⟨x, _, rfl, by rw [r.str s]; exact ⟨hl, rfl⟩, p.nowR s (rep_int g w _)⟩
    · exact p.elim
  · obtain ⟨a, vs, rfl, q, r⟩ := r.tup s
    exact ⟨_, _, rfl, .inr ⟨vs, c.K ▸ q, rfl⟩, by rw [r.len]; exact p.nowR s (rep_int g w _)⟩
  · obtain ⟨a, vs, rfl, q, r⟩ := r.lst s
    exact ⟨_, _, rfl, .inl ⟨vs, .inl (.inl q), rfl⟩, by rw [r.len]; exact p.nowR s (rep_int g w _)⟩
  · obtain ⟨a, vs, rfl, q, r⟩ := r.scr s
    exact ⟨_, _, rfl, .inl ⟨vs, c.K ▸ q, rfl⟩, by rw [r.len]; exact p.nowR s (rep_int g w _)⟩
  · split at p
    · rename_i n ds hb
      obtain ⟨a, rfl, ha⟩ := r.box s
      obtain ⟨a', o, h1, h2, c⟩ := s.rb.get _ _ hb
      rw [ha] at h1; cases h1
      simp only [Cont] at c
      obtain ⟨vs, rfl, r⟩ := c
      exact ⟨_, _, rfl, .inl ⟨vs, .inl (.inl h2), rfl⟩, by rw [r.len]; exact p.nowR s (rep_int g w _)⟩
    · exact p.elim
  · exact p.elim⟩
def fTupO : D → Bs → Rs D
  | .tup ds, B => .ok (.tup ds) B
  | .lst ds, B => .ok (.tup ds) B
  | _, _ => .bad
/-- tuple(x): a tuple is itself, of a list a new one without a dict -/
def rTupN (K : PySem.W.Frag) : List V → Hp → VK → Prop := fun xs H Q => ∃ p ys, xs = [.ref p] ∧ ((SqL K H p ys ∧ ∀ l (ob : Obj), H l = Option.none → ob.dict = Option.none → Q (.ref l) (upd H l (.frz ob (.tup ys)))) ∨ (SqT K H p ys ∧ Q (.ref p) H))
theorem call_tupN : CallR X (.type "tuple") (rTupN X.K) := by
  intro pins s σ H xs us Q I r h
  obtain ⟨p, ys, rfl, h⟩ := h
  obtain ⟨u, rfl, rx⟩ := vals1 r
  cases rx
  rcases h with ⟨hq, q⟩ | ⟨hq, q⟩
  · obtain ⟨ws, r', pl, hz⟩ := I.list hq
    have hl := r'.length
    refine call_tuple_list pl.isList (fun h1 kp => ?_) (by simp only [List.size_toArray] <;> omega)
    have I1 : Inv X pins σ H { s with heap := h1 } := I.kept (t' := s.toks) kp
    exact ⟨.ref h1.objs.size, upd H h1.objs.size _, I1.laid (t' := s.toks) (o := .frz { cls := .type "tuple", data := .seq ws.toArray } (.tup ys)) (fun c oc qc => Heap.get?_push_of_some _ qc) (Nat.le_refl _)
      (frz_tup hz r' (Heap.get?_push_size _ rfl)), rfl, q _ _ (I1.hok.fresh (Nat.le_refl _)) rfl⟩
  · obtain ⟨ws, _, pl, _⟩ := I.tuple hq
    exact call_tuple_same pl ⟨.ref p, H, I, rfl, q⟩
theorem o_tuple (c : Ok g X) : One g E H0 X (.type "tuple") fTupO := ⟨_, call_tupN, fun w σI B σ H Q x d s r p => by
  unfold fTupO at p
  split at p
  · have r2 := r.tupR s
    obtain ⟨a, vs, rfl, q, r⟩ := r.tup s
    exact ⟨a, vs, rfl, .inr ⟨c.K ▸ q, p.nowR s r2⟩⟩
  · obtain ⟨a, vs, rfl, q, r⟩ := r.lst s
    exact ⟨a, vs, rfl, .inl ⟨.inl (.inl q), fun l ob hl ho => p.newT s r hl ho⟩⟩
  · exact p.elim⟩
def fLstO : D → Bs → Rs D
  | .tup ds, B => .ok (.lst ds) B
  | .lst ds, B => .ok (.lst ds) B
  | .box n, B => match B[n]? with
    | some (.lst ds) => .ok (.lst ds) B
    | _ => .bad
  | _, _ => .bad
theorem o_list (c : Ok g X) : OneF g E H0 X (.type "list") fLstO := ⟨_, call_list_of, fun w σI B σ H Q x d s r p => by
  unfold fLstO at p
  split at p
  · obtain ⟨a, vs, rfl, q, r⟩ := r.tup s
    exact ⟨a, vs, rfl, .inr (c.K ▸ q), fun l hl => p.newL s r hl⟩
  · obtain ⟨a, vs, rfl, q, r⟩ := r.lst s
    exact ⟨a, vs, rfl, .inl (.inl (.inl q)), fun l hl => p.newL s r hl⟩
  · split at p
    · rename_i n ds hb
      obtain ⟨a, rfl, ha⟩ := r.box s
      obtain ⟨a', o, h1, h2, c⟩ := s.rb.get _ _ hb
      rw [ha] at h1; cases h1
      simp only [Cont] at c
      obtain ⟨vs, rfl, r⟩ := c
      exact ⟨a, vs, rfl, .inl (.inl (.inl h2)), fun l hl => p.newL s r hl⟩
    · exact p.elim
  · exact p.elim⟩
def fInt : D → Bs → Rs D
  | .int i, B => .ok (.int i) B
  | .bool b, B => .ok (.int (if b then 1 else 0)) B
  | _, _ => .bad
theorem o_int : One g E H0 X (.type "int") fInt := ⟨_, call_int1, fun w σI B σ H Q x d s r p => by
  unfold fInt at p
  split at p
  · exact .inl ⟨_, by rw [r.int s], p.nowR s (rep_int g w _)⟩
  · exact .inr ⟨_, by rw [r.bool s], p.nowR s (rep_int g w _)⟩
  · exact p.elim⟩
abbrev fMax2 := fI2 (fun i j => .int (if j > i then j else i)) fun _ _ => true
abbrev fMin2 := fI2 (fun i j => .int (if j < i then j else i)) fun _ _ => true
theorem o_max2 (c : Ok g X) : Two g E H0 X (.builtin "max") fMax2 := ⟨_, call_max2 c.calm, fun w σI B σ H Q x y d e s r1 r2 p => by
  cases d <;> first | exact p.elim | skip
  cases e <;> first | exact p.elim | skip
  exact ⟨_, _, by rw [r1.int s, r2.int s], PostE.nowR s p (rep_int g w _)⟩⟩
theorem o_min2 (c : Ok g X) : Two g E H0 X (.builtin "min") fMin2 := ⟨_, call_min2 c.calm, fun w σI B σ H Q x y d e s r1 r2 p => by
  cases d <;> first | exact p.elim | skip
  cases e <;> first | exact p.elim | skip
  exact ⟨_, _, by rw [r1.int s, r2.int s], PostE.nowR s p (rep_int g w _)⟩⟩
end
end Hf

set_option Elab.async false
set_option linter.all false
set_option maxRecDepth 100000
set_option maxHeartbeats 4000000
namespace Hf
open PySem PySem.Spec PyProof.Rows L2

/-! ### statements -/
inductive Ss where
  | next (σ : Sl) (B : Bs) | ret (d : D) (B : Bs) | exc (c : Nat) (x : Option D) (B : Bs) | bad
abbrev Ms := Sl → Bs → Ss
def Ss.seq (m : Ss) (k : Ms) : Ss := match m with
  | .next σ B => k σ B
  | .ret d B => .ret d B
  | .exc c x B => .exc c x B
  | .bad => .bad
def Rs.st {α : Type} (m : Rs α) (k : α → Bs → Ss) : Ss := match m with
  | .ok a B => k a B
  | .exc c x B => .exc c x B
  | .bad => .bad
def PostS (g : Gs) (E : XK) (w0 : Wd) (H0 : Hp) (w : Wd) (D : Ends) : Ss → Prop
  | .next σI B => ∀ w' σ H, Le w w' → S0 g H0 w' σI B σ H → Ext w0 H0 w' H → D.nx σ H
  | .ret d B => ∀ w v H, RB g w B H → Ext w0 H0 w H → Rep g w d v → D.rt v H
  | .exc c x B => ∀ w cls dd H, RB g w B H → Ext w0 H0 w H → ExcR g w c x cls dd H → E cls dd H
  | .bad => False
def tS (g : Gs) (E : XK) (w0 : Wd) (H0 : Hp) (m : Ms) : TS := fun D σ H => ∃ w σI B, S0 g H0 w σI B σ H ∧ Ext w0 H0 w H ∧ PostS g E w0 H0 w D (m σI B)
abbrev SndS (g : Gs) (E : XK) (w0 : Wd) (H0 : Hp) (X : Cx) (st : Stmt) (m : Ms) : Prop := PS X st (tS g E w0 H0 m)
abbrev SndB (g : Gs) (E : XK) (w0 : Wd) (H0 : Hp) (X : Cx) (st : List Stmt) (m : Ms) : Prop := PSs X st (tS g E w0 H0 m)
theorem weakS {X : Cx} {e : Stmt} {t t' : TS} (h : PS X e t) (k : ∀ D σ H, t' D σ H → t D σ H) : PS X e t' := ⟨fun pins s σ H Q I q => h.run pins s σ H Q I (k Q σ H q)⟩
theorem weakB {X : Cx} {e : List Stmt} {t t' : TS} (h : PSs X e t) (k : ∀ D σ H, t' D σ H → t D σ H) : PSs X e t' := ⟨fun pins s σ H Q I q => h.run pins s σ H Q I (k Q σ H q)⟩

section
variable {g : Gs} {E : XK} {w0 w w1 : Wd} {H H0 H1 : Hp} {σI : Sl} {σ : L2.St} {B : Bs} {bo : Bool} {Q : VK} {D : Ends}
theorem PostS.le (l : Le w w1) : ∀ {m : Ss}, PostS g E w0 H0 w D m → PostS g E w0 H0 w1 D m
  | .next _ _, h => fun w' σ H l' s x => h w' σ H (l.trans l') s x
  | .ret _ _, h => h
  | .exc _ _ _, h => h
  | .bad, h => h
/-- an expression at the head of a statement -/
theorem st_go {m : Ev} {f : Hf.D → Bs → Ss} {Q1 : VK} (s : S0 g H0 w σI B σ H) (x0 : Ext w0 H0 w H) (p : PostS g E w0 H0 w D ((m σI B).st f))
    (ho : ∀ d B1 w1 v H1, Ext w0 H0 w1 H1 → Ext w H w1 H1 → S0 g H0 w1 σI B1 σ H1 → RepB g w1 σI σ bo d v → PostS g E w0 H0 w1 D (f d B1) → Q1 v H1) : tI g E H0 bo m σ H Q1 := by
  refine tI_go s (fun c x B1 q => ?_) (fun q => ?_) fun d B1 q w1 v H1 x s1 r => ?_
  · rw [q] at p; exact fun w' cls dd H' x' rb r => p w' cls dd H' rb (x0.trans x') r
  · rw [q] at p; exact p
  · rw [q] at p; exact ho d B1 w1 v H1 (x0.trans x) x s1 r (PostS.le x.le p)
theorem st_goT {m : Et} {f : Bool → Bs → Ss} {Q1 : Bool → Hp → Prop} (s : S0 g H0 w σI B σ H) (x0 : Ext w0 H0 w H) (p : PostS g E w0 H0 w D ((m σI B).st f))
    (ho : ∀ d B1 w1 H1, Ext w0 H0 w1 H1 → S0 g H0 w1 σI B1 σ H1 → PostS g E w0 H0 w1 D (f d B1) → Q1 d H1) : tIt g E H0 m σ H Q1 := by
  refine tIt_go s (fun c x B1 q => ?_) (fun q => ?_) fun d B1 q w1 H1 x s1 => ?_
  · rw [q] at p; exact fun w' cls dd H' x' rb r => p w' cls dd H' rb (x0.trans x') r
  · rw [q] at p; exact p
  · rw [q] at p; exact ho d B1 w1 H1 (x0.trans x) s1 (PostS.le x.le p)
theorem st_goF {m : Ev} {f : Hf.D → Bs → Ss} {Q1 : VK} (s : S0 g H0 w σI B σ H) (x0 : Ext w0 H0 w H) (p : PostS g E w0 H0 w D ((m σI B).st f))
    (ho : ∀ d B1 w1 a o H1, Ext w0 H0 w1 H1 → Ext w H w1 H1 → S0 g H0 w1 σI B1 σ H1 → H1 a = some o → Cont g w1 d a o → H a = Option.none → w1.P a = Option.none → (∀ n, w1.io n ≠ some a) → (∀ c ds, d ≠ .inst c ds) → PostS g E w0 H0 w1 D (f d B1) → Q1 (.ref a) H1) : tF g E H0 m σ H Q1 := by
  refine ⟨w, σI, B, s, ?_⟩
  cases q : m σI B with
  | ok d B1 =>
    rw [q] at p
    exact fun w1 a o H1 x rb e c n pp i z => ho d B1 w1 a o H1 (x0.trans x) x (s.step x rb) e c n pp i z (PostS.le x.le p)
  | exc c x B1 =>
    rw [q] at p
    exact fun w' cls dd H' x' rb r => p w' cls dd H' rb (x0.trans x') r
  | bad => rw [q] at p; exact p

/-! slots -/
theorem get_set {α : Type} {l : List α} {i j : Nat} {a b : α} (h : (l.set i a)[j]? = some b) : (i = j ∧ a = b ∧ i < l.length) ∨ (i ≠ j ∧ l[j]? = some b) := by
  by_cases e : i = j
  · subst e
    by_cases hl : i < l.length
    · rw [List.getElem?_set_self hl] at h; exact .inl ⟨rfl, Option.some.inj h, hl⟩
    · rw [List.getElem?_eq_none (by simp; omega)] at h; cases h
  · rw [List.getElem?_set_ne e] at h; exact .inr ⟨e, h⟩
theorem S0.set {d : Hf.D} {v : V} (s : S0 g H0 w σI B σ H) (i : Nat) (r : Rep g w d v) : S0 g H0 w (σI.set i (some (false, d))) B (σ.set i (some v)) H where
  rb := s.rb
  len := by simp [s.len]
  sl := fun j e h => by
    rcases get_set h with ⟨rfl, h1, h2⟩ | ⟨h1, h2⟩
    · cases h1
      exact ⟨v, by rw [List.getElem?_set_self (by rw [← s.len]; exact h2)], r⟩
    · obtain ⟨u, e1, e2⟩ := s.sl j e h2
      exact ⟨u, by rw [List.getElem?_set_ne h1]; exact e1, e2⟩
  ow := fun j e h => by
    rcases get_set h with ⟨rfl, h1, h2⟩ | ⟨h1, h2⟩
    · cases h1
    · obtain ⟨a, o, e1, e2⟩ := s.ow j e h2
      exact ⟨a, o, by rw [List.getElem?_set_ne h1]; exact e1, e2⟩
  oi := fun j k e f a h1 h2 h3 h4 => by
    rcases get_set h1 with ⟨rfl, q, _⟩ | ⟨n1, q1⟩
    · cases q
    rcases get_set h2 with ⟨rfl, q, _⟩ | ⟨n2, q2⟩
    · cases q
    rw [List.getElem?_set_ne n1] at h3
    rw [List.getElem?_set_ne n2] at h4
    exact s.oi j k e f a q1 q2 h3 h4
  me := fun j c ds b h1 h2 => by
    rcases get_set h1 with ⟨rfl, q, _⟩ | ⟨n1, q1⟩
    · cases q
    rw [List.getElem?_set_ne n1] at h2
    exact s.me j c ds b q1 h2
theorem S0.own_ne {j : Nat} {e : Hf.D} {a : Addr} (s : S0 g H0 w σI B σ H) (h : σI[j]? = some (some (true, e))) (n : H a = Option.none) : σ[j]? ≠ some (some (.ref a)) := fun z => by
  obtain ⟨b, o, e1, e2, _⟩ := s.ow j e h
  rw [z] at e1; cases e1; rw [n] at e2; cases e2
theorem S0.setO {d : Hf.D} {a : Addr} {o : HO} (s : S0 g H0 w σI B σ H) (i : Nat) (e : H a = some o) (c : Cont g w d a o) (np : w.P a = Option.none) (nb : ∀ n, w.io n ≠ some a) (n0 : H0 a = Option.none)
    (nw : ∀ (j : Nat) (e : Hf.D), σI[j]? = some (some (true, e)) → σ[j]? ≠ some (some (V.ref a))) (z : ∀ c ds, d ≠ .inst c ds) : S0 g H0 w (σI.set i (some (true, d))) B (σ.set i (some (.ref a))) H where
  rb := s.rb
  len := by simp [s.len]
  sl := fun j f h => by
    rcases get_set h with ⟨rfl, h1, h2⟩ | ⟨h1, h2⟩
    · cases h1
    · obtain ⟨u, e1, e2⟩ := s.sl j f h2
      exact ⟨u, by rw [List.getElem?_set_ne h1]; exact e1, e2⟩
  ow := fun j f h => by
    rcases get_set h with ⟨rfl, h1, h2⟩ | ⟨h1, h2⟩
    · cases h1
      exact ⟨a, o, by rw [List.getElem?_set_self (by rw [← s.len]; exact h2)], e, c, np, nb, n0⟩
    · obtain ⟨b, u, e1, e2⟩ := s.ow j f h2
      exact ⟨b, u, by rw [List.getElem?_set_ne h1]; exact e1, e2⟩
  oi := fun j k f f' b h1 h2 h3 h4 => by
    rcases get_set h1 with ⟨rfl, q, l⟩ | ⟨n1, q1⟩
    · rcases get_set h2 with ⟨rfl, q', l'⟩ | ⟨n2, q2⟩
      · rfl
      · rw [List.getElem?_set_self (by rw [← s.len]; exact l)] at h3
        rw [List.getElem?_set_ne n2] at h4
        cases h3
        exact (nw k f' q2 h4).elim
    · rcases get_set h2 with ⟨rfl, q', l'⟩ | ⟨n2, q2⟩
      · rw [List.getElem?_set_self (by rw [← s.len]; exact l')] at h4
        rw [List.getElem?_set_ne n1] at h3
        cases h4
        exact (nw j f q1 h3).elim
      · rw [List.getElem?_set_ne n1] at h3
        rw [List.getElem?_set_ne n2] at h4
        exact s.oi j k f f' b q1 q2 h3 h4
  me := fun j c ds b h1 h2 => by
    rcases get_set h1 with ⟨rfl, q, _⟩ | ⟨n1, q1⟩
    · cases q; exact (z _ _ rfl).elim
    rw [List.getElem?_set_ne n1] at h2
    exact s.me j c ds b q1 h2
theorem set_same {l : L2.St} {i : Nat} {x : Option V} (h : l[i]? = some x) : l.set i x = l := by
  apply List.ext_getElem?
  intro j
  by_cases e : i = j
  · subst e
    rw [List.getElem?_set_self (by
      have := (List.getElem?_eq_some_iff.mp h).1
      exact this), h]
  · rw [List.getElem?_set_ne e]
/-- a name's own container is changed -/
theorem S0.mut {d d' : Hf.D} {a : Addr} {o' : HO} {i : Nat} (s : S0 g H0 w σI B σ H) (h : σI[i]? = some (some (true, d))) (hi : σ[i]? = some (some (.ref a))) (c : Cont g w d' a o') (hm : ∀ c ds, d' = .inst c ds → ∃ c' ds', d = .inst c' ds') : S0 g H0 w (σI.set i (some (true, d'))) B σ (upd H a o') := by
  obtain ⟨a', o, e1, ha, cd, np, nb, n0⟩ := s.ow i d h
  rw [hi] at e1; cases e1
  have hP : ∀ b u, w.P b = some u → b ≠ a := fun b u e z => by subst z; rw [np] at e; cases e
  refine ⟨⟨fun b u e => by rw [upd_ne (hP b u e)]; exact s.rb.sub b u e, fun n b e => ?_, s.rb.inj, s.rb.np, s.rb.dom, tabs_upd s.rb.tb fun u q => by rw [ha] at q; cases q; exact cd.nt, s.rb.nt⟩, by simp [s.len], fun j e q => ?_, fun j e q => ?_, fun j k e f b h1 h2 h3 h4 => ?_, fun j c ds b h1 h2 => ?_⟩
  · obtain ⟨b', u, h1, h2, h3⟩ := s.rb.get n b e
    exact ⟨b', u, h1, by rw [upd_ne (fun z => nb n (by rw [← z]; exact h1))]; exact h2, h3⟩
  · rcases get_set q with ⟨rfl, h1, h2⟩ | ⟨h1, h2⟩
    · cases h1
    · exact s.sl j e h2
  · rcases get_set q with ⟨rfl, h1, h2⟩ | ⟨h1, h2⟩
    · cases h1
      exact ⟨a, o', hi, upd_same, c, np, nb, n0⟩
    · obtain ⟨b, u, e1, e2, e3⟩ := s.ow j e h2
      refine ⟨b, u, e1, ?_, e3⟩
      rw [upd_ne (fun z => h1 (s.oi i j d e a h h2 hi (by rw [← z]; exact e1)))]
      exact e2
  · rcases get_set h1 with ⟨rfl, q, l⟩ | ⟨n1, q1⟩
    · rcases get_set h2 with ⟨rfl, q', l'⟩ | ⟨n2, q2⟩
      · rfl
      · exact s.oi _ _ _ _ b h q2 h3 h4
    · rcases get_set h2 with ⟨rfl, q', l'⟩ | ⟨n2, q2⟩
      · exact s.oi _ _ _ _ b q1 h h3 h4
      · exact s.oi _ _ _ _ b q1 q2 h3 h4
  · rcases get_set h1 with ⟨rfl, q, _⟩ | ⟨n1, q1⟩
    · cases q
      obtain ⟨c', ds', rfl⟩ := hm _ _ rfl
      exact s.me _ c' ds' b h h2
    · exact s.me j c ds b q1 h2
theorem Ext.mut {a : Addr} {o : HO} (x : Ext w0 H0 w H) (n0 : H0 a = Option.none) : Ext w0 H0 w (upd H a o) where
  le := x.le
  keep := fun b u h hn ht => by rw [upd_ne (ne_of_none h n0)]; exact x.keep b u h hn ht
  pf := x.pf
  iof := x.iof
  there := fun b h z => by
    by_cases e : b = a
    · subst e; exact h n0
    · rw [upd_ne e] at z; exact x.there b h z
  me := x.me
/-- .. a box -/
theorem Ext.mutB {n : Nat} {a : Addr} {o : HO} (x : Ext w0 H0 w H) (hn : w.io n = some a) : Ext w0 H0 w (upd H a o) where
  le := x.le
  keep := fun b u h hb ht => by
    have e : b ≠ a := fun z => by
      subst z
      rcases x.iof n b hn with q | q
      · exact hb n q
      · rw [h] at q; cases q
    rw [upd_ne e]; exact x.keep b u h hb ht
  pf := x.pf
  iof := x.iof
  there := fun b h z => by
    by_cases e : b = a
    · subst e; rw [upd_same] at z; cases z
    · rw [upd_ne e] at z; exact x.there b h z
  me := x.me
theorem RB.mut {n : Nat} {a : Addr} {o' : HO} {d' : Hf.D} (rb : RB g w B H) (hn : w.io n = some a) (c : Cont g w d' a o') : RB g w (B.set n d') (upd H a o') where
  sub := fun b u e => by
    rw [upd_ne (fun z => by subst z; rw [rb.np n b hn] at e; cases e)]; exact rb.sub b u e
  get := fun m b e => by
    rcases get_set e with ⟨rfl, rfl, _⟩ | ⟨h1, h2⟩
    · exact ⟨a, o', hn, upd_same, c⟩
    · obtain ⟨b', u, e1, e2, e3⟩ := rb.get m b h2
      exact ⟨b', u, e1, by rw [upd_ne (fun z => h1 (rb.inj n m a hn (by rw [← z]; exact e1)))]; exact e2, e3⟩
  inj := rb.inj
  np := rb.np
  dom := fun m b e => by rw [List.length_set]; exact rb.dom m b e
  tb := tabs_upd rb.tb fun u e => by
    obtain ⟨b, hb⟩ : ∃ b, B[n]? = some b := ⟨_, List.getElem?_eq_getElem (rb.dom n a hn)⟩
    obtain ⟨a', o, h1, h2, h3⟩ := rb.get n b hb
    rw [hn] at h1; cases h1
    rw [e] at h2; cases h2
    exact h3.nt
  nt := rb.nt
theorem S0.mutB {n : Nat} {a : Addr} {o' : HO} {d' : Hf.D} (s : S0 g H0 w σI B σ H) (hn : w.io n = some a) (c : Cont g w d' a o') : S0 g H0 w σI (B.set n d') σ (upd H a o') where
  rb := s.rb.mut hn c
  len := s.len
  sl := s.sl
  ow := fun i d h => by
    obtain ⟨b, u, e1, e2, e3, e4, e5, e6⟩ := s.ow i d h
    exact ⟨b, u, e1, by rw [upd_ne (fun z => e5 n (by rw [z]; exact hn))]; exact e2, e3, e4, e5, e6⟩
  oi := s.oi
  me := s.me
/-- a name's own container is from now on data -/
def frz (i : Nat) (σI : Sl) : Option Sl := match σI[i]? with
  | some (some (true, .inst _ _)) => Option.none
  | some (some (_, d)) => some (σI.set i (some (false, d)))
  | _ => Option.none
theorem S0.frz {i : Nat} {σI' : Sl} (s : S0 g H0 w σI B σ H) (x0 : Ext w0 H0 w H) (h : Hf.frz i σI = some σI') : ∃ w', Le w w' ∧ S0 g H0 w' σI' B σ H ∧ Ext w0 H0 w' H := by
  unfold Hf.frz at h
  split at h
  · cases h
  · rename_i k d hi hz
    cases h
    cases k with
    | false =>
      obtain ⟨v, e, r⟩ := s.sl i d hz
      refine ⟨w, Le.refl _, ?_, x0⟩
      have := s.set i r
      rw [set_same e] at this
      exact this
    | true =>
      obtain ⟨a, o, e1, ha, c, np, nb, n0⟩ := s.ow i d hz
      have l := regLe w (o := o) np
      refine ⟨regW w a o, l, ⟨s.rb.keep l rfl (fun b u h => ?_) (Same.refl _) (fun n b h => ?_) (nt_reg s.rb.nt c.nt.t), by simp [s.len], fun j e h => ?_, fun j e h => ?_, fun j k e f b h1 h2 h3 h4 => ?_, fun j c' ds' b h1 h2 => ?_⟩, ⟨x0.le.trans l, x0.keep, fun b u h => ?_, x0.iof, x0.there, x0.me⟩⟩
      · by_cases hb : b = a
        · subst hb
          have h : upd w.P b o b = some u := h
          rw [upd_same] at h; cases h; exact ha
        · have h : upd w.P a o b = some u := h
          rw [upd_ne hb] at h
          exact s.rb.sub b u h
      · show upd w.P a o b = Option.none
        rw [upd_ne (fun z => nb n (by rw [← z]; exact h))]
        exact s.rb.np n b h
      · rcases get_set h with ⟨rfl, h1, h2⟩ | ⟨h1, h2⟩
        · cases h1
          refine ⟨_, e1, (c.mono l).rep upd_same fun c ds z => ?_⟩
          subst z
          exact hi _ _ rfl rfl
        · obtain ⟨v, e2, r⟩ := s.sl j e h2
          exact ⟨v, e2, Rep.mono l _ _ r⟩
      · rcases get_set h with ⟨rfl, h1, h2⟩ | ⟨h1, h2⟩
        · cases h1
        · obtain ⟨b, u, e2, e3, e4, e5, e6, e7⟩ := s.ow j e h2
          have hb : b ≠ a := fun z => h1 (s.oi i j d e a hz h2 e1 (by rw [← z]; exact e2))
          exact ⟨b, u, e2, e3, e4.mono l, (by show upd w.P a o b = Option.none; rw [upd_ne hb]; exact e5), e6, e7⟩
      · rcases get_set h1 with ⟨rfl, q, _⟩ | ⟨n1, q1⟩
        · cases q
        rcases get_set h2 with ⟨rfl, q, _⟩ | ⟨n2, q2⟩
        · cases q
        exact s.oi j k e f b q1 q2 h3 h4
      · rcases get_set h1 with ⟨rfl, q, _⟩ | ⟨n1, q1⟩
        · cases q
        exact s.me j c' ds' b q1 h2
      · by_cases hb : b = a
        · subst hb; exact .inr (.inl n0)
        · have h : upd w.P a o b = some u := h
          rw [upd_ne hb] at h
          exact x0.pf b u h
  · cases h
theorem Ext.none0 {a : Addr} (x : Ext w0 H0 w H) (n : H a = Option.none) : H0 a = Option.none := Classical.byContradiction fun q => x.there a q n
end

section
variable {g : Gs} {E : XK} {w0 : Wd} {H0 : Hp} {X : Cx} {st : Stmt} {rest sts sts2 : List Stmt} {m m1 m2 : Ms} {e a b c : Expr} {me ma mb : Ev} {ms : Evs} {mt : Et} {pos p1 p2 : Pos} {bo b1 b2 : Bool} {x : Str} {i j : Nat}
/-! blocks -/
def mSkip : Ms := fun σ B => .next σ B
def mSeq (m1 m2 : Ms) : Ms := fun σ B => (m1 σ B).seq m2
def mFrz (i : Nat) (m : Ms) : Ms := fun σ B => match frz i σ with
  | some σ' => m σ' B
  | Option.none => .bad
theorem b_nil : SndB g E w0 H0 X [] mSkip := weakB pss_nil fun D σ H ⟨w, σI, B, s, x, p⟩ => p w σ H (Le.refl _) s x
theorem b_one (h : SndS g E w0 H0 X st m) : SndB g E w0 H0 X [st] m := pss_one h
theorem b_cons (h1 : SndS g E w0 H0 X st m1) (h2 : SndB g E w0 H0 X rest m2) : SndB g E w0 H0 X (st :: rest) (mSeq m1 m2) := by
  refine weakB (pss_cons h1 h2) ?_
  rintro D σ H ⟨w, σI, B, s, x, p⟩
  refine ⟨w, σI, B, s, x, ?_⟩
  unfold mSeq at p
  revert p
  generalize m1 σI B = q
  intro p
  cases q with
  | next σ' B' => exact fun w' σ'' H' l' s' x' => ⟨w', σ', B', s', x', PostS.le l' p⟩
  | ret d B' => exact p
  | exc c y B' => exact p
  | bad => exact p
theorem s_frz (h : SndS g E w0 H0 X st m) : SndS g E w0 H0 X st (mFrz i m) := weakS h fun D σ H ⟨w, σI, B, s, x, p⟩ => by
  unfold mFrz at p
  split at p
  · rename_i σI' e
    obtain ⟨w', l, s', x'⟩ := s.frz x e
    exact ⟨w', σI', B, s', x', PostS.le l p⟩
  · exact p.elim
/-! simple statements -/
def mRet (m : Ev) : Ms := fun σ B => (m σ B).st fun d B1 => .ret d B1
theorem z_ret (h : Snd g E H0 X false e me) : SndS g E w0 H0 X (.Return (some e) pos) (mRet me) := by
  refine weakS (ps_ret h) ?_
  rintro D σ H ⟨w, σI, B, s, x, p⟩
  exact st_go s x p fun d B1 w1 v H1 x1 _ s1 r p1 => p1 w1 v H1 s1.rb x1 r
def mDo (m : Ev) : Ms := fun σ B => (m σ B).st fun _ B1 => .next σ B1
theorem z_expr (h : Snd g E H0 X bo e me) (hs : swapsWith e none pos.line X.env = pure false := by rfl) : SndS g E w0 H0 X (.Expr e pos) (mDo me) := by
  refine weakS (ps_expr h hs) ?_
  rintro D σ H ⟨w, σI, B, s, x, p⟩
  exact st_go s x p fun d B1 w1 v H1 x1 _ s1 r p1 => p1 w1 σ H1 (Le.refl _) s1 x1
def mIf (t : Et) (m1 m2 : Ms) : Ms := fun σ B => (t σ B).st fun k B1 => if k then m1 σ B1 else m2 σ B1
theorem z_if (hc : SndT g E H0 X c mt) (ha : SndB g E w0 H0 X sts m1) (hb : SndB g E w0 H0 X sts2 m2) : SndS g E w0 H0 X (.If c sts sts2 pos) (mIf mt m1 m2) := by
  refine weakS (ps_if hc ha hb) ?_
  rintro D σ H ⟨w, σI, B, s, x, p⟩
  refine st_goT s x p fun k B1 w1 H1 x1 s1 p1 => ?_
  cases k with
  | true => exact ⟨w1, σI, B1, s1, x1, p1⟩
  | false => exact ⟨w1, σI, B1, s1, x1, p1⟩
/-! names stored -/
def mSet (i : Nat) (m : Ev) : Ms := fun σ B => (m σ B).st fun d B1 => .next (σ.set i (some (false, d))) B1
def mSetO (i : Nat) (m : Ev) : Ms := fun σ B => (m σ B).st fun d B1 => .next (σ.set i (some (true, d))) B1
theorem set_at {t : TE} (ht : t = tI g E H0 false me) {D : Ends} {σ : L2.St} {H : Hp} (h : tS g E w0 H0 (mSet i me) D σ H) : tAsg t (gName i) D σ H := by
  subst ht
  obtain ⟨w, σI, B, s, x, p⟩ := h
  exact st_go s x p fun d B1 w1 v H1 x1 _ s1 r p1 => p1 w1 _ H1 (Le.refl _) (s1.set i r) x1
theorem setO_at {D : Ends} {σ : L2.St} {H : Hp} (h : tS g E w0 H0 (mSetO i me) D σ H) : tAsg (tF g E H0 me) (gName i) D σ H := by
  obtain ⟨w, σI, B, s, x, p⟩ := h
  exact st_goF s x p fun d B1 w1 a o H1 x1 x2 s1 e c n pp io z p1 => p1 w1 _ H1 (Le.refl _) (s1.setO i e c pp io (x.none0 n) (fun j f hj => s.own_ne hj n) z) x1
theorem z_set (hN : X.N.Nodup) (h : Snd g E H0 X false e me) (hi : X.N[i]? = some x := by rfl) (hx : Loc X.env.scope x := by first | exact .inl rfl | exact .inr rfl) (hs : swapsWith e (some (.Name x p1)) pos.line X.env = pure false := by rfl) (hf : X.fn x = true := by rfl) :
    SndS g E w0 H0 X (.Assign [.Name x p1] e pos) (mSet i me) := weakS (ps_set hN hi hx h hs (.inl hf)) fun _ _ _ h => set_at rfl h
theorem z_setO (hN : X.N.Nodup) (h : SndF g E H0 X e me) (hi : X.N[i]? = some x := by rfl) (hx : Loc X.env.scope x := by first | exact .inl rfl | exact .inr rfl) (hs : swapsWith e (some (.Name x p1)) pos.line X.env = pure false := by rfl) (hf : X.fn x = true := by rfl) :
    SndS g E w0 H0 X (.Assign [.Name x p1] e pos) (mSetO i me) := weakS (ps_set hN hi hx h hs (.inl hf)) fun _ _ _ h => setO_at h
/-! targets -/
abbrev Tg := D → Sl → Option Sl
def tG (g : Gs) (H0 : Hp) (t : Tg) (sl : List Nat) : TG := fun v σ H Q => ∃ w d σI B σI', S0 g H0 w σI B σ H ∧ Rep g w d v ∧ t d σI = some σI' ∧ ∀ σ' : L2.St, S0 g H0 w σI' B σ' H → σ'.length = σ.length → (∀ j : Nat, j ∉ sl → σ'[j]? = σ[j]?) → Q σ' H
abbrev SndG (g : Gs) (H0 : Hp) (X : Cx) (e : Expr) (t : Tg) (sl : List Nat) : Prop := PG X e (tG g H0 t sl)
abbrev Tgs := List D → Sl → Option Sl
def tGs (g : Gs) (H0 : Hp) (t : Tgs) (sl : List Nat) : TGs := fun vs σ H Q => ∃ w ds σI B σI', S0 g H0 w σI B σ H ∧ Reps g w ds vs ∧ t ds σI = some σI' ∧ ∀ σ' : L2.St, S0 g H0 w σI' B σ' H → σ'.length = σ.length → (∀ j : Nat, j ∉ sl → σ'[j]? = σ[j]?) → Q σ' H
abbrev SndGs (g : Gs) (H0 : Hp) (X : Cx) (es : List Expr) (t : Tgs) (sl : List Nat) : Prop := PGs X es (tGs g H0 t sl)
theorem weakG {X : Cx} {e : Expr} {t t' : TG} (h : PG X e t) (k : ∀ v σ H Q, t' v σ H Q → t v σ H Q) : PG X e t' := ⟨fun pins s σ H v u Q I r q => h.run pins s σ H v u Q I r (k v σ H Q q)⟩
theorem weakGs {X : Cx} {e : List Expr} {t t' : TGs} (h : PGs X e t) (k : ∀ v σ H Q, t' v σ H Q → t v σ H Q) : PGs X e t' := ⟨fun pins s σ H v u Q I r q => h.run pins s σ H v u Q I r (k v σ H Q q)⟩
def gN (i : Nat) : Tg := fun d σ => some (σ.set i (some (false, d)))
theorem g_name (hN : X.N.Nodup) (hi : X.N[i]? = some x := by rfl) (hx : Loc X.env.scope x := by first | exact .inl rfl | exact .inr rfl) (hf : X.fn x = true ∨ X.env.scope.names.lookup x = some .local := by first | exact .inl rfl | exact .inr rfl) : SndG g H0 X (.Name x pos) (gN i) [i] :=
  weakG (pg_name hN hi hx hf) fun v σ H Q ⟨w, d, σI, B, σI', s, r, e, q⟩ => by cases e; exact q _ (s.set i r) (by simp) fun j hj => List.getElem?_set_ne (by simpa [eq_comm] using hj)
def gT (t : Tgs) : Tg := fun d σ => match d with
  | .tup ds => t ds σ
  | .prs ds => t ds σ
  | _ => Option.none
def gs0 : Tgs := fun ds σ => match ds with
  | [] => some σ
  | _ => Option.none
def gsC (t : Tg) (u : Tgs) : Tgs := fun ds σ => match ds with
  | d :: r => (t d σ).bind fun σ' => u r σ'
  | [] => Option.none
def gsN : Tgs → Nat → Prop := fun t n => ∀ ds σ σ', t ds σ = some σ' → ds.length = n
theorem gs_nil : SndGs g H0 X [] gs0 [] := weakGs pgs_nil fun vs σ H Q ⟨w, ds, σI, B, σI', s, r, e, q⟩ => by
  cases ds with
  | nil => simp only [Reps] at r; cases e; exact ⟨r, q σ s rfl fun _ _ => rfl⟩
  | cons d ds => cases e
theorem gs_cons {es : List Expr} {t : Tg} {u : Tgs} {l1 l2 : List Nat} (h1 : SndG g H0 X e t l1) (h2 : SndGs g H0 X es u l2) (hs : (assignEach (e :: es) X.env).map (·.2) = assign e X.env :: (assignEach es X.env).map (·.2) := by rfl) : SndGs g H0 X (e :: es) (gsC t u) (l1 ++ l2) :=
  weakGs (pgs_cons h1 h2 hs) fun vs σ H Q ⟨w, ds, σI, B, σI', s, r, e, q⟩ => by
  cases ds with
  | nil => cases e
  | cons d ds =>
    simp only [Reps] at r
    obtain ⟨v, us, rfl, r1, r2⟩ := r
    obtain ⟨σ1, e1, e2⟩ := Option.bind_eq_some_iff.mp e
    refine ⟨v, us, rfl, w, d, σI, B, σ1, s, r1, e1, fun σ' s' n' k' => ⟨w, ds, σ1, B, σI', s', r2, e2, fun σ2 s2 n2 k2 => q σ2 s2 (n2.trans n') fun j hj => ?_⟩⟩
    simp only [List.mem_append, not_or] at hj
    exact (k2 j hj.2).trans (k' j hj.1)
theorem n_nil : gsN gs0 0 := fun ds σ σ' h => by cases ds; rfl; cases h
theorem n_cons {t : Tg} {u : Tgs} {n : Nat} (h : gsN u n) : gsN (gsC t u) (n + 1) := fun ds σ σ' e => by
  cases ds with
  | nil => cases e
  | cons d ds =>
    obtain ⟨σ1, e1, e2⟩ := Option.bind_eq_some_iff.mp e
    simp [h _ _ _ e2]
theorem g_tup {es : List Expr} {k n : Nat} {t : Tgs} {l : List Nat} (c : Ok g X) (h : SndGs g H0 X es t l) (hn : gsN t n) (h1 : (assignEach es X.env).length = n := by rfl) (h2 : (assignEach es X.env).findIdx? (·.1) = none := by rfl) : SndG g H0 X (.Tuple es k pos) (gT t) l :=
  weakG (pg_tup c.calm h h1 h2) fun v σ H Q ⟨w, d, σI, B, σI', s, r, e, q⟩ => by
  cases d <;> first | cases e | skip
  · rename_i ds
    simp only [Rep] at r
    obtain ⟨a, vs, rfl, p, r⟩ := r
    exact ⟨a, vs, rfl, c.K ▸ sqT_mono s.rb.sub p.T, by rw [r.len]; exact hn _ _ _ e, w, ds, σI, B, σI', s, r, e, q⟩
  · rename_i ds
    simp only [Rep] at r
    obtain ⟨a, vs, rfl, p, r⟩ := r
    exact ⟨a, vs, rfl, c.K ▸ sqT_mono s.rb.sub p, by rw [r.len]; exact hn _ _ _ e, w, ds, σI, B, σI', s, r, e, q⟩
end
end Hf

set_option Elab.async false
set_option linter.all false
set_option maxRecDepth 100000
set_option maxHeartbeats 4000000
namespace Hf
open PySem PySem.Spec PyProof.Rows L2

/-! ### what is walked -/
structure ItOk (g : Gs) (w : Wd) (J : It) (ds : List D) : Prop where
  go : ∀ i H, i < ds.length → Same w.P H → J.go i H
  stop : ∀ i H, i = ds.length → Same w.P H → J.stop i H
  yld : ∀ i H x H' d w1 B, ds[i]? = some d → Le w w1 → RB g w1 B H → J.yld i H x H' → ∃ w2, Ext w1 H w2 H' ∧ RB g w2 B H' ∧ Rep g w2 d x
def PostI (g : Gs) (E : XK) (w : Wd) (H : Hp) (R : It → Hp → Prop) : Rs (List D) → Prop
  | .ok ds B' => ∀ w' J H', Ext w H w' H' → RB g w' B' H' → ItOk g w' J ds → R J H'
  | .exc c x B' => ∀ w' cls dd H', Ext w H w' H' → RB g w' B' H' → ExcR g w' c x cls dd H' → E cls dd H'
  | .bad => False
abbrev Ei := Sl → Bs → Rs (List D)
def tIi (g : Gs) (E : XK) (H0 : Hp) (m : Ei) : TI := fun σ H R => ∃ w σI B, S0 g H0 w σI B σ H ∧ PostI g E w H R (m σI B)
abbrev SndI (g : Gs) (E : XK) (H0 : Hp) (X : Cx) (tg e : Expr) (m : Ei) : Prop := PI X tg e (tIi g E H0 m)
theorem weakI {X : Cx} {tg e : Expr} {t t' : TI} (h : PI X tg e t) (k : ∀ σ H R, t' σ H R → t σ H R) : PI X tg e t' := ⟨fun pins s σ H R I q => h.run pins s σ H R I (k σ H R q)⟩
section
variable {g : Gs} {E : XK} {H0 : Hp} {w w1 : Wd} {H H1 : Hp} {σI : Sl} {σ : L2.St} {bo bo1 : Bool} {B : Bs}
theorem PostI.ext {R : It → Hp → Prop} (x : Ext w H w1 H1) : ∀ {m : Rs (List D)}, PostI g E w H R m → PostI g E w1 H1 R m
  | .ok _ _, h => fun w2 v2 H2 x2 rb2 r2 => h w2 v2 H2 (x.trans x2) rb2 r2
  | .exc _ _ _, h => fun w2 cls dd H2 x2 rb2 r2 => h w2 cls dd H2 (x.trans x2) rb2 r2
  | .bad, h => h
theorem tI_bindI {m : Ev} {f : D → Bs → Rs (List D)} {Q1 : VK} {R : It → Hp → Prop} (s : S0 g H0 w σI B σ H) (p : PostI g E w H R ((m σI B).bind f))
    (ho : ∀ d B1 w1 v H1, Ext w H w1 H1 → S0 g H0 w1 σI B1 σ H1 → RepB g w1 σI σ bo d v → PostI g E w1 H1 R (f d B1) → Q1 v H1) : tI g E H0 bo m σ H Q1 := by
  refine tI_go s (fun c x B1 q => ?_) (fun q => ?_) fun d B1 q w1 v H1 x s1 r => ?_
  · rw [q] at p; exact p
  · rw [q] at p; exact p
  · rw [q] at p; exact ho d B1 w1 v H1 x s1 r (PostI.ext x p)
end
theorem Rd.uniq {H : Hp} {a : Addr} {u v : HO} (h : Rd H a u) (h' : Rd H a v) (hu : ∀ o x, u ≠ .frz o x) (hv : ∀ o x, v ≠ .frz o x) : u = v := by
  rcases h with h | ⟨o, h⟩ <;> rcases h' with h' | ⟨o', h'⟩ <;> rw [h] at h' <;> cases h'
  · rfl
  · exact (hu _ _ rfl).elim
  · exact (hv _ _ rfl).elim
  · rfl
section
variable {g : Gs} {w : Wd} {K : PySem.W.Frag}
theorem it_scr {a : Addr} {vs : List V} {ds : List D} (hp : SqL K w.P a vs) (r : Reps g w ds vs) : ItOk g w (Itl K a) ds where
  go := fun i H hi hs => by
    obtain ⟨v, e, _⟩ := Reps.get r (List.getElem?_eq_getElem hi)
    exact ⟨vs, v, hs.seq hp, e⟩
  stop := fun i H hi hs => ⟨vs, hs.seq hp, by rw [r.len]; exact Nat.le_of_eq hi.symm⟩
  yld := fun i H x H' d w1 B e l rb y => by
    obtain ⟨rfl, y⟩ := y
    obtain ⟨v, e2, rv⟩ := Reps.get r e
    have q := y vs (rb.sub.seq (l.P.seq hp))
    rw [e2] at q; cases q
    exact ⟨w1, Ext.refl _ _, rb, Rep.mono l _ _ rv⟩
theorem it_tup {a : Addr} {vs : List V} {ds : List D} (hp : SqT K w.P a vs) (r : Reps g w ds vs) : ItOk g w (Itt K a) ds where
  go := fun i H hi hs => by
    obtain ⟨v, e, _⟩ := Reps.get r (List.getElem?_eq_getElem hi)
    exact ⟨vs, v, sqT_mono hs hp, e⟩
  stop := fun i H hi hs => ⟨vs, sqT_mono hs hp, by rw [r.len]; exact Nat.le_of_eq hi.symm⟩
  yld := fun i H x H' d w1 B e l rb y => by
    obtain ⟨rfl, y⟩ := y
    obtain ⟨v, e2, rv⟩ := Reps.get r e
    have q := y vs (sqT_mono rb.sub (sqT_mono l.P hp))
    rw [e2] at q; cases q
    exact ⟨w1, Ext.refl _ _, rb, Rep.mono l _ _ rv⟩
def rngD (lo : Int) (n : Nat) : List D := (List.range n).map fun i => .int (lo + (i : Nat))
theorem rngD_len (lo : Int) (n : Nat) : (rngD lo n).length = n := by simp [rngD]
theorem it_rng {lo : Int} {n : Nat} : ItOk g w (Itr lo n) (rngD lo n) where
  go := fun i H hi hs => by rw [rngD_len] at hi; exact hi
  stop := fun i H hi hs => by rw [rngD_len] at hi; exact Nat.le_of_eq hi.symm
  yld := fun i H x H' d w1 B e l rb y => by
    obtain ⟨rfl, rfl⟩ := y
    refine ⟨w1, Ext.refl _ _, rb, ?_⟩
    unfold rngD at e
    rw [List.getElem?_map] at e
    by_cases hi : i < n
    · rw [List.getElem?_range hi] at e
      cases e
      exact rep_int g w1 _
    · rw [List.getElem?_eq_none (by simp; omega)] at e; cases e
end
/-! ### sources: lists, tuples, texts -/
inductive Sk where
  | l (a : Addr) | t (a : Addr) | s (x : Str)
def Sk.v : Sk → V
  | .l a => .ref a
  | .t a => .ref a
  | .s x => .str x
def chV (x : Str) : List V := x.cps.toList.map fun c => V.str ⟨#[c]⟩
def chD (x : Str) : List D := x.cps.toList.map fun c => D.str ⟨#[c]⟩
def Sk.At (K : PySem.W.Frag) (H : Hp) : Sk → List V → Prop
  | .l a, xs => SqL K H a xs
  | .t a, xs => SqT K H a xs
  | .s x, xs => xs = chV x
def Sk.It (K : PySem.W.Frag) : Sk → L2.It
  | .l a => Itl K a
  | .t a => Itt K a
  | .s x => Its x
/-- the iterator at it stands before the item i -/
def Sk.St (it : Addr) (i : Nat) (h : Heap) : Sk → Prop
  | .l a => h.IsListIter it a i
  | .t a => h.IsTupleIter it a i
  | .s x => ∃ t, h.IsStrIter it (strIterType x) x t i
theorem Sk.St.at {it : Addr} {i : Nat} {h h' : Heap} {k : Sk} (x : k.St it i h) (e : ∀ o, h.get? it = some o → h'.get? it = some o) : k.St it i h' := by
  cases k with
  | l a => exact Heap.IsListIter.at x e
  | t a => exact Heap.IsTupleIter.at x e
  | s y =>
    obtain ⟨t, o, ho, r⟩ := x
    exact ⟨t, o, e o ho, r⟩
theorem Sk.St.obj {it : Addr} {i : Nat} {h : Heap} {k : Sk} (x : k.St it i h) : ∃ o, h.get? it = some o ∧ ∀ v, o.data ≠ .cell v := by
  cases k with
  | l a => obtain ⟨o, ho, hc, hd⟩ := x; exact ⟨o, ho, fun v z => by rw [hd] at z; cases z⟩
  | t a => obtain ⟨o, ho, hc, hd⟩ := x; exact ⟨o, ho, fun v z => by rw [hd] at z; cases z⟩
  | s y => obtain ⟨t, o, ho, hc, hd⟩ := x; exact ⟨o, ho, fun v z => by rw [hd] at z; cases z⟩
section
variable {X : Cx} {pins : List (Addr × Obj)} {σ : L2.St} {H : Hp} {s : Shared}
theorem src_ne (I : Inv X pins σ H s) {b c : Addr} (hf : FpOk X pins H c) (hb : (∃ o, H b = some o) ∨ ∃ o, X.K.lookup b = some o) : b ≠ c := fun e => by
  subst e
  obtain ⟨h1, _, _, h4, _⟩ := hf
  rcases hb with ⟨o, q⟩ | ⟨o, q⟩
  · rw [h1] at q; cases q
  · have q2 := I.ok.mod.kin _ _ q
    rcases h4 with h4 | h4
    · exact I.ok.noex _ _ q2 h4
    · exact absurd (Heap.lt_size (I.ok.bs _ _ q2).1) (Nat.not_lt_of_le h4)
/-- what the iterator of a source draws, and where it reads -/
theorem Sk.draws (I : Inv X pins σ H s) {k : Sk} {xs : List V} (hk : k.At X.K H xs) {it : Addr} {i : Nat} (hst : k.St it i s.heap) (A : Around) (hh : A.handled = none) (hf : FpOk X pins H it) :
    ∃ (fp : List Addr) (n : Nat) (P : Nat → Value → Prop) (St : Nat → Heap → Prop), Draws X.prog X.w A it (it :: fp) n P St ∧ n = xs.length ∧ St i s.heap ∧ (∀ j h, St j h → k.St it j h) ∧ (∀ j u, P j u → ∃ x, xs[j]? = some x ∧ RelV x u) ∧ ∀ b ∈ fp, (∃ o, H b = some o) ∨ ∃ o, X.K.lookup b = some o := by
  cases k with
  | l a =>
    have hk : SqL X.K H a xs := hk
    obtain ⟨its, rv, p, hz⟩ := I.list hk
    have ha : a ≠ it := by
      rcases hk with (q | ⟨o, q⟩) | ⟨o, _, _, q, _⟩
      · exact src_ne I hf (.inl ⟨_, q⟩)
      · exact src_ne I hf (.inl ⟨_, q⟩)
      · exact src_ne I hf (.inr ⟨_, q⟩)
    refine ⟨[a], _, _, _, Draws.list hh it a ha its.toArray, by simp [rv.length], ⟨hst, p.isList⟩, fun j h q => q.1, fun j u q => ?_, fun b hb => ?_⟩
    · have q : its[j]? = some u := by simpa using q
      have hj : j < its.length := (List.getElem?_eq_some_iff.mp q).1
      have hj2 : j < xs.length := by rw [rv.length]; exact hj
      obtain ⟨u', hu, ru⟩ := rv.get (List.getElem?_eq_getElem hj2)
      rw [q] at hu; cases hu
      exact ⟨_, List.getElem?_eq_getElem hj2, ru⟩
    · rw [List.mem_singleton.mp hb]
      rcases hk with (q | ⟨o, q⟩) | ⟨o, _, _, q, _⟩
      · exact .inl ⟨_, q⟩
      · exact .inl ⟨_, q⟩
      · exact .inr ⟨_, q⟩
  | t a =>
    have hk : SqT X.K H a xs := hk
    obtain ⟨its, rv, p, hz⟩ := I.tuple hk
    have ha : a ≠ it := by
      rcases hk with (q | ⟨o, q⟩) | ⟨o, _, _, q, _⟩
      · exact src_ne I hf (.inl ⟨_, q⟩)
      · exact src_ne I hf (.inl ⟨_, q⟩)
      · exact src_ne I hf (.inr ⟨_, q⟩)
    refine ⟨[a], _, _, _, Draws.tuple hh it a ha its.toArray, by simp [rv.length], ⟨hst, p⟩, fun j h q => q.1, fun j u q => ?_, fun b hb => ?_⟩
    · have q : its[j]? = some u := by simpa using q
      have hj : j < its.length := (List.getElem?_eq_some_iff.mp q).1
      have hj2 : j < xs.length := by rw [rv.length]; exact hj
      obtain ⟨u', hu, ru⟩ := rv.get (List.getElem?_eq_getElem hj2)
      rw [q] at hu; cases hu
      exact ⟨_, List.getElem?_eq_getElem hj2, ru⟩
    · rw [List.mem_singleton.mp hb]
      rcases hk with (q | ⟨o, q⟩) | ⟨o, _, _, q, _⟩
      · exact .inl ⟨_, q⟩
      · exact .inl ⟨_, q⟩
      · exact .inr ⟨_, q⟩
  | s x =>
    have hk : xs = chV x := hk
    subst hk
    obtain ⟨t, hst⟩ := hst
    refine ⟨[], _, _, _, Draws.text hh it x t, by simp [chV], hst, fun j h q => ⟨t, q⟩, fun j u q => ?_, fun b hb => nomatch hb⟩
    obtain ⟨c, u', h1, rfl⟩ := q
    exact ⟨.str ⟨#[c]⟩, by simp [chV, h1], _, rfl⟩
/-- how a source begins -/
theorem Sk.begins (I : Inv X pins σ H s) {k : Sk} {xs : List V} (hk : k.At X.K H xs) {u : Value} (ru : RelV k.v u) : ∃ (o : Obj) (HH : Heap → Prop), Begins u o HH ∧ HH s.heap ∧ ∀ (it : Addr) (h : Heap), h.get? it = some o → k.St it 0 h := by
  cases k with
  | l a =>
    cases ru
    obtain ⟨its, rv, p, hz⟩ := I.list hk
    exact ⟨_, _, begins_list a its.toArray, p.isList, fun it h e => ⟨_, e, rfl, rfl⟩⟩
  | t a =>
    cases ru
    obtain ⟨its, rv, p, hz⟩ := I.tuple hk
    exact ⟨_, _, begins_tuple a its.toArray, p, fun it h e => ⟨_, e, rfl, rfl⟩⟩
  | s x =>
    obtain ⟨t, rfl⟩ := ru
    exact ⟨_, _, begins_text x t, trivial, fun it h e => ⟨t, _, e, rfl, rfl⟩⟩
end
section
variable {g : Gs} {E : XK} {H0 : Hp} {X : Cx} {tg e a b : Expr} {m ma mb : Ev} {pos p1 : Pos} {bo b1 b2 : Bool}
/-- a list, a tuple, a text -/
def iAny (K : PySem.W.Frag) (tl : TE) : TI := fun σ H R => tl σ H fun x H1 => ∃ k xs, x = Sk.v k ∧ k.At K H1 xs ∧ R (k.It K) H1
theorem turn_any {P : Program} {w : World} {K : PySem.W.Frag} {tg : Expr} (k : Sk) (it : Addr) : Turn P w K tg (k.It K) [it] it fun i h => k.St it i h := by
  cases k with
  | l a => exact turn_list a it
  | t a => exact turn_tuple a it
  | s x =>
    have z : strIterType x = "str_ascii_iterator" ∨ strIterType x = "str_iterator" := by
      unfold strIterType
      split
      · exact .inl rfl
      · exact .inr rfl
    have T : ∀ t, Turn P w K tg (Its x) [it] it (fun i h => h.IsStrIter it (strIterType x) x t i) := fun t => turn_str it x t (strIterType x) z
    exact
      { mem := (T 0).mem
        obj := fun i h st => let ⟨t, q⟩ := st; (T t).obj i h q
        keep := fun i h h' st kk => let ⟨t, q⟩ := st; ⟨t, (T t).keep i h h' q kk⟩
        item := fun X hP hw hK hc i pins s σ H E I hf st hg => by
          obtain ⟨t, q⟩ := st
          refine wpAny_mono ((T t).item X hP hw hK hc i pins s σ H E I hf q hg) (fun r s1 h1 => ?_) fun _ _ h => h
          obtain ⟨u, e, h1⟩ := h1
          refine ⟨u, e, wpAny_mono h1 (fun _ s2 h2 => ?_) fun _ _ h => h⟩
          obtain ⟨x, H', a1, a2, a3, a4, a5⟩ := h2
          exact ⟨x, H', a1, a2, a3, ⟨t, a4⟩, a5⟩
        done := fun X hP hw hK hc i pins s σ H E I hf st hg => by
          obtain ⟨t, q⟩ := st
          exact (T t).done X hP hw hK hc i pins s σ H E I hf q hg
        self := fun A i s Q E st h => let ⟨t, q⟩ := st; (T t).self A i s Q E q h }
theorem pi_any {l : Expr} {tl : TE} (hl : PE X l tl) : PI X tg l (iAny X.K tl) := by
  refine ⟨fun pins s σ H R I h => ?_⟩
  refine thn (hl.run pins s σ H _ I h) fun v s1 ⟨x, H1, I1, r1, k, xs, ex, hk, q⟩ => ?_
  subst ex
  obtain ⟨o, HH, B, h1, hs⟩ := Sk.begins I1 hk r1
  refine B.iter _ _ _ _ _ _ h1 ?_
  refine ⟨s1.heap.objs.size, [s1.heap.objs.size], _, _, H1, rfl, I1.kept (t' := s1.toks) fun b o' e => Heap.get?_push_of_some _ e, turn_any k _, hs _ _ (Heap.get?_push_size _ B.free), fun c hc => ?_, q⟩
  rw [List.mem_singleton.mp hc]
  exact I1.fpOk (Nat.le_refl _) (I1.hok.fresh (Nat.le_refl _))
def itemsOf : D → Option (List D)
  | .tup ds => some ds
  | .lst ds => some ds
  | .scr ds => some ds
  | .str x => some (chD x)
  | _ => Option.none
def mItems (m : Ev) : Ei := fun σ B => (m σ B).bind fun d B1 => match itemsOf d with
  | some ds => .ok ds B1
  | Option.none => .bad
/-- a value as a source -/
def SkAt (g : Gs) (w : Wd) (k : Sk) (ds : List D) : Prop := ∃ vs, k.At g.K w.P vs ∧ Reps g w ds vs
theorem Sk.At.mono {K : PySem.W.Frag} {P P' : Hp} {k : Sk} {xs : List V} (hs : Same P P') (h : k.At K P xs) : k.At K P' xs := by
  cases k with
  | l a => exact hs.seq h
  | t a => exact sqT_mono hs h
  | s x => exact h
theorem reps_chs (g : Gs) (w : Wd) (x : Str) : Reps g w (chD x) (chV x) := by
  unfold chD chV
  induction x.cps.toList with
  | nil => simp only [List.map_nil, Reps]
  | cons c cs ih =>
    simp only [List.map_cons, Reps, Rep]
    exact ⟨_, _, rfl, rfl, ih⟩
theorem Rep.sk {w : Wd} {d : D} {v : V} {ds : List D} (r : Rep g w d v) (h : itemsOf d = some ds) : ∃ k, v = Sk.v k ∧ SkAt g w k ds := by
  cases d <;> simp only [itemsOf, reduceCtorEq, Option.some.injEq] at h <;> subst h <;> simp only [Rep] at r
  · subst r; exact ⟨.s _, rfl, _, rfl, reps_chs g w _⟩
  · obtain ⟨a, vs, rfl, q, r⟩ := r; exact ⟨.t a, rfl, vs, q.T, r⟩
  · obtain ⟨a, vs, rfl, q, r⟩ := r; exact ⟨.l a, rfl, vs, .inl (.inl q), r⟩
  · obtain ⟨a, vs, rfl, q, r⟩ := r; exact ⟨.l a, rfl, vs, q, r⟩
theorem it_any {w : Wd} {k : Sk} {ds : List D} (h : SkAt g w k ds) : ItOk g w (k.It g.K) ds := by
  obtain ⟨vs, hk, r⟩ := h
  cases k with
  | l a => exact it_scr hk r
  | t a => exact it_tup hk r
  | s x =>
    have hk : vs = chV x := hk
    subst hk
    have hl : x.cps.size = ds.length := by rw [← r.len]; simp [chV]
    exact
      { go := fun i H hi hs => by show i < x.cps.size; omega
        stop := fun i H hi hs => by show x.cps.size ≤ i; omega
        yld := fun i H y H' d w1 B e l rb yl => by
          obtain ⟨rfl, c, hc, rfl⟩ := yl
          obtain ⟨v, e2, rv⟩ := Reps.get r e
          have : v = .str ⟨#[c]⟩ := by
            unfold chV at e2
            rw [List.getElem?_map, Array.getElem?_toList, hc] at e2
            exact (Option.some.inj e2).symm
          subst this
          exact ⟨w1, Ext.refl _ _, rb, Rep.mono l _ _ rv⟩ }
theorem i_seq (c : Ok g X) (h : Snd g E H0 X false e m) : SndI g E H0 X tg e (mItems m) := by
  refine weakI (pi_any h) ?_
  rintro σ H R ⟨w, σI, B, s, p⟩
  refine tI_bindI s p fun d B1 w1 v H1 x1 s1 r p1 => ?_
  rw [c.K]
  cases hd : itemsOf d with
  | none => rw [hd] at p1; exact p1.elim
  | some ds =>
    rw [hd] at p1
    obtain ⟨k, rfl, hk⟩ := Rep.sk r hd
    obtain ⟨vs, hk2, _⟩ := id hk
    exact ⟨k, vs, rfl, hk2.mono s1.rb.sub, p1 w1 _ H1 (Ext.refl _ _) s1.rb (it_any hk)⟩
def rngB (i : Int) : Bool := decide (-(2 ^ 62) ≤ i) && decide (i < 2 ^ 62)
def mRng1 (m : Ev) : Ei := fun σ B => (m σ B).bind fun d B1 => (asI d B1).bind fun n B2 => if rngB n then .ok (rngD 0 n.toNat) B2 else .bad
theorem rngB_ok {i : Int} (h : rngB i = true) : -(2 ^ 62) ≤ i ∧ i < 2 ^ 62 := by
  unfold rngB at h
  simp only [Bool.and_eq_true, decide_eq_true_eq] at h
  exact h
theorem asI_goI {w : Wd} {σI : Sl} {B B2 : Bs} {σ : L2.St} {H : Hp} {R : It → Hp → Prop} {d : D} {v : V} {f : Int → Bs → Rs (List D)} (s : S0 g H0 w σI B2 σ H) (r : RepO g w σI σ d v) (p : PostI g E w H R ((asI d B).bind f)) :
    ∃ i, v = .int i ∧ PostI g E w H R (f i B) := by
  cases d <;> first | exact p.elim | skip
  exact ⟨_, r.int s, p⟩
theorem i_rng1 (c : Ok g X) (hm : g.mg "range" = none) (h : Snd g E H0 X b1 a ma) (hg : Gl X "range" := by rfl) (hs : starEach [a] X.env = [(false, eval a X.env)] := by rfl) : SndI g E H0 X tg (.Call (.Name "range" p1) [a] [] pos) (mRng1 ma) := by
  refine weakI (pi_range1 hg (c.mg ▸ hm) (pa_cons h pa_nil hs) hs) ?_
  rintro σ H R ⟨w, σI, B, s, p⟩
  refine tI_bindI s p fun d B1 w1 v H1 x1 s1 r p1 => ?_
  obtain ⟨n, rfl, p2⟩ := asI_goI s1 r.up p1
  split at p2
  · rename_i hb
    obtain ⟨h1, h2⟩ := rngB_ok hb
    exact ⟨n, rfl, h1, h2, p2 w1 _ H1 (Ext.refl _ _) s1.rb it_rng⟩
  · exact p2.elim
end

/-! ### for -/
def forL (t : Tg) (b : Ms) : List D → Sl → Bs → Ss
  | [], σ, B => .next σ B
  | d :: ds, σ, B => match t d σ with
    | some σ' => (b σ' B).seq (forL t b ds)
    | Option.none => .bad
def mFor (t : Tg) (mi : Ei) (b : Ms) : Ms := fun σ B => (mi σ B).st fun ds B1 => forL t b ds σ B1
section
variable {g : Gs} {E : XK} {w0 : Wd} {H0 : Hp} {X : Cx} {tg e c : Expr} {sts : List Stmt} {mi : Ei} {t : Tg} {b : Ms} {pos : Pos} {sl : List Nat} {mt : Et}
theorem z_for (k : Ok g X) (hp : PassesOwn (model X.prog X.w) X.A X.env X.xe) (hi : SndI g E H0 X tg e mi) (hg : SndG g H0 X tg t sl) (hb : SndB g E w0 H0 X sts b) (hs : ∀ x, foldedSetIterable e X.env x = pure x := by intro _; rfl) :
    SndS g E w0 H0 X (.For tg e sts [] pos) (mFor t mi b) := by
  refine weakS (ps_for hp k.calm hi hg hb hs) ?_
  rintro D σ H ⟨w, σI, B, s, x0, p⟩
  refine ⟨w, σI, B, s, ?_⟩
  unfold mFor at p
  revert p
  generalize mi σI B = q
  intro p
  cases q with
  | bad => exact p
  | exc cc y B1 => exact fun w' cls dd H' x' rb r => p w' cls dd H' rb (x0.trans x') r
  | ok ds B1 =>
    intro w1 J H1 x1 rb1 it
    have p : PostS g E w0 H0 w D (forL t b ds σI B1) := p
    have s1 := s.step x1 rb1
    refine ⟨fun i m σ H => m = ds.length - i ∧ i ≤ ds.length ∧ ∃ w σI B, Le w1 w ∧ S0 g H0 w σI B σ H ∧ Ext w0 H0 w H ∧ PostS g E w0 H0 w D (forL t b (ds.drop i) σI B), ⟨ds.length, by simp, Nat.zero_le _, w1, σI, B1, Le.refl _, s1, x0.trans x1, by simpa using PostS.le x1.le p⟩, ?_⟩
    rintro i m σ H ⟨rfl, hi, w, σI, B, l, s, x, p⟩
    by_cases hlt : i < ds.length
    · refine .inr ⟨it.go i H hlt (l.P.trans s.rb.sub), fun σ' H' => ∃ w σI B, Le w1 w ∧ S0 g H0 w σI B σ' H' ∧ Ext w0 H0 w H' ∧ PostS g E w0 H0 w D (forL t b (ds.drop (i + 1)) σI B), ?_, ?_⟩
      · rintro σ' H' q
        exact ⟨ds.length - (i + 1), by omega, rfl, hlt, q⟩
      · intro y H' yl
        obtain ⟨w2, x2, rb2, r2⟩ := it.yld i H y H' ds[i] w B (List.getElem?_eq_getElem hlt) l s.rb yl
        rw [List.drop_eq_getElem_cons hlt] at p
        simp only [forL] at p
        cases e : t ds[i] σI with
        | none => rw [e] at p; exact p.elim
        | some σ' =>
          rw [e] at p
          refine ⟨w2, ds[i], σI, B, σ', s.step x2 rb2, r2, e, fun σ2 s2 _ _ => ⟨w2, σ', B, s2, x.trans x2, ?_⟩⟩
          have p := PostS.le x2.le p
          revert p
          show PostS g E w0 H0 w2 D ((b σ' B).seq (forL t b (List.drop (i + 1) ds))) → _
          generalize b σ' B = q
          intro p
          cases q with
          | next σ3 B3 => exact fun w' σ'' H'' l' s' x' => ⟨w', σ3, B3, (l.trans x2.le).trans l', s', x', PostS.le l' p⟩
          | ret d B' => exact p
          | exc c y B' => exact p
          | bad => exact p
    · refine .inl ⟨it.stop i H (by omega) (l.P.trans s.rb.sub), ?_⟩
      rw [List.drop_eq_nil_of_le (by omega)] at p
      exact p w σ H (Le.refl _) s x
end
end Hf

set_option Elab.async false
set_option linter.all false
set_option maxRecDepth 100000
set_option maxHeartbeats 4000000
namespace Hf
open PySem PySem.Spec PyProof.Rows L2

/-! ### while -/
def whileL (t : Et) (b : Ms) : Nat → Sl → Bs → Ss
  | 0, _, _ => .bad
  | n + 1, σ, B => (t σ B).st fun k B1 => if k then (b σ B1).seq (whileL t b n) else .next σ B1
section
variable {g : Gs} {E : XK} {w0 : Wd} {H0 : Hp} {X : Cx} {tg e c : Expr} {sts : List Stmt} {mi : Ei} {t : Tg} {b : Ms} {pos : Pos} {sl : List Nat} {mt : Et}
theorem z_while (n : Nat) (hp : PassesOwn (model X.prog X.w) X.A X.env X.xe) (hc : SndT g E H0 X c mt) (hb : SndB g E w0 H0 X sts b) : SndS g E w0 H0 X (.While c sts [] pos) (whileL mt b n) := by
  refine weakS (ps_while hp hc hb) ?_
  rintro D σ H ⟨w, σI, B, s, x0, p⟩
  refine ⟨fun m σ H => ∃ w σI B, S0 g H0 w σI B σ H ∧ Ext w0 H0 w H ∧ PostS g E w0 H0 w D (whileL mt b m σI B), ⟨n, w, σI, B, s, x0, p⟩, ?_⟩
  rintro m σ H ⟨w, σI, B, s, x, p⟩
  cases m with
  | zero => exact p.elim
  | succ m =>
    refine st_goT s x p fun k B1 w1 H1 x1 s1 p1 => ?_
    cases k with
    | false => exact p1 w1 σ H1 (Le.refl _) s1 x1
    | true =>
      refine ⟨fun σ' H' => ∃ w σI B, S0 g H0 w σI B σ' H' ∧ Ext w0 H0 w H' ∧ PostS g E w0 H0 w D (whileL mt b m σI B), fun σ' H' q => ⟨m, Nat.lt_succ_self _, q⟩, w1, σI, B1, s1, x1, ?_⟩
      have p2 : PostS g E w0 H0 w1 D ((b σI B1).seq (whileL mt b m)) := p1
      revert p2
      generalize b σI B1 = q
      intro p2
      cases q with
      | next σ3 B3 => exact fun w' σ'' H'' l' s' x' => ⟨w', σ3, B3, s', x', PostS.le l' p2⟩
      | ret d B' => exact p2
      | exc c y B' => exact p2
      | bad => exact p2
end

/-! ### list comprehensions -/
def noX {α : Type} : Rs α → Rs α
  | .ok a B => .ok a B
  | _ => .bad
def lcL (t : Tg) (mt : Et) (me : Ev) (σ : Sl) : List D → Bs → Rs (List D)
  | [], B => .ok [] B
  | d :: ds, B => match t d σ with
    | some σ' => (mt σ' B).bind fun k B1 => if k then (me σ' B1).bind fun e B2 => (lcL t mt me σ ds B2).bind fun es B3 => .ok (e :: es) B3 else lcL t mt me σ ds B1
    | Option.none => .bad
def wipeI (σ : Sl) : List Nat → Sl
  | [] => σ
  | v :: vs => (wipeI σ vs).set v Option.none
def mLc (vs : List Nat) (t : Tg) (mi : Ei) (mt : Et) (me : Ev) : Ev := fun σ B => (mi σ B).bind fun ds B1 => (noX (lcL t mt me (wipeI σ vs) ds B1)).bind fun es B2 => if szL es then .ok (.lst es) B2 else .bad
theorem wipeI_length (σ : Sl) : ∀ vs : List Nat, (wipeI σ vs).length = σ.length
  | [] => rfl
  | v :: vs => by unfold wipeI; rw [List.length_set, wipeI_length σ vs]
theorem wipe_get (σ : L2.St) (j : Nat) : ∀ vs : List Nat, (wipe σ vs)[j]? = if j ∈ vs ∧ j < σ.length then some Option.none else σ[j]?
  | [] => by simp [wipe]
  | v :: vs => by
    unfold wipe
    by_cases e : v = j
    · subst e
      by_cases hl : v < σ.length
      · rw [List.getElem?_set_self (by rw [wipe_length]; exact hl), if_pos ⟨by simp, hl⟩]
      · rw [List.getElem?_eq_none (by rw [List.length_set, wipe_length]; omega), if_neg (fun z => hl z.2), List.getElem?_eq_none (by omega)]
    · rw [List.getElem?_set_ne e, wipe_get σ j vs]
      have : (j ∈ v :: vs) ↔ j ∈ vs := by simp [Ne.symm e]
      simp only [this]
theorem wipeI_get (σ : Sl) (j : Nat) : ∀ vs : List Nat, (wipeI σ vs)[j]? = if j ∈ vs ∧ j < σ.length then some Option.none else σ[j]?
  | [] => by simp [wipeI]
  | v :: vs => by
    unfold wipeI
    by_cases e : v = j
    · subst e
      by_cases hl : v < σ.length
      · rw [List.getElem?_set_self (by rw [wipeI_length]; exact hl), if_pos ⟨by simp, hl⟩]
      · rw [List.getElem?_eq_none (by rw [List.length_set, wipeI_length]; omega), if_neg (fun z => hl z.2), List.getElem?_eq_none (by omega)]
    · rw [List.getElem?_set_ne e, wipeI_get σ j vs]
      have : (j ∈ v :: vs) ↔ j ∈ vs := by simp [Ne.symm e]
      simp only [this]
theorem wipe_eq {σ σ2 : L2.St} {vs : List Nat} (hl : σ2.length = σ.length) (h : ∀ j : Nat, j ∉ vs → σ2[j]? = σ[j]?) : wipe σ2 vs = wipe σ vs := by
  apply List.ext_getElem?
  intro j
  rw [wipe_get, wipe_get, hl]
  by_cases hj : j ∈ vs
  · by_cases hk : j < σ.length
    · rw [if_pos ⟨hj, hk⟩, if_pos ⟨hj, hk⟩]
    · rw [if_neg (fun z => hk z.2), if_neg (fun z => hk z.2), List.getElem?_eq_none (by omega), List.getElem?_eq_none (by omega)]
  · rw [if_neg (fun z => hj z.1), if_neg (fun z => hj z.1), h j hj]
theorem wipe_wipe (σ : L2.St) (vs : List Nat) : wipe (wipe σ vs) vs = wipe σ vs := wipe_eq (wipe_length _ _) fun j hj => by rw [wipe_get, if_neg (fun z => hj z.1)]
section
variable {g : Gs} {E : XK} {w0 w w1 : Wd} {H H0 H1 : Hp} {σI : Sl} {σ : L2.St} {B : Bs} {X : Cx}
theorem S0.wipe (s : S0 g H0 w σI B σ H) (vs : List Nat) : S0 g H0 w (wipeI σI vs) B (L2.wipe σ vs) H where
  rb := s.rb
  len := by rw [wipeI_length, wipe_length]; exact s.len
  sl := fun j e h => by
    rw [wipeI_get] at h
    split at h
    · cases h
    · rename_i hj
      rw [wipe_get, if_neg (by rw [← s.len]; exact hj)]
      exact s.sl j e h
  ow := fun j e h => by
    rw [wipeI_get] at h
    split at h
    · cases h
    · rename_i hj
      rw [wipe_get, if_neg (by rw [← s.len]; exact hj)]
      exact s.ow j e h
  oi := fun i j e f a h1 h2 h3 h4 => by
    rw [wipeI_get] at h1 h2
    split at h1
    · cases h1
    split at h2
    · cases h2
    rename_i hi hj
    rw [wipe_get, if_neg (by rw [← s.len]; exact hi)] at h3
    rw [wipe_get, if_neg (by rw [← s.len]; exact hj)] at h4
    exact s.oi i j e f a h1 h2 h3 h4
  me := fun i c ds a h1 h2 => by
    rw [wipeI_get] at h1
    split at h1
    · cases h1
    rename_i hi
    rw [wipe_get, if_neg (by rw [← s.len]; exact hi)] at h2
    exact s.me i c ds a h1 h2
/-- something else is changed -/
theorem RB.other {a : Addr} {o : HO} (rb : RB g w B H) (np : w.P a = Option.none) (nb : ∀ n, w.io n ≠ some a) (nh : ∀ u, H a = some u → Nt u) : RB g w B (upd H a o) where
  tb := tabs_upd rb.tb nh
  nt := rb.nt
  sub := fun b u e => by rw [upd_ne (fun z => by subst z; rw [np] at e; cases e)]; exact rb.sub b u e
  get := fun n b e => by
    obtain ⟨c, u, h1, h2, h3⟩ := rb.get n b e
    exact ⟨c, u, h1, by rw [upd_ne (fun z => nb n (by rw [← z]; exact h1))]; exact h2, h3⟩
  inj := rb.inj
  np := rb.np
  dom := rb.dom
theorem S0.other {a : Addr} {o : HO} (s : S0 g H0 w σI B σ H) (np : w.P a = Option.none) (nb : ∀ n, w.io n ≠ some a) (nw : ∀ (j : Nat) (e : D), σI[j]? = some (some (true, e)) → σ[j]? ≠ some (some (V.ref a))) (nh : ∀ u, H a = some u → Nt u) : S0 g H0 w σI B σ (upd H a o) where
  rb := s.rb.other np nb nh
  len := s.len
  sl := s.sl
  ow := fun j e h => by
    obtain ⟨b, u, e1, e2, e3⟩ := s.ow j e h
    exact ⟨b, u, e1, by rw [upd_ne (fun z => nw j e h (by rw [← z]; exact e1))]; exact e2, e3⟩
  oi := s.oi
  me := s.me
theorem Ok.blk (k : Ok g X) (s : Shared) (H : Hp) (scope : Scope) (env : Env) (fp : List Addr) : Ok g (X.blk s H scope env fp) := ⟨k.K, k.mg, k.calm, k.un, k.prog, k.w, k.base, k.fx⟩
abbrev SndTs (g : Gs) (E : XK) (H0 : Hp) (X : Cx) (es : List Expr) (m : Et) : Prop := PTs X es (tIt g E H0 m)
def mYes : Et := fun _ B => .ok true B
theorem ts_nil : SndTs g E H0 X [] mYes := ⟨fun pins s σ H Q I q => pts_nil.run pins s σ H Q I (by
  obtain ⟨w, σI, B, s, p⟩ := q
  exact p w H (Ext.refl _ _) s.rb)⟩
theorem ts_one {c : Expr} {m : Et} (h : SndT g E H0 X c m) : SndTs g E H0 X [c] m := pts_one h
theorem lcL_cons {t : Tg} {mt : Et} {me : Ev} {σ : Sl} {d : D} {ds : List D} {B B' : Bs} {es : List D} (h : lcL t mt me σ (d :: ds) B = .ok es B') :
    ∃ σ' k B1, t d σ = some σ' ∧ mt σ' B = .ok k B1 ∧ ((k = true ∧ ∃ e B2 es', me σ' B1 = .ok e B2 ∧ lcL t mt me σ ds B2 = .ok es' B' ∧ es = e :: es') ∨ (k = false ∧ lcL t mt me σ ds B1 = .ok es B')) := by
  simp only [lcL] at h
  cases e1 : t d σ with
  | none => rw [e1] at h; cases h
  | some σ' =>
    rw [e1] at h
    simp only at h
    cases e2 : mt σ' B with
    | bad => rw [e2] at h; cases h
    | exc _ _ _ => rw [e2] at h; cases h
    | ok k B1 =>
      rw [e2] at h
      simp only [Rs.bind] at h
      refine ⟨σ', k, B1, rfl, e2, ?_⟩
      cases k with
      | false => exact .inr ⟨rfl, h⟩
      | true =>
        simp only [if_true] at h
        cases e3 : me σ' B1 with
        | bad => rw [e3] at h; cases h
        | exc _ _ _ => rw [e3] at h; cases h
        | ok e B2 =>
          rw [e3] at h
          simp only at h
          cases e4 : lcL t mt me σ ds B2 with
          | bad => rw [e4] at h; cases h
          | exc _ _ _ => rw [e4] at h; cases h
          | ok es' B3 =>
            rw [e4] at h
            cases h
            exact .inl ⟨rfl, e, B2, es', rfl, e4, rfl⟩
def LcInv (g : Gs) (H0 : Hp) (w : Wd) (H : Hp) (w1 : Wd) (σI : Sl) (σ : L2.St) (vs : List Nat) (t : Tg) (mt : Et) (me : Ev) (ds es : List D) (B' : Bs) (Da : Addr) (i : Nat) (H' : Hp) : Prop :=
  ∃ w' B2 acc es' av, Ext w H w' H' ∧ Le w1 w' ∧ S0 g H0 w' σI B2 σ H' ∧ H' Da = some (.lst av) ∧ Reps g w' acc av ∧ w'.P Da = Option.none ∧ (∀ n, w'.io n ≠ some Da) ∧ (∀ (j : Nat) (e : D), σI[j]? = some (some (true, e)) → σ[j]? ≠ some (some (V.ref Da))) ∧
    lcL t mt me (wipeI σI vs) (ds.drop i) B2 = .ok es' B' ∧ es = acc ++ es'
/-- the elements one by one: from what an element at the head means -/
theorem lc_at {t : Tg} {mt : Et} {me : Ev} {sl vs : List Nat} {mi : Ei} {wi : TI} (hwi : wi = tIi g E H0 mi) (hsl : ∀ j ∈ sl, j ∈ vs) {Q : VK} (s : S0 g H0 w σI B σ H) (p : PostF g E w H Q (mLc vs t mi mt me σI B)) :
    tLc wi (tG g H0 t sl) (tIt g E0 H0 mt) (tI g E0 H0 false me) vs σ H Q := by
  subst hwi
  refine ⟨w, σI, B, s, ?_⟩
  unfold mLc at p
  cases q : mi σI B with
  | bad => rw [q] at p; exact p
  | exc c y B1 => rw [q] at p; exact p
  | ok ds B1 =>
    rw [q] at p
    simp only [Rs.bind] at p
    intro w1 J H1 x1 rb1 it D hD
    have s1 := s.step x1 rb1
    cases q2 : lcL t mt me (wipeI σI vs) ds B1 with
    | bad => rw [q2] at p; exact p.elim
    | exc c y B1 => rw [q2] at p; exact p.elim
    | ok es B' =>
      rw [q2] at p
      simp only [noX] at p
      split at p
      · rename_i hz
        have hz : es.length ≤ sizeLine := of_decide_eq_true hz
        have nD : H D = Option.none := Classical.byContradiction fun z => x1.there D z hD
        have start : LcInv g H0 w H w1 σI σ vs t mt me ds es B' D 0 (upd H1 D (.lst [])) :=
          ⟨w1, B1, [], es, [], x1.mut nD, Le.refl _, s1.other (s1.rb.fresh_P hD) (s1.rb.fresh_io hD) (fun j e hj => s1.own_ne hj hD) (fun u q => by rw [hD] at q; cases q), upd_same, by simp only [Reps], s1.rb.fresh_P hD, s1.rb.fresh_io hD, fun j e hj => s1.own_ne hj hD, by simpa using q2, rfl⟩
        refine ⟨fun i m H' => m = ds.length - i ∧ i ≤ ds.length ∧ LcInv g H0 w H w1 σI σ vs t mt me ds es B' D i H', ⟨ds.length, by simp, Nat.zero_le _, start⟩, ?_⟩
        rintro i m H' ⟨rfl, hi, w', B2, acc, es', av, x', l', s', eD, ra, np, nb, nw, q3, hes⟩
        by_cases hlt : i < ds.length
        · refine .inr ⟨it.go i H' hlt (l'.P.trans s'.rb.sub), LcInv g H0 w H w1 σI σ vs t mt me ds es B' D (i + 1), fun H2 q => ⟨ds.length - (i + 1), by omega, rfl, hlt, q⟩, fun y H2 yl => ?_⟩
          obtain ⟨w2, x2, rb2, r2⟩ := it.yld i H' y H2 ds[i] w' B2 (List.getElem?_eq_getElem hlt) l' s'.rb yl
          have s2 := s'.step x2 rb2
          rw [List.drop_eq_getElem_cons hlt] at q3
          obtain ⟨σ', k, B3, et, em, q4⟩ := lcL_cons q3
          refine ⟨w2, ds[i], wipeI σI vs, B2, σ', s2.wipe vs, r2, et, fun σ2 s3 hl hk => ⟨(wipe_eq hl fun j hj => hk j fun z => hj (hsl j z)).trans (wipe_wipe _ _), ?_⟩⟩
          have keep : ∀ {wa wb : Wd} {Ha Hb : Hp}, Ext wa Ha wb Hb → Same wb.P Hb → Ha D = some (.lst av) → wa.P D = Option.none → (∀ n, wa.io n ≠ some D) → Hb D = some (.lst av) ∧ wb.P D = Option.none ∧ ∀ n, wb.io n ≠ some D := by
            intro wa wb Ha Hb x sb e n1 n2
            refine ⟨x.keep D _ e n2 (nt_lst _).t, ?_, fun n z => ?_⟩
            · cases q : wb.P D with
              | none => rfl
              | some u =>
                rcases x.pf D u q with z | z | z
                · rw [n1] at z; cases z
                · rw [e] at z; cases z
                · have y := sb D u q
                  rw [x.keep D _ e n2 (nt_lst _).t] at y; cases y
                  exact ((nt_lst _).px z).elim
            · rcases x.iof n D z with z | z
              · exact n2 n z
              · rw [e] at z; cases z
          obtain ⟨eD2, np2, nb2⟩ := keep x2 rb2.sub eD np nb
          refine tIt_go s3 (fun c x B1 q => by rw [em] at q; cases q) (by rw [em]; simp) fun k' B4 q5 w3 H3 x3 s4 => ?_
          rw [em] at q5; cases q5
          obtain ⟨eD3, np3, nb3⟩ := keep x3 s4.rb.sub eD2 np2 nb2
          have sO := (s2.step x3 s4.rb)
          rcases q4 with ⟨rfl, e, B5, es2, e1, e2, rfl⟩ | ⟨rfl, e2⟩
          · rw [if_pos rfl]
            refine tI_go s4 (fun c x B1 q => by rw [e1] at q; cases q) (by rw [e1]; simp) fun d B6 q6 w4 v H4 x4 s5 r4 => ?_
            rw [e1] at q6; cases q6
            obtain ⟨eD4, np4, nb4⟩ := keep x4 s5.rb.sub eD3 np3 nb3
            have hl : av.length = acc.length := ra.len
            refine ⟨av, eD4, ?_, w4, B5, acc ++ [e], es2, av ++ [v], (((x'.trans x2).trans x3).trans x4).mut nD, ((l'.trans x2.le).trans x3.le).trans x4.le, (sO.step x4 s5.rb).other np4 nb4 nw (fun u q => by rw [eD4] at q; cases q; exact nt_lst _), upd_same,
              Reps.app (Reps.mono ((x2.le.trans x3.le).trans x4.le) _ _ ra) (Reps.one r4), np4, nb4, nw, e2, by rw [hes]; simp⟩
            rw [hes, List.length_append, List.length_cons] at hz
            omega
          · rw [if_neg (by simp)]
            exact ⟨w3, B3, acc, es', av, (x'.trans x2).trans x3, (l'.trans x2.le).trans x3.le, sO, eD3, Reps.mono (x2.le.trans x3.le) _ _ ra, np3, nb3, nw, e2, hes⟩
        · rw [List.drop_eq_nil_of_le (by omega)] at q3
          simp only [lcL] at q3
          cases q3
          rw [List.append_nil] at hes
          subst hes
          exact .inl ⟨it.stop i H' (by omega) (l'.P.trans s'.rb.sub), p w' D _ H' x' s'.rb eD (by simp only [Cont]; exact ⟨av, rfl, ra⟩) nD np nb (by simp)⟩
      · exact p.elim
variable {elt tg iter : Expr} {ifs : List Expr} {scope : Scope} {own : List (Str × Nat)} {pos : Pos} {t : Tg} {mi : Ei} {mt : Et} {me : Ev} {sl : List Nat}
theorem f_lc (c : Ok g X) (hN : X.N.Nodup) (hi : SndI g E H0 X tg iter mi) (ok : BlkOk X.N X.env.scope scope own) (hsl : ∀ j ∈ sl, j ∈ own.map (·.2))
    (hg : ∀ (s : Shared) (H : Hp) (C : Addr) (cl : List (Str × Addr)) (fp : List Addr), SndG g H0 (X.blk s H scope (compEnvC scope cl C X.env) fp) tg t sl) (ht : ∀ (s : Shared) (H : Hp) (C : Addr) (cl : List (Str × Addr)) (fp : List Addr), SndTs g E0 H0 (X.blk s H scope (compEnvC scope cl C X.env) fp) ifs mt)
    (he : ∀ (s : Shared) (H : Hp) (C : Addr) (cl : List (Str × Addr)) (fp : List Addr), Snd g E0 H0 (X.blk s H scope (compEnvC scope cl C X.env) fp) false elt me) (hs : ∀ x, foldedSetIterable iter X.env x = pure x := by intro _; rfl) :
    SndF g E H0 X (.ListComp elt [⟨tg, iter, ifs, 0⟩] scope pos) (mLc (own.map (·.2)) t mi mt me) :=
  weak (pe_lc c.calm hN hi ok hg ht he hs) fun σ H Q ⟨w, σI, B, s, p⟩ => lc_at rfl hsl s p
theorem z_setLc {i : Nat} {y : Str} {py spos : Pos} (c : Ok g X) (hN : X.N.Nodup) (hy : X.N[i]? = some y) (hyl : X.env.scope.names.lookup y = some .local) (hsw : swapsWith (.ListComp elt [⟨tg, iter, ifs, 0⟩] scope pos) (some (.Name y py)) spos.line X.env = pure true)
    (hi : SndI g E H0 X tg iter mi) (ok : BlkOk X.N X.env.scope scope own) (hsl : ∀ j ∈ sl, j ∈ own.map (·.2))
    (hg : ∀ (s : Shared) (H : Hp) (C : Addr) (cl : List (Str × Addr)) (fp : List Addr), SndG g H0 (X.blk s H scope (compEnvC scope cl C X.env) fp) tg t sl) (ht : ∀ (s : Shared) (H : Hp) (C : Addr) (cl : List (Str × Addr)) (fp : List Addr), SndTs g E0 H0 (X.blk s H scope (compEnvC scope cl C X.env) fp) ifs mt)
    (he : ∀ (s : Shared) (H : Hp) (C : Addr) (cl : List (Str × Addr)) (fp : List Addr), Snd g E0 H0 (X.blk s H scope (compEnvC scope cl C X.env) fp) false elt me) (hs : ∀ x, foldedSetIterable iter X.env x = pure x := by intro _; rfl) :
    SndS g E w0 H0 X (.Assign [.Name y py] (.ListComp elt [⟨tg, iter, ifs, 0⟩] scope pos) spos) (mSet i (mLc (own.map (·.2)) t mi mt me)) := by
  refine weakS (ps_setLc c.calm hN hy hyl hsw hi ok hg ht he hs) ?_
  rintro D σ H ⟨w, σI, B, s, x, p⟩
  have h : tI g E H0 false (mLc (own.map (·.2)) t mi mt me) σ H (fun x H1 => gName i x σ H1 D.nx) :=
    st_go s x p fun d B1 w1 v H1 x1 x2 s1 r p1 => p1 w1 _ H1 (Le.refl _) (s1.set i r) x1
  obtain ⟨w', σI', B', s', p'⟩ := h
  exact lc_at rfl hsl s' (PostF.of p')
end
end Hf

set_option Elab.async false
set_option linter.all false
set_option maxRecDepth 100000
set_option maxHeartbeats 4000000
namespace Hf
open PySem PySem.Spec PyProof.Rows L2

/-! ### a name's own list is changed -/
section
variable {g : Gs} {E : XK} {w0 w : Wd} {H0 H : Hp} {X : Cx} {e : Expr} {me : Ev} {pos p1 p2 apos : Pos} {bo : Bool} {x : Str} {i : Nat} {σI : Sl} {σ : L2.St} {B : Bs} {D : Ends}
def upO (i : Nat) (f : List Hf.D → Option (List Hf.D)) (σ : Sl) (B : Bs) : Ss := match σ[i]? with
  | some (some (true, .lst ds)) => match f ds with
    | some es => .next (σ.set i (some (true, .lst es))) B
    | Option.none => .bad
  | _ => .bad
theorem upO_go {f : List Hf.D → Option (List Hf.D)} (s : S0 g H0 w σI B σ H) (x : Ext w0 H0 w H) (p : PostS g E w0 H0 w D (upO i f σI B)) :
    ∃ a vs ds es, σ[i]? = some (some (.ref a)) ∧ H a = some (.lst vs) ∧ Reps g w ds vs ∧ σI[i]? = some (some (true, .lst ds)) ∧ f ds = some es ∧ ∀ us, Reps g w es us → D.nx σ (upd H a (.lst us)) := by
  unfold upO at p
  split at p
  · rename_i ds hi
    obtain ⟨a, o, e1, ha, c, np, nb, n0⟩ := s.ow i _ hi
    simp only [Cont] at c
    obtain ⟨vs, rfl, r⟩ := c
    split at p
    · rename_i es hf
      exact ⟨a, vs, ds, es, e1, ha, r, hi, hf, fun us ru => p w σ _ (Le.refl _) (s.mut hi e1 (by simp only [Cont]; exact ⟨us, rfl, ru⟩) (by intro _ _ z; cases z)) (x.mut n0)⟩
    · exact p.elim
  · exact p.elim
def mApp (i : Nat) (m : Ev) : Ms := fun σ B => match σ[i]? with
  | some (some (true, .lst _)) => (m σ B).st fun d B1 => upO i (fun ds => if ds.length < sizeLine then some (ds ++ [d]) else Option.none) σ B1
  | _ => .bad
theorem tyL {K : PySem.W.Frag} {H : Hp} {a : Addr} {xs : List V} (h : H a = some (.lst xs)) : tyV K "list" (.ref a) H := .inl ⟨rfl, xs, .inl (.inl h)⟩
theorem own_at {P : Prop} (s : S0 g H0 w σI B σ H) (hi : ∀ a vs, σ[i]? = some (some (.ref a)) → H a = some (.lst vs) → P) (h : ∃ ds, σI[i]? = some (some (true, .lst ds))) : P := by
  obtain ⟨ds, h⟩ := h
  obtain ⟨a, o, e1, ha, c, _⟩ := s.ow i _ h
  simp only [Cont] at c
  obtain ⟨vs, rfl, r⟩ := c
  exact hi a vs e1 ha
theorem z_app (he : Snd g E H0 X false e me) (hN : X.N[i]? = some x := by rfl) (hv : Vis X.env.scope x := by first | exact Or.inl rfl | exact Or.inr (Or.inl rfl) | exact Or.inr (Or.inr rfl)) (hd : (x == ("__debug__" : Str)) = false := by decide) (hcd : (x == ("__classdict__" : Str)) = false := by decide)
    (hbase : attributeBase (.Name x p1) "append" X.env (eval (.Name x p1) X.env) = eval (.Name x p1) X.env := by rfl)
    (hfew : ((backTo p2 (starEach [e] X.env)).all (fun x => !x.1) && (backToKw p2 (keywordEach [] X.env)).all (fun x => x.1.isSome) && decide ([e].length + ([] : List Keyword).length + (if ([] : List Keyword).isEmpty then 0 else 1) < 30)) = true := by rfl)
    (hline : (apos.endLine == p2.line) = true := by rfl) (hs : starEach [e] X.env = (false, eval e X.env) :: starEach [] X.env := by rfl) (hpl : (backTo p2 (starEach [] X.env)).any (·.1) = false := by rfl) (hsw : swapsWith (.Call (.Attribute (.Name x p1) "append" apos) [e] [] p2) none pos.line X.env = pure false := by rfl) :
    SndS g E w0 H0 X (.Expr (.Call (.Attribute (.Name x p1) "append" apos) [e] [] p2) pos) (mApp i me) := by
  refine weakS (ps_expr (pe_bm PySem.F.plainAttrs_list PySem.F.slot_list_append PySem.F.type_list_append mt_append (pe_var hN hv hd hcd) (pa_cons he pa_nil hs) hbase hfew hline hs hpl) hsw) ?_
  rintro D σ H ⟨w, σI, B, s, x0, p⟩
  unfold mApp at p
  split at p
  · rename_i ds0 hi
    refine own_at s (fun a vs e1 ha => ⟨_, e1, tyL ha, ?_⟩) ⟨ds0, hi⟩
    refine st_go s x0 p fun d B1 w1 v H1 x1 x2 s1 r p1 => ?_
    obtain ⟨a', vs', ds, es, f1, f2, f3, f4, f5, k⟩ := upO_go s1 x1 p1
    rw [e1] at f1; cases f1
    split at f5
    · rename_i hl
      cases f5
      exact ⟨a, vs', v, rfl, rfl, f2, by rw [f3.len]; exact hl, k _ (Reps.app f3 (Reps.one r))⟩
    · cases f5
  · exact p.elim
def mExt (i : Nat) (m : Ev) : Ms := fun σ B => match σ[i]? with
  | some (some (true, .lst _)) => (m σ B).st fun d B1 => match d with
    | .lst zs => upO i (fun ds => if ds.length + zs.length ≤ sizeLine then some (ds ++ zs) else Option.none) σ B1
    | _ => .bad
  | _ => .bad
theorem z_ext (he : Snd g E H0 X bo e me) (hN : X.N[i]? = some x := by rfl) (hv : Vis X.env.scope x := by first | exact Or.inl rfl | exact Or.inr (Or.inl rfl) | exact Or.inr (Or.inr rfl)) (hd : (x == ("__debug__" : Str)) = false := by decide) (hcd : (x == ("__classdict__" : Str)) = false := by decide)
    (hbase : attributeBase (.Name x p1) "extend" X.env (eval (.Name x p1) X.env) = eval (.Name x p1) X.env := by rfl)
    (hfew : ((backTo p2 (starEach [e] X.env)).all (fun x => !x.1) && (backToKw p2 (keywordEach [] X.env)).all (fun x => x.1.isSome) && decide ([e].length + ([] : List Keyword).length + (if ([] : List Keyword).isEmpty then 0 else 1) < 30)) = true := by rfl)
    (hline : (apos.endLine == p2.line) = true := by rfl) (hs : starEach [e] X.env = (false, eval e X.env) :: starEach [] X.env := by rfl) (hpl : (backTo p2 (starEach [] X.env)).any (·.1) = false := by rfl) (hsw : swapsWith (.Call (.Attribute (.Name x p1) "extend" apos) [e] [] p2) none pos.line X.env = pure false := by rfl) :
    SndS g E w0 H0 X (.Expr (.Call (.Attribute (.Name x p1) "extend" apos) [e] [] p2) pos) (mExt i me) := by
  refine weakS (ps_expr (pe_bm PySem.F.plainAttrs_list PySem.F.slot_list_extend PySem.F.type_list_extend mt_extend (pe_var hN hv hd hcd) (pa_cons he pa_nil hs) hbase hfew hline hs hpl) hsw) ?_
  rintro D σ H ⟨w, σI, B, s, x0, p⟩
  unfold mExt at p
  split at p
  · rename_i ds0 hi
    refine own_at s (fun a vs e1 ha => ⟨_, e1, tyL ha, ?_⟩) ⟨ds0, hi⟩
    refine st_go s x0 p fun d B1 w1 v H1 x1 x2 s1 r p1 => ?_
    split at p1
    · rename_i zs
      obtain ⟨b, us, rfl, g1, g2⟩ := r.up.lst s1
      obtain ⟨a', vs', ds, es, f1, f2, f3, f4, f5, k⟩ := upO_go s1 x1 p1
      rw [e1] at f1; cases f1
      split at f5
      · rename_i hl
        cases f5
        exact ⟨a, b, vs', us, rfl, rfl, f2, g1, by rw [f3.len, g2.len]; exact hl, k _ (Reps.app f3 g2)⟩
      · cases f5
    · exact p1.elim
  · exact p.elim
theorem Reps.dropLast {g : Gs} {w : Wd} {ds : List Hf.D} {vs : List V} (r : Reps g w ds vs) : Reps g w ds.dropLast vs.dropLast := by
  rw [List.dropLast_eq_take, List.dropLast_eq_take, r.len]
  exact Reps.take _ r
theorem Reps.erase {g : Gs} {w : Wd} : ∀ {ds : List Hf.D} {vs : List V} (k : Nat), Reps g w ds vs → Reps g w (ds.eraseIdx k) (vs.eraseIdx k)
  | [], vs, k, h => by simp only [Reps] at h; subst h; simp [Reps]
  | d :: ds, vs, 0, h => by
    simp only [Reps] at h
    obtain ⟨v, us, rfl, r, rs⟩ := h
    simpa using rs
  | d :: ds, vs, k + 1, h => by
    simp only [Reps] at h
    obtain ⟨v, us, rfl, r, rs⟩ := h
    simp only [List.eraseIdx_cons_succ, Reps]
    exact ⟨v, _, rfl, r, Reps.erase k rs⟩
/-! ### a box is changed: x[e] = v -/
def mSetIx (ob ix v : Ev) : Ms := fun σ B => (v σ B).st fun d B1 => (ob σ B1).st fun o B2 => (ix σ B2).st fun i B3 => match o, i with
  | .box n, .int k => match B3[n]? with
    | some (.lst ds) => match ixN ds.length k with
      | some j => .next σ (B3.set n (.lst (ds.set j d)))
      | Option.none => .bad
    | _ => .bad
  | _, _ => .bad
theorem z_setIx {o ix : Expr} {mo mi : Ev} {b1 : Bool} (he : Snd g E H0 X false e me) (ho : Snd g E H0 X false o mo) (hi : Snd g E H0 X b1 ix mi) (hs : swapsWithSole [.Subscript o ix p1] e pos.line X.env = pure false := by rfl) (hw : swappedStores [.Subscript o ix p1] e X.env = pure none := by rfl)
    (h1 : (assignEach [.Subscript o ix p1] X.env).map (·.2) = [assign (.Subscript o ix p1) X.env] := by rfl)
    (ha : ∀ v, assign (.Subscript o ix p1) X.env v = (do
      let ov ← holding [v] (eval o X.env)
      let iv ← holding [v, ov] (eval ix X.env)
      standAt p1
      holding [v, ov, iv] (setItem ov iv v)
      release [v, ov, iv] []) := by intro _; rfl) : SndS g E w0 H0 X (.Assign [.Subscript o ix p1] e pos) (mSetIx mo mi me) := by
  refine weakS (ps_asg he (pg_sub ho hi set_list ha) hs hw h1) ?_
  rintro D σ H ⟨w, σI, B, s, x0, p⟩
  refine st_go s x0 p fun d B1 w1 v H1 x1 x2 s1 r p1 => ?_
  refine st_go s1 x1 p1 fun o B2 w2 ov H2 y1 y2 s2 r2 p2 => ?_
  refine st_go s2 y1 p2 fun i B3 w3 iv H3 z1 z2 s3 r3 p3 => ?_
  split at p3
  · rename_i n k
    split at p3
    · rename_i ds hb
      split at p3
      · rename_i j hj
        obtain ⟨a, rfl, hn⟩ := (RepB.up (r2 : RepB g w2 σI σ false (.box n) ov)).mono z2.le |>.box s3
        obtain ⟨a', oo, h1, h2, c⟩ := s3.rb.get _ _ hb
        rw [hn] at h1; cases h1
        simp only [Cont] at c
        obtain ⟨vs, rfl, rr⟩ := c
        have rv : Rep g w3 d v := Rep.mono (y2.le.trans z2.le) _ _ r
        refine ⟨a, vs, k, j, rfl, r3.up.int s3, h2, by rw [rr.len]; exact hj, ?_⟩
        exact p3 w3 σ _ (Le.refl _) (s3.mutB hn (by simp only [Cont]; exact ⟨_, rfl, Reps.set j rr rv⟩)) (z1.mutB hn)
      · exact p3.elim
    · exact p3.elim
  · exact p3.elim
/-! own list by place: x[k] = v -/
def mSetOwn (i : Nat) (ix v : Ev) : Ms := fun σ B => (v σ B).st fun d B1 => match σ[i]? with
  | some (some (true, .lst _)) => (ix σ B1).st fun k B2 => match k with
    | .int k => upO i (fun ds => (ixN ds.length k).map fun j => ds.set j d) σ B2
    | _ => .bad
  | _ => .bad
theorem z_setOwn {ix : Expr} {mi : Ev} {b1 : Bool} (he : Snd g E H0 X false e me) (hi : Snd g E H0 X b1 ix mi) (hN : X.N[i]? = some x := by rfl) (hv : Vis X.env.scope x := by first | exact Or.inl rfl | exact Or.inr (Or.inl rfl) | exact Or.inr (Or.inr rfl)) (hd : (x == ("__debug__" : Str)) = false := by decide) (hcd : (x == ("__classdict__" : Str)) = false := by decide)
    (hs : swapsWithSole [.Subscript (.Name x p2) ix p1] e pos.line X.env = pure false := by rfl) (hw : swappedStores [.Subscript (.Name x p2) ix p1] e X.env = pure none := by rfl)
    (h1 : (assignEach [.Subscript (.Name x p2) ix p1] X.env).map (·.2) = [assign (.Subscript (.Name x p2) ix p1) X.env] := by rfl)
    (ha : ∀ v, assign (.Subscript (.Name x p2) ix p1) X.env v = (do
      let ov ← holding [v] (eval (.Name x p2) X.env)
      let iv ← holding [v, ov] (eval ix X.env)
      standAt p1
      holding [v, ov, iv] (setItem ov iv v)
      release [v, ov, iv] []) := by intro _; rfl) : SndS g E w0 H0 X (.Assign [.Subscript (.Name x p2) ix p1] e pos) (mSetOwn i mi me) := by
  refine weakS (ps_asg he (pg_sub (pe_var hN hv hd hcd) hi set_list ha) hs hw h1) ?_
  rintro D σ H ⟨w, σI, B, s, x0, p⟩
  refine st_go s x0 p fun d B1 w1 v H1 x1 x2 s1 r p1 => ?_
  split at p1
  · rename_i ds0 hi
    refine own_at s1 (fun a vs e1 ha => ⟨_, e1, ?_⟩) ⟨ds0, hi⟩
    refine st_go s1 x1 p1 fun k B2 w2 kv H2 y1 y2 s2 r2 p2 => ?_
    split at p2
    · rename_i k
      obtain ⟨a', vs', ds, es, f1, f2, f3, f4, f5, kk⟩ := upO_go s2 y1 p2
      rw [e1] at f1; cases f1
      obtain ⟨j, hj, rfl⟩ := Option.map_eq_some_iff.mp f5
      exact ⟨a, vs', k, j, rfl, r2.up.int s2, f2, by rw [f3.len]; exact hj, kk _ (Reps.set j f3 (Rep.mono y2.le _ _ r))⟩
    · exact p2.elim
  · exact p1.elim
end

/-! ### calls -/
def PostC (g : Gs) (E : XK) (w : Wd) (H : Hp) (Q : VK) : Rs D → Prop
  | .ok d B' => ∀ w' v H', Ext w H w' H' → RB g w' B' H' → Rep g w' d v → Q v H'
  | .exc c x B' => ∀ w' cls dd H', Ext w H w' H' → RB g w' B' H' → ExcR g w' c x cls dd H' → E cls dd H'
  | .bad => False
/-- the promise of a def whose meaning is f -/
def spF (g : Gs) (f : Fn) : Sp := fun vs H Q E => ∃ w ds B, RB g w B H ∧ Reps g w ds vs ∧ PostC g E w H Q (f ds B)
/-- a body's end as a call's result -/
def Ss.fin : Ss → Rs D
  | .next _ B => .ok .none B
  | .ret d B => .ok d B
  | .exc c x B => .exc c x B
  | .bad => .bad
/-- the meaning of a def: n parameters, k names in all -/
def mkFn (n k : Nat) (b : Ms) : Fn := fun ds B => if ds.length = n then (b (ds.map (fun d => some (false, d)) ++ List.replicate (k - n) Option.none) B).fin else .bad
/-- what a body may count on -/
structure OkC (g : Gs) (E : XK) (lv : Nat) (X : Cx) : Prop extends Ok g X where
  room : Room lv X.A
  hx : Passes (L2N.CX X.prog X.w) X E
theorem OkC.blk {g : Gs} {E : XK} {lv : Nat} {X : Cx} (k : OkC g E lv X) (s : Shared) (H : Hp) (scope : Scope) (env : Env) (fp : List Addr) : OkC g E0 lv (X.blk s H scope env fp) := ⟨k.toOk.blk s H scope env fp, k.room, passN⟩
/-- a def of the module -/
def Def (g : Gs) (k : Nat) (x : Str) (dfl : List D) (f : Fn) : Prop := ∃ (fa : Addr) (fd : FuncData) (ps : List Str) (dvs : List V) (ds : List Value), FnOk g.prog g.w g.K g.mg g.base (L2N.CX g.prog g.w) k fa fd ps (spF g f) ∧ g.mg x = some (.ref fa) ∧ PySem.W.keepIn g.K (.ref fa) = true ∧ Binds g.K fd ps ds ∧ Vals dvs ds ∧ ∀ w, Reps g w dfl dvs
section
variable {g : Gs} {E : XK} {w0 w : Wd} {H0 H : Hp} {X : Cx} {e : Expr} {es : List Expr} {ms : Evs} {pos p : Pos} {x : Str} {f : Fn} {lv k : Nat} {dfl : List D} {σI : Sl} {σ : L2.St} {B : Bs} {Q : VK}
def mCall (f : Fn) (dfl : List D) (ms : Evs) : Ev := fun σ B => (ms σ B).bind fun ds B1 => f (ds ++ dfl) B1
theorem PostC.of (s : S0 g H0 w σI B σ H) : ∀ {m : Rs D}, PostE g E w H σI σ false Q m → PostC g E w H Q m
  | .ok _ _, h => h
  | .exc _ _ _, h => h
  | .bad, h => h
theorem call_go {sp : Sp} {dvs : List V} (hsp : sp = spF g f) (hd : ∀ w, Reps g w dfl dvs) : ∀ σ H Q, tI g E H0 false (mCall f dfl ms) σ H Q → tCall sp dvs E (tIs g E H0 ms) σ H Q := by
  subst hsp
  rintro σ H Q ⟨w, σI, B, s, p⟩
  exact tIs_bind s p fun ds B1 w1 vs H1 x1 s1 r1 p1 => ⟨w1, ds ++ dfl, B1, s1.rb, Reps.app r1 (hd w1), PostC.of s1 p1⟩
theorem s_call (c : OkC g E lv X) (d : Def g k x dfl f) (hk : k ≤ lv) (ha : Snds g E H0 X (e :: es) ms) (hg : Gl X x := by rfl) (hdb : (x == ("__debug__" : Str)) = false := by decide) (he : starEach (e :: es) X.env = (false, eval e X.env) :: starEach es X.env := by rfl) (hpl : (backTo pos (starEach es X.env)).any (·.1) = false := by rfl) :
    Snd g E H0 X false (.Call (.Name x p) (e :: es) [] pos) (mCall f dfl ms) := by
  obtain ⟨fa, fd, ps, dvs, ds, F, hm, kp, b, hd, hr⟩ := d
  obtain ⟨prog, w', K, mg, base, A, N, s_0, H_0, env, outer, stack, ex, fn, calm, pn, xe⟩ := X
  obtain ⟨⟨h1, h2, h3, h4, h5, h6, h7, hfx⟩, h8, h9⟩ := c
  simp only at h1 h2 h5 h6 h7
  subst h1 h2 h5 h6 h7
  exact weak (pe_call F (h8.mono hk) hg hm kp b hd h9 ha hdb he hpl) (call_go rfl hr)
/-! ### a def keeps its promise -/
variable {P : Program} {K : PySem.W.Frag} {base : Heap}
theorem start_at {N : List Str} {ds : List D} {vs : List V} {n : Nat} (rb : RB g w B H) (r : Reps g w ds vs) (hn : ds.length = n) (hN : n ≤ N.length) : S0 g H w (ds.map (fun d => some (false, d)) ++ List.replicate (N.length - n) Option.none) B (L2.start N vs) H where
  rb := rb
  len := by simp [L2.start, r.len, hn]
  sl := fun i d h => by
    by_cases hi : i < ds.length
    · rw [List.getElem?_append_left (by simpa using hi), List.getElem?_map] at h
      cases q : ds[i]? with
      | none => rw [q] at h; cases h
      | some d' =>
        rw [q] at h; cases h
        obtain ⟨v, e1, rv⟩ := Reps.get r q
        refine ⟨v, ?_, rv⟩
        unfold L2.start
        rw [List.getElem?_append_left (by rw [List.length_map, r.len]; exact hi), List.getElem?_map, e1]; rfl
    · rw [List.getElem?_append_right (by simp; omega)] at h
      rw [List.getElem?_replicate] at h
      split at h <;> cases h
  ow := fun i d h => by
    by_cases hi : i < ds.length
    · rw [List.getElem?_append_left (by simpa using hi), List.getElem?_map] at h
      cases q : ds[i]? with
      | none => rw [q] at h; cases h
      | some d' => rw [q] at h; cases h
    · rw [List.getElem?_append_right (by simp; omega)] at h
      rw [List.getElem?_replicate] at h
      split at h <;> cases h
  oi := fun i j d e a h => by
    by_cases hi : i < ds.length
    · rw [List.getElem?_append_left (by simpa using hi), List.getElem?_map] at h
      cases q : ds[i]? with
      | none => rw [q] at h; cases h
      | some d' => rw [q] at h; cases h
    · rw [List.getElem?_append_right (by simp; omega)] at h
      rw [List.getElem?_replicate] at h
      split at h <;> cases h
  me := fun i c es a h => by
    by_cases hi : i < ds.length
    · rw [List.getElem?_append_left (by simpa using hi), List.getElem?_map] at h
      cases q : ds[i]? with
      | none => rw [q] at h; cases h
      | some d' => rw [q] at h; cases h
    · rw [List.getElem?_append_right (by simp; omega)] at h
      rw [List.getElem?_replicate] at h
      split at h <;> cases h
/-- a def of the text whose body means b -/
theorem def_ok {x qual : Str} {st : Stmt} {fa : Addr} {fd : FuncData} {N ps : List Str} {n : Nat} {b : Ms} (F : L2.Fun g.K x qual st fa fd) (S : FnScope N ps (defScope st)) (hn : ps.length = n) (hN : n ≤ N.length)
    (fx : Fx g) (hb : ∀ (E : XK) (w0 : Wd) (H0 : Hp) (X : Cx), OkC g E k X → PassesOwn (model X.prog X.w) X.A X.env X.xe → L2N.Takes X (fun cls d _ H => E cls d H) → X.N = N → X.env.scope = defScope st → X.fn = (fun _ => true) → SndB g E w0 H0 X (defBody st) b) :
    FnOk g.prog g.w g.K g.mg g.base (L2N.CX g.prog g.w) (k + 1) fa fd ps (spF g (mkFn n N.length b)) := by
  refine F.okN S (fun vs H Q E h => ?_) (fun cdv A outer s H vs Q E hr h => ?_)
  · obtain ⟨w, ds, B, rb, r, p⟩ := h
    unfold mkFn at p
    split at p
    · rename_i e; rw [r.len, e, hn]
    · exact p.elim
  · obtain ⟨w, ds, B, rb, r, p⟩ := h
    unfold mkFn at p
    split at p
    · rename_i e
      refine ⟨_, hb E w H _ ⟨⟨rfl, rfl, rfl, ?_, rfl, rfl, rfl, fx⟩, hr, ?_⟩ (passes_of rfl) (L2N.takes_of rfl rfl rfl rfl) rfl rfl rfl, ?_⟩
      · have := hr.un; show A.units + 3 + 100 < cLine; have h2 : A.units + 3 + 16 * k + 200 < cLine := this; omega
      · exact L2N.passes_call (L2N.takes_of rfl rfl rfl rfl) (fun _ _ _ _ h => h)
      · refine ⟨w, _, B, start_at rb r e hN, Ext.refl _ _, ?_⟩
        revert p
        generalize b _ B = q
        intro p
        cases q with
        | next σI' B' => exact fun w' σ H' _ s x => p w' .non H' x s.rb (rep_none g w')
        | ret d B' => exact fun w' v H' rb x r => p w' v H' x rb r
        | exc c y B' => exact fun w' cls dd H' rb x r => p w' cls dd H' x rb r
        | bad => exact p
    · exact p.elim
end
end Hf

set_option Elab.async false
set_option linter.all false
set_option maxRecDepth 100000
set_option maxHeartbeats 4000000
namespace Hf
open PySem PySem.Spec PyProof.Rows L2

section
variable {g : Gs} {w : Wd} {H H0 : Hp} {σI : Sl} {σ : L2.St} {B : Bs} {x : V} {c : Nat} {ds : List D}
theorem RepO.inst (s : S0 g H0 w σI B σ H) (h : RepO g w σI σ (.inst c ds) x) : ∃ a dx vs, x = .ref a ∧ H a = some (.ins (g.cl c) dx ((fldN c).zip vs)) ∧ ds.length ≤ (fldN c).length ∧ g.has c = true ∧ Reps g w ds vs := by
  rcases h with h | ⟨i, h1, h2⟩
  · simp only [Rep] at h
    obtain ⟨a, dx, vs, rfl, p, l, hc, r⟩ := h
    exact ⟨a, dx, vs, rfl, s.rb.sub _ _ p, by omega, hc, r⟩
  · obtain ⟨a, o, e, ha, ct, _⟩ := s.ow i _ h1
    rw [h2] at e
    cases e
    simp only [Cont] at ct
    obtain ⟨dx, vs, rfl, l, hc, r⟩ := ct
    exact ⟨a, dx, vs, rfl, ha, l, hc, r⟩
theorem zip_lookup : ∀ {ns : List Str} {vs : List V} {j : Nat} {f : Str} {v : V}, ns.Nodup → ns[j]? = some f → vs[j]? = some v → (ns.zip vs).lookup f = some v
  | [], _, _, _, _, _, h, _ => by simp at h
  | n :: ns, [], j, f, v, _, _, h => by simp at h
  | n :: ns, u :: us, 0, f, v, nd, h1, h2 => by
    simp at h1 h2; subst h1 h2
    simp [List.lookup]
  | n :: ns, u :: us, j + 1, f, v, nd, h1, h2 => by
    simp only [List.getElem?_cons_succ] at h1 h2
    have hne : f ≠ n := fun e => by
      subst e
      exact (List.nodup_cons.mp nd).1 (List.mem_of_getElem? h1)
    simp only [List.zip_cons_cons, List.lookup]
    rw [show (f == n) = false from beq_eq_false_iff_ne.mpr hne]
    exact zip_lookup (List.nodup_cons.mp nd).2 h1 h2
theorem putF_zip : ∀ {ns : List Str} {vs : List V} {f : Str} {v : V}, ns.Nodup → ns[vs.length]? = some f → putF f v (ns.zip vs) = ns.zip (vs ++ [v])
  | [], vs, f, v, _, h => by simp at h
  | n :: ns, [], f, v, _, h => by simp at h; subst h; simp [putF]
  | n :: ns, u :: us, f, v, nd, h => by
    simp only [List.length_cons, List.getElem?_cons_succ] at h
    have hne : n ≠ f := fun e => by
      subst e
      exact (List.nodup_cons.mp nd).1 (List.mem_of_getElem? h)
    simp only [List.zip_cons_cons, List.cons_append, putF]
    rw [if_neg hne, putF_zip (List.nodup_cons.mp nd).2 h]
end
section
variable {g : Gs} {E : XK} {w0 w : Wd} {H0 H : Hp} {X : Cx} {e o : Expr} {es : List Expr} {m : Ev} {ms : Evs} {pos p p1 p2 : Pos} {x : Str} {f : Fn} {lv k c : Nat} {dfl : List D} {σI : Sl} {σ : L2.St} {B : Bs} {Q : VK} {b1 : Bool} {i : Nat}
/-! ### fields -/
def mFld (c j : Nat) (m : Ev) : Ev := fun σ B => (m σ B).bind fun d B1 => match d with
  | .inst c' ds => if c' = c then okIf ds[j]? B1 else .bad
  | _ => .bad
theorem s_fld (ok : Ok g X) {j : Nat} {n : Str} (hj : (fldN c)[j]? = some n) (he : Snd g E H0 X b1 e m) (hb : attributeBase e n X.env (eval e X.env) = eval e X.env := by rfl) : Snd g E H0 X false (.Attribute e n pos) (mFld c j m) := by
  refine weak (pe_fld he hb) ?_
  rintro σ H Q ⟨w, σI, B, s, p⟩
  refine tI_bind s p fun d B1 w1 v H1 x1 s1 r1 p1 => ?_
  split at p1
  · rename_i c' ds
    split at p1
    · rename_i hc
      subst hc
      obtain ⟨d, hd, p2⟩ := okIf_go p1
      obtain ⟨a, dx, vs, rfl, ha, hl, hh, r⟩ := r1.up.inst s1
      have C := ok.fx.cls _ hh
      obtain ⟨u, e1, ru⟩ := Reps.get r hd
      rw [ok.K]
      exact ⟨a, _, dx, _, u, rfl, ha, C.cls, C.na _ (List.mem_of_getElem? hj), zip_lookup C.nd hj e1, p2.nowR s1 ru⟩
    · exact p1.elim
  · exact p1.elim
/-- self.f = e in an __init__: self is the own instance in slot 0 -/
def mFldSet (c : Nat) (m : Ev) : Ms := fun σ B => (m σ B).st fun d B1 => match σ[(0 : Nat)]? with
  | some (some (true, .inst c' ds)) => if c' = c ∧ ds.length < (fldN c).length then .next (σ.set 0 (some (true, .inst c (ds ++ [d])))) B1 else .bad
  | _ => .bad
theorem fldN_len (c : Nat) : (fldN c).length ≤ 3 := by
  unfold fldN
  split <;> simp
theorem z_fldSet (ok : Ok g X) {j : Nat} {n : Str} (hj : (fldN c)[j]? = some n) (he : Snd g E H0 X false e m) (hN : X.N[0]? = some x := by rfl) (hv : Vis X.env.scope x := by first | exact Or.inl rfl | exact Or.inr (Or.inl rfl) | exact Or.inr (Or.inr rfl)) (hd : (x == ("__debug__" : Str)) = false := by decide) (hcd : (x == ("__classdict__" : Str)) = false := by decide)
    (hs : swapsWith e (some (.Attribute (.Name x p1) n p2)) pos.line X.env = pure false := by rfl) : SndS g E w0 H0 X (.Assign [.Attribute (.Name x p1) n p2] e pos) (fun σ B => match σ[(0 : Nat)]? with
      | some (some (true, .inst _ ds)) => if ds.length = j then mFldSet c m σ B else .bad
      | _ => .bad) := by
  refine weakS (ps_fld (pe_var hN hv hd hcd) he hs) ?_
  rintro D σ H ⟨w, σI, B, s, x0, p⟩
  unfold mFldSet at p
  simp only at p
  split at p
  · rename_i c0 ds hi
    split at p
    · rename_i hl0
      subst hl0
      refine st_go s x0 p fun d B1 w1 v H1 x1 x2 s1 r p1 => ?_
      simp only at p1
      split at p1
      · rename_i h
        obtain ⟨hc, hl⟩ := h
        subst hc
        obtain ⟨a, o, e1, ha, ct, np, nb, n0⟩ := s1.ow 0 _ hi
        simp only [Cont] at ct
        obtain ⟨dx, vs, rfl, l, hh, rr⟩ := ct
        have C := ok.fx.cls _ hh
        refine ⟨_, e1, a, _, dx, _, rfl, ha, ok.K ▸ C.cls, ok.K ▸ C.na _ (List.mem_of_getElem? hj), ?_, ?_⟩
        · have := fldN_len c0; rw [List.length_zip]; omega
        · rw [putF_zip C.nd (by rw [rr.len]; exact hj)]
          exact p1 w1 σ _ (Le.refl _) (s1.mut hi e1 (by simp only [Cont]; exact ⟨dx, _, rfl, by simp; omega, hh, Reps.app rr (Reps.one r)⟩) (fun _ _ _ => ⟨_, _, rfl⟩)) (x1.mut n0)
      · exact p1.elim
    · exact p.elim
  · exact p.elim
end
end Hf

set_option Elab.async false
set_option linter.all false
set_option maxRecDepth 100000
set_option maxHeartbeats 4000000
namespace Hf
open PySem PySem.Spec PyProof.Rows L2

/-- a constant of the module -/
def GlobC (g : Gs) (x : Str) (d : D) : Prop := ∃ v u, g.mg x = some u ∧ RelV v u ∧ ∀ w, Rep g w d v
theorem nbs {g : Gs} {X : Cx} (ok : Ok g X) {x : String} (h : x ∈ ["len", "range", "isinstance", "tuple", "list", "all", "any", "max", "min", "set", "sorted", "enumerate", "zip", "repr", "str", "int", "sum", "dict", "bool"] := by decide) : X.mg (Str.ofString x) = Option.none := by
  rw [ok.mg]
  exact ok.fx.nb x h
section
variable {g : Gs} {E : XK} {w0 w : Wd} {H0 H : Hp} {X : Cx} {e o a b : Expr} {es : List Expr} {m ma mb : Ev} {ms : Evs} {pos p p1 p2 apos : Pos} {x : Str} {f : Fn} {lv k c : Nat} {dfl : List D} {σI : Sl} {σ : L2.St} {B : Bs} {Q : VK} {b1 b2 : Bool} {i : Nat}
theorem s_glob (ok : Ok g X) {d : D} (G : GlobC g x d) (hg : Gl X x := by rfl) (hd : (x == ("__debug__" : Str)) = false := by decide) : Snd g E H0 X false (.Name x pos) (mC d) := by
  obtain ⟨v, u, hm, r, h⟩ := G
  exact s_const (pe_glob hg (by rw [ok.mg]; exact hm) r hd) h
/-! ### isinstance -/
def isB : Bt → D → Option Bool
  | .int, .int _ => some true
  | .int, .bool _ => some true
  | .bool, .bool _ => some true
  | .tuple, .tup _ => some true
  | .str, .str _ => some true
  | .list, .lst _ => some true
  | .list, .scr _ => some true
  | _, .prs _ => Option.none
  | _, .box _ => Option.none
  | _, .cls _ => Option.none
  | _, .ptr _ => Option.none
  | _, .fnT _ => Option.none
  | _, .exo .. => Option.none
  | _, _ => some false
def tyN : D → Option String
  | .none => some "NoneType"
  | .int _ => some "int"
  | .bool _ => some "bool"
  | .str _ => some "str"
  | .lst _ => some "list"
  | .scr _ => some "list"
  | .tup _ => some "tuple"
  | .dct _ _ => some "dict"
  | .kd _ _ => some "dict"
  | _ => Option.none
def TyY (g : Gs) (H : Hp) (v : V) (t : Value) : Prop := TyX g.K H v t ∨ (∃ a xs, v = .ref a ∧ H a = some (dctO g a xs) ∧ t = .type "dict") ∨ ∃ (a : Addr) (k x : Int), v = .ref a ∧ H a = some (.dK [(.inl k, .int x)]) ∧ t = .type "dict"
def rIsY (g : Gs) : List V → Hp → VK → Prop := fun xs H Q => ∃ (x c : V) (t u : Value) (b : Bool), xs = [x, c] ∧ ClsV c u ∧ TyY g H x t ∧ PySem.W.kitOne g.K t u = some b ∧ Q (.bl b) H
theorem call_isY (hK : X.K = g.K) : CallR X (.builtin "isinstance") (rIsY g) := by
  intro pins s σ H xs us Q I r h
  obtain ⟨x, c, t, u, b, rfl, k, ty, e, q⟩ := h
  rcases ty with ty | ⟨a, ys, rfl, ha, rfl⟩ | ⟨a, kk, kx, rfl, ha, rfl⟩
  · exact call_isi pins s σ H _ us Q I r ⟨x, c, t, u, b, rfl, k, hK ▸ ty, hK ▸ e, q⟩
  · obtain ⟨u1, u2, rfl, r1, r2⟩ := vals2 r
    have e2 := k.eq r2
    subst e2
    cases (show u1 = Value.ref a from r1)
    obtain ⟨⟨_, _, _, _, _, _, o, es, ep, h1, h2, _⟩, _, _⟩ := (show ObjOk X.prog X.w H s.heap a (dctO g a ys) from I.hok a _ ha)
    exact PySem.W.kia_one PySem.W.kitx_dict I.kIn ⟨o, h1, h2.1⟩ (hK ▸ e) (fun z => nomatch z) fun tk => ⟨.bl b, H, I.tok tk, rfl, q⟩
  · obtain ⟨u1, u2, rfl, r1, r2⟩ := vals2 r
    have e2 := k.eq r2
    subst e2
    cases (show u1 = Value.ref a from r1)
    obtain ⟨_, _, vs, _, o, es, ep, h1, h2, _⟩ := dk_of I.hok ha
    exact PySem.W.kia_one PySem.W.kitx_dict I.kIn ⟨o, h1, h2.1⟩ (hK ▸ e) (fun z => nomatch z) fun tk => ⟨.bl b, H, I.tok tk, rfl, q⟩
theorem tyX_of (s : S0 g H0 w σI B σ H) {d : D} {v : V} {n : String} (r : RepO g w σI σ d v) (h : tyN d = some n) : TyY g H v (.type n) := by
  by_cases hd : ∃ ks ds, d = .dct ks ds
  · obtain ⟨ks, ds, rfl⟩ := hd
    cases h
    obtain ⟨a, xs, rfl, ha, _⟩ := r.dct s
    exact .inr (.inl ⟨a, xs, rfl, ha, rfl⟩)
  by_cases hk : ∃ k x, d = .kd k x
  · obtain ⟨k, x, rfl⟩ := hk
    cases h
    have z := r.of s (by simp) (by simp) (by simp)
    simp only [Rep] at z
    obtain ⟨a, rfl, ha⟩ := z
    exact .inr (.inr ⟨a, k, x, rfl, s.rb.sub _ _ ha, rfl⟩)
  refine .inl ?_
  cases d <;> simp only [tyN, Option.some.injEq, reduceCtorEq] at h <;> subst h
  · rw [r.none s]; exact .base .non
  · rw [r.bool s]; exact .base (.bl _)
  · rw [r.int s]; exact .base (.int _)
  · rw [r.str s]; exact .base (.str _)
  · obtain ⟨a, vs, rfl, q, _⟩ := r.tup s
    rcases q with (q | ⟨o, q⟩) | ⟨o, its, n, q, q2, _⟩
    · exact .base (.tup q)
    · exact .fTuple q
    · exact .kTuple q q2
  · obtain ⟨a, vs, rfl, q, _⟩ := r.lst s
    exact .base (.lst q)
  · obtain ⟨a, vs, rfl, q, _⟩ := r.scr s
    rcases q with (q | ⟨o, q⟩) | ⟨o, its, n, q, q2, _⟩
    · exact .base (.lst q)
    · exact .base (.frz q)
    · exact .kList q q2
  · exact absurd ⟨_, _, rfl⟩ hd
  · exact absurd ⟨_, _, rfl⟩ hk
theorem tyX_ins (ok : Ok g X) (s : S0 g H0 w σI B σ H) {ds : List D} {v : V} (r : RepO g w σI σ (.inst c ds) v) : g.has c = true ∧ TyY g H v (.ref (g.cl c)) := by
  obtain ⟨a, dx, vs, rfl, ha, hl, hh, r⟩ := r.inst s
  have C := ok.fx.cls _ hh
  exact ⟨hh, .inl (.base (.ins ha C.cls C.ha ok.fx.hn ok.fx.htk C.hm))⟩
theorem kit_tab : ∀ T : Bt, ∀ n ∈ ["NoneType", "int", "bool", "str", "list", "tuple", "dict"], kitB n T.nm = some (n == T.nm || (n == "bool" && T == .int)) := by
  intro T
  cases T <;> decide +kernel
theorem tyN_mem {d : D} {n : String} (h : tyN d = some n) : n ∈ ["NoneType", "int", "bool", "str", "list", "tuple", "dict"] := by
  cases d <;> simp only [tyN, Option.some.injEq, reduceCtorEq] at h <;> subst h <;> decide
theorem isB_ty (T : Bt) {d : D} {n : String} (h : tyN d = some n) : isB T d = some (n == T.nm || (n == "bool" && T == .int)) := by
  cases d <;> simp only [tyN, Option.some.injEq, reduceCtorEq] at h <;> subst h <;> cases T <;> rfl
theorem isB_kit (ok : Ok g X) (T : Bt) (s : S0 g H0 w σI B σ H) {d : D} {v : V} {r : Bool} (hr : RepO g w σI σ d v) (h : isB T d = some r) : ∃ t, TyY g H v t ∧ PySem.W.kitOne g.K t (.type T.nm) = some r := by
  cases q : tyN d with
  | some n =>
    refine ⟨_, tyX_of s hr q, ?_⟩
    rw [isB_ty T q] at h
    cases h
    exact kit_ty (kit_tab T n (tyN_mem q))
  | none =>
    cases d <;> simp only [tyN, reduceCtorEq] at q
    · cases T <;> simp [isB] at h
    · obtain ⟨hh, ty⟩ := tyX_ins ok s hr
      refine ⟨_, ty, ?_⟩
      have : r = false := by cases T <;> simp [isB] at h <;> first | exact h | exact h.symm
      subst this
      exact (ok.fx.cls _ hh).isB T
    · cases T <;> simp [isB] at h
    · cases T <;> simp [isB] at h
    · cases T <;> simp [isB] at h
    · cases T <;> simp [isB] at h
    · cases T <;> simp [isB] at h
def mIsB (T : Bt) (m : Ev) : Ev := m1 (fun d B => match isB T d with
  | some r => .ok (.bool r) B
  | Option.none => .bad) m
theorem boot_bt (T : Bt) : bootBuiltins (Str.ofString T.nm) = some (.type T.nm) := by cases T <;> decide +kernel
theorem nm_mem (T : Bt) : T.nm ∈ ["len", "range", "isinstance", "tuple", "list", "all", "any", "max", "min", "set", "sorted", "enumerate", "zip", "repr", "str", "int", "sum", "dict", "bool"] := by cases T <;> decide
theorem s_isB (ok : Ok g X) (T : Bt) {tn : Str} (ht : tn = Str.ofString T.nm) (he : Snd g E H0 X b1 e m) (hg : Gl X "isinstance" := by rfl) (hg2 : Gl X tn := by rfl) (hd : (tn == ("__debug__" : Str)) = false := by decide) (hn : tn ≠ "__name__" := by decide)
    (h1 : starEach [e, .Name tn p2] X.env = (false, eval e X.env) :: starEach [.Name tn p2] X.env := by rfl) (h2 : starEach [.Name tn p2] X.env = (false, eval (.Name tn p2) X.env) :: starEach [] X.env := by rfl) (hpl : (backTo pos (starEach [.Name tn p2] X.env)).any (·.1) = false := by rfl) :
    Snd g E H0 X false (.Call (.Name "isinstance" p1) [e, .Name tn p2] [] pos) (mIsB T m) := by
  subst ht
  refine weak (pe_callB (call_isY (g := g) ok.K) hg (nbs ok) PyProof.Rows.boot_isinstance (pa_cons he (pa_cons (pe_bltn (v := .ty T.nm) hg2 (by rw [ok.mg]; exact ok.fx.nb _ (nm_mem T)) (boot_bt T) rfl hn hd) pa_nil h2) h1) (by decide) (by decide) h1 hpl) ?_
  rintro σ H Q ⟨w, σI, B, s, p⟩
  refine tI_bind s p fun d B1 w1 v H1 x1 s1 r1 p1 => ?_
  split at p1
  · rename_i r hr
    obtain ⟨t, ty, kt⟩ := isB_kit ok T s1 r1.up hr
    exact ⟨v, _, t, _, r, rfl, .ty _, ty, kt, p1.nowR s1 (rep_bool g w1 _)⟩
  · exact p1.elim
def isC (c : Nat) : D → Option Bool
  | .inst c' _ => some (subC c' c)
  | .prs _ => Option.none
  | .box _ => Option.none
  | .cls _ => Option.none
  | .ptr _ => Option.none
  | .fnT _ => Option.none
  | .exo .. => Option.none
  | _ => some false
def mIsC (c : Nat) (m : Ev) : Ev := m1 (fun d B => match isC c d with
  | some r => .ok (.bool r) B
  | Option.none => .bad) m
/-- a class of the module by its name -/
structure ClsN (g : Gs) (c : Nat) (x : Str) : Prop where
  has : g.has c = true
  mg : g.mg x = some (.ref (g.cl c))
theorem s_isC (ok : Ok g X) (N : ClsN g c x) (he : Snd g E H0 X b1 e m) (hg : Gl X "isinstance" := by rfl) (hg2 : Gl X x := by rfl) (hd : (x == ("__debug__" : Str)) = false := by decide)
    (h1 : starEach [e, .Name x p2] X.env = (false, eval e X.env) :: starEach [.Name x p2] X.env := by rfl) (h2 : starEach [.Name x p2] X.env = (false, eval (.Name x p2) X.env) :: starEach [] X.env := by rfl) (hpl : (backTo pos (starEach [.Name x p2] X.env)).any (·.1) = false := by rfl) :
    Snd g E H0 X false (.Call (.Name "isinstance" p1) [e, .Name x p2] [] pos) (mIsC c m) := by
  refine weak (pe_callB (call_isY (g := g) ok.K) hg (nbs ok) PyProof.Rows.boot_isinstance (pa_cons he (pa_cons (pe_glob (v := .ref (g.cl c)) hg2 (by rw [ok.mg]; exact N.mg) rfl hd) pa_nil h2) h1) (by decide) (by decide) h1 hpl) ?_
  rintro σ H Q ⟨w, σI, B, s, p⟩
  refine tI_bind s p fun d B1 w1 v H1 x1 s1 r1 p1 => ?_
  split at p1
  · rename_i r hr
    have key : ∃ t, TyY g H1 v t ∧ PySem.W.kitOne g.K t (.ref (g.cl c)) = some r := by
      cases q : tyN d with
      | some n =>
        have e : r = false := by cases d <;> simp [isC, tyN] at hr q <;> first | exact hr | exact hr.symm
        subst e
        exact ⟨_, tyX_of s1 r1.up q, (ok.fx.cls _ N.has).isO n (tyN_mem q)⟩
      | none =>
        cases d <;> simp only [tyN, reduceCtorEq] at q
        · simp [isC] at hr
        · obtain ⟨hh, ty⟩ := tyX_ins ok s1 r1.up
          simp only [isC, Option.some.injEq] at hr
          subst hr
          exact ⟨_, ty, ok.fx.sub _ _ hh N.has⟩
        · simp [isC] at hr
        · simp [isC] at hr
        · simp [isC] at hr
        · simp [isC] at hr
        · simp [isC] at hr
    obtain ⟨t, ty, kt⟩ := key
    exact ⟨v, _, t, _, r, rfl, .own _, ty, kt, p1.nowR s1 (rep_bool g w1 _)⟩
  · exact p1.elim
/-! ### methods and properties of instances -/
def Prp (g : Gs) (k c : Nat) (n : Str) (f : Fn) : Prop := ∃ (pa fa : Addr) (fd : FuncData) (ps : List Str), FnOk g.prog g.w g.K g.mg g.base (L2N.CX g.prog g.w) k fa fd ps (spF g f) ∧ PropOf g.K (g.cl c) n pa fa ∧ Binds g.K fd ps [] ∧ g.has c = true
def prpK (c : Nat) (f : Fn) : D → Bs → Rs D
  | .inst c' ds, B1 => if c' = c then noX (f [.inst c' ds] B1) else .bad
  | _, _ => .bad
theorem prpK_or (c : Nat) (f : Fn) (d : D) (B : Bs) : prpK c f d B = .bad ∨ ∃ ds, d = .inst c ds ∧ prpK c f d B = noX (f [.inst c ds] B) := by
  cases d <;> first | exact .inl rfl | skip
  rename_i c' ds
  by_cases e : c' = c
  · subst e; exact .inr ⟨ds, rfl, if_pos rfl⟩
  · exact .inl (if_neg e)
def mPrp (c : Nat) (f : Fn) (m : Ev) : Ev := fun σ B => (m σ B).bind (prpK c f)
theorem noX_go (s : S0 g H0 w σI B σ H) : ∀ {r : Rs D}, PostE g E w H σI σ false Q (noX r) → PostC g E0 w H Q r
  | .ok _ _, h => h
  | .exc _ _ _, h => h.elim
  | .bad, h => h
theorem pass_nox {P : Program} {w : World} {X : Cx} : Passes (L2N.CX P w) X E0 := fun _ _ _ _ _ _ _ h => by
  obtain ⟨_, _, _, _, _, _, _, _, _, _, _, _, z⟩ := h
  exact z.elim
theorem s_prp (ok : OkC g E lv X) {n : Str} (D : Prp g k c n f) (hk : k + 1 ≤ lv) (he : Snd g E H0 X false e m) (hab : attributeBase e n X.env (eval e X.env) = eval e X.env := by rfl) : Snd g E H0 X false (.Attribute e n pos) (mPrp c f m) := by
  obtain ⟨pa, fa, fd, ps, F, hp, b, hc⟩ := D
  have C := ok.fx.cls _ hc
  obtain ⟨prog, w', K, mg, base, A, N, s_0, H_0, env, outer, stack, ex, fn, calm, pn, xe⟩ := X
  obtain ⟨⟨h1, h2, h3, h4, h5, h6, h7, hfx⟩, h8, h9⟩ := ok
  simp only at h1 h2 h5 h6 h7
  subst h1 h2 h5 h6 h7
  refine weak (pe_prop he C.cls hp F (h8.mono hk) b .nil (E := E0) pass_nox hab) ?_
  rintro σ H Q ⟨w, σI, B, s, p⟩
  refine tI_bind s p fun d B1 w1 v H1 x1 s1 r1 p1 => ?_
  rcases prpK_or c f d B1 with e | ⟨ds, rfl, e⟩
  · rw [e] at p1; exact p1.elim
  · rw [e] at p1
    obtain ⟨a, dx, vs, e1, ha, hl, hh, rr⟩ := (RepB.up r1).inst s1
    subst e1
    exact ⟨a, dx, _, rfl, ha, w1, _, B1, s1.rb, Reps.one r1, noX_go s1 p1⟩
end
end Hf

set_option Elab.async false
set_option linter.all false
set_option maxRecDepth 100000
set_option maxHeartbeats 8000000
namespace Hf
open PySem PySem.Spec PyProof.Rows L2
theorem sub_tuple_set : isSubtype (.type "tuple") (.type "set") = pure false := by
  rw [isSubtype_type]; kernel_rfl
theorem sub_tuple_frozenset : isSubtype (.type "tuple") (.type "frozenset") = pure false := by
  rw [isSubtype_type]; kernel_rfl
abbrev newSet (w : World) : Obj := { cls := .type "set", dict := none, data := .set #[] 0 (.fresh 0 0 (!w.params.followText "set-order")) }
theorem heap_none {h : Heap} {b : Addr} (hb : h.objs.size ≤ b) : h.get? b = Option.none := by
  cases q : h.get? b with
  | none => rfl
  | some o => exact (Nat.lt_irrefl _ (Nat.lt_of_lt_of_le (Heap.lt_size q) hb)).elim
section
variable {P : Program} {w : World} {A : Around} {E : Value → Shared → Prop} {s : Shared}
/-- set(x), x a list or a tuple: what its loop leaves, by whatever invariant the loop's lemma has -/
theorem set_of {Fin : Heap → Prop} {l : Addr} {T : String} {odict : Option Addr} {odata : Data} {oslots : Array (Option Value)} {ito : Obj} {Q : Value → Shared → Prop}
    (hol : s.heap.get? l = some { cls := .type T, dict := odict, data := odata, slots := oslots }) (sl1 : isSubtype (.type T) (.type "set") = pure false) (sl2 : isSubtype (.type T) (.type "frozenset") = pure false) (hne : (Value.type T == Value.type "dict") = false)
    (iter : ∀ (A' : Around) (E' : Value → Shared → Prop) (s1 : Shared) (Q' : Value → Shared → Prop), s1.heap.get? l = some { cls := .type T, dict := odict, data := odata, slots := oslots } → Q' (.ref s1.heap.objs.size) { s1 with heap := s1.heap.push ito } → wpAny (model P w) A' (pyIter (.ref l)) Q' E' s1)
    (loop : ∀ (R : Result → Shared → Prop), (∀ (h' : Heap) (tk : Nat), Fin h' → (∀ b o, s.heap.get? b = some o → h'.get? b = some o) → R (.ok (.ret .none)) { s with heap := h', toks := tk }) →
      codeAny (model P w) A.in1.in1 (.builtin "set.update.loop" ⟨[.ref s.heap.objs.size, .ref (s.heap.push (newSet w)).objs.size], []⟩) R { s with heap := (s.heap.push (newSet w)).push ito })
    (h : ∀ (h' : Heap) (tk : Nat), Fin h' → (∀ b o, s.heap.get? b = some o → h'.get? b = some o) → Q (.ref s.heap.objs.size) { s with heap := h', toks := tk }) :
    wpAny (model P w) A (call (.type "set") [.ref l]) Q E s := by
  obtain ⟨mc, mt, hmro⟩ := F.called_set.mro
  have hmade := F.called_set.made
  have hsub := F.called_set.sub
  refine wpAny_call (codeAny_of_tree ?_)
  show wpAny _ _ (callAny (.type "set") _) _ _ _
  refine wpAny_pure ⟨Code.quiet_builtin _ (by decide +kernel), ?_⟩
  refine codeAny_builtin F.entry_type_call ?_
  rw [Around.under_plain (weight_type_call_type "set" [Value.ref l] []) rfl]
  have nt := F.called_set.notType
  have cc := F.called_set.canCreate
  have ct1 := F.typeCall_set_1 (Value.ref l)
  repeat (any_goals (first | assumption | wp_step))
  let W1 : Value → Shared → Prop := fun obj s₁ => obj = .ref s.heap.objs.size ∧ s₁ = { s with heap := s.heap.push (newSet w) }
  refine codeAny_mono (code_set_led1 (Value.ref l) (E := E) (Q₁ := W1) ⟨rfl, rfl⟩) fun r s₁ hr => ?_
  cases r with
  | error e => exact hr
  | ok fl =>
    cases fl with
    | ret obj =>
      obtain ⟨rfl, rfl⟩ := hr
      have hS : (s.heap.push (newSet w)).get? s.heap.objs.size = some (newSet w) := Heap.get?_push_size _ rfl
      have hT : Shared.TypeIs { s with heap := s.heap.push (newSet w) } (.ref s.heap.objs.size) "set" := ⟨_, hS, rfl⟩
      have li := F.called_set.init.lookup
      have bi := F.called_set.init.bind (.ref s.heap.objs.size)
      repeat (any_goals (first | assumption | wp_step))
      let W2 : Value → Shared → Prop := fun r s₂ => r = .none ∧ ∃ h' tk, s₂ = { s with heap := h', toks := tk } ∧ Fin h' ∧ ∀ b o, s.heap.get? b = some o → h'.get? b = some o
      refine codeAny_mono (codeAny_call_builtin (R := wants W2 E) F.called_set.init.plain F.entry_set_init (check_set_init_1 hT ?_)) fun r₂ s₂ hr₂ => ?_
      · have hol' : (s.heap.push (newSet w)).get? l = some { cls := .type T, dict := odict, data := odata, slots := oslots } := Heap.get?_push_of_some _ hol
        unfold Builtin.«set.__init__» noKeywords Builtin.Frozenset.updateFrom
        generalize hPI : pyIter = PI
        wp_walk
        subst hPI
        refine iter _ _ _ _ hol' ?_
        refine wpAny_bind (wpAny_runValue ?_)
        refine loop _ fun h' tk' hF hkp => ?_
        refine wpAny_pure ?_
        show wpAny _ _ (ret Value.none) _ _ _
        exact wpAny_pure ⟨rfl, h', tk', rfl, hF, hkp⟩
      · cases r₂ with
        | error e => exact hr₂
        | ok fl₂ =>
          cases fl₂ with
          | ret r =>
            obtain ⟨rfl, h', tk, rfl, hF, hk'⟩ := hr₂
            repeat (any_goals (first | assumption | wp_step))
            exact h _ _ hF hk'
          | next => exact hr₂.elim
          | brk => exact hr₂.elim
          | cont => exact hr₂.elim
    | next => exact hr.elim
    | brk => exact hr.elim
    | cont => exact hr.elim
end
end Hf

set_option Elab.async false
set_option linter.all false
set_option maxRecDepth 100000
set_option maxHeartbeats 4000000
namespace Hf
open PySem PySem.Spec PyProof.Rows L2
/-! ### how many different ones -/
def dd {α : Type} [DecidableEq α] : List α → List α
  | [] => []
  | x :: xs => if x ∈ xs then dd xs else x :: dd xs
theorem mem_dd {α : Type} [DecidableEq α] {a : α} : ∀ {l : List α}, a ∈ dd l ↔ a ∈ l
  | [] => by simp [dd]
  | x :: xs => by
    unfold dd
    split
    · rename_i h
      rw [mem_dd, List.mem_cons]
      constructor
      · exact .inr
      · rintro (rfl | h')
        · exact h
        · exact h'
    · rw [List.mem_cons, List.mem_cons, mem_dd]
theorem nodup_dd {α : Type} [DecidableEq α] : ∀ l : List α, (dd l).Nodup
  | [] => by simp [dd]
  | x :: xs => by
    unfold dd
    split
    · exact nodup_dd xs
    · rename_i h
      exact List.nodup_cons.mpr ⟨fun z => h (mem_dd.mp z), nodup_dd xs⟩
theorem nodup_sub_le {α : Type} [DecidableEq α] : ∀ {l m : List α}, l.Nodup → (∀ a ∈ l, a ∈ m) → l.length ≤ m.length
  | [], _, _, _ => Nat.zero_le _
  | x :: xs, m, h, s => by
    have h1 := nodup_sub_le (l := xs) (m := m.erase x) (List.nodup_cons.mp h).2 fun a ha => by
      have ne : a ≠ x := fun e => (List.nodup_cons.mp h).1 (e ▸ ha)
      exact (List.mem_erase_of_ne ne).mpr (s a (List.mem_cons_of_mem _ ha))
    have hx := s x List.mem_cons_self
    rw [List.length_erase_of_mem hx] at h1
    have := List.length_pos_of_mem hx
    simp only [List.length_cons]
    omega
theorem nodup_len {α : Type} [DecidableEq α] {l m : List α} (h : l.Nodup) (h' : m.Nodup) (e : ∀ a, a ∈ l ↔ a ∈ m) : l.length = m.length :=
  Nat.le_antisymm (nodup_sub_le h fun a ha => (e a).mp ha) (nodup_sub_le h' fun a ha => (e a).mpr ha)

/-! ### len(set(t)), t a tuple of tuples of whole numbers -/
def intA : D → Option Int
  | .int i => some i
  | _ => Option.none
def intsA : List D → Option (List Int)
  | [] => some []
  | d :: ds => match intA d, intsA ds with
    | some k, some ks => some (k :: ks)
    | _, _ => Option.none
def tupA : D → Option (List Int)
  | .tup ds => intsA ds
  | _ => Option.none
def tupsA : List D → Option (List (List Int))
  | [] => some []
  | d :: ds => match tupA d, tupsA ds with
    | some k, some ks => some (k :: ks)
    | _, _ => Option.none
theorem intsA_map {ds : List D} {ns : List Int} (h : intsA ds = some ns) : ds = ns.map D.int := by
  induction ds generalizing ns with
  | nil => cases h; rfl
  | cons d ds ih =>
    unfold intsA at h
    split at h
    · rename_i k ks e1 e2
      cases h
      rw [ih e2]
      cases d <;> simp [intA] at e1
      subst e1; rfl
    · cases h
theorem Reps.ints {g : Gs} {w : Wd} : ∀ {ns : List Int} {vs : List V}, Reps g w (ns.map D.int) vs → vs = ns.map V.int
  | [], vs, h => by simpa only [List.map_nil, Reps] using h
  | n :: ns, vs, h => by
    simp only [List.map_cons, Reps, Rep] at h
    obtain ⟨v, us, rfl, rfl, r⟩ := h
    rw [Reps.ints r]; rfl
theorem reps_ints (g : Gs) (w : Wd) : ∀ ns : List Int, Reps g w (ns.map D.int) (ns.map V.int)
  | [] => by simp only [List.map_nil, Reps]
  | n :: ns => by
    simp only [List.map_cons, Reps, Rep]
    exact ⟨_, _, rfl, rfl, reps_ints g w ns⟩
/-- tuples of whole numbers with their addresses -/
theorem Reps.tups {g : Gs} {w : Wd} : ∀ {ds : List D} {vs : List V} {ks : List (List Int)}, Reps g w ds vs → tupsA ds = some ks → ∃ ps : List (Addr × List Int), vs = ps.map (fun p => V.ref p.1) ∧ ks = ps.map (·.2) ∧ ∀ p ∈ ps, SqT g.K w.P p.1 (p.2.map V.int)
  | [], vs, ks, h, e => by
    simp only [Reps] at h
    cases e
    exact ⟨[], h, rfl, by simp⟩
  | d :: ds, vs, ks, h, e => by
    simp only [Reps] at h
    obtain ⟨v, us, rfl, r, rs⟩ := h
    unfold tupsA at e
    split at e
    · rename_i k ks' e1 e2
      cases e
      obtain ⟨ps, h1, h2, h3⟩ := Reps.tups rs e2
      cases d <;> simp [tupA] at e1
      rw [intsA_map e1] at r
      simp only [Rep] at r
      obtain ⟨a, vs, rfl, q, rr⟩ := r
      have ev := rr.ints
      refine ⟨(a, k) :: ps, by simp [h1], by simp [h2], fun p hp => ?_⟩
      rcases List.mem_cons.mp hp with rfl | hp
      · exact ev ▸ q.T
      · exact h3 p hp
    · cases e
def fLenSet : D → Bs → Rs D
  | .tup ds, B => match tupsA ds with
    | some ks => if ks.length < 64 then .ok (.int (dd ks).length) B else .bad
    | Option.none => .bad
  | _, _ => .bad
section
variable {g : Gs} {E : XK} {H0 : Hp} {X : Cx} {e : Expr} {m : Ev} {b1 : Bool} {p p2 q pos : Pos}
def tLS (K : PySem.W.Frag) (ta : TE) : TE := fun σ H Q => ta σ H fun x H1 => ∃ (l : Addr) (ps : List (Addr × List Int)), x = V.ref l ∧ SqT K H1 l (ps.map fun p => V.ref p.1) ∧ (∀ p ∈ ps, SqT K H1 p.1 (p.2.map V.int)) ∧ ps.length < 64 ∧ Q (.int (dd (ps.map (·.2))).length) H1
theorem pe_ls {ta : TE} (hu : X.A.units + 64 < cLine) (hc : X.calm = true) (hg : Gl X "len") (hm : X.mg "len" = none) (hg2 : Gl X "set") (hm2 : X.mg "set" = none) (ha : PE X e ta) (na : starEach [e] X.env = (false, eval e X.env) :: starEach [] X.env) :
    PE X (.Call (.Name "len" p) [.Call (.Name "set" p2) [e] [] q] [] pos) (tLS X.K ta) := by
  refine ⟨fun pins s σ H Q I h => ?_⟩
  refine Call_ (ld_blt I hg hm PySem.boot_len (PyProof.Rows.callWith_builtin1 (PyProof.Rows.args_cons ?_ rfl) rfl rfl))
  refine Call_ (ld_blt I hg2 hm2 PyProof.Rows.boot_set (PyProof.Rows.callWith_type1 (PyProof.Rows.args_cons (thn (ha.run pins s σ H _ I h) fun v s1 ⟨x, H1, I1, r1, q1⟩ => PyProof.Rows.args_nil ?_) na) na rfl))
  obtain ⟨l, ps, rfl, hq, hk, hf, q1⟩ := q1
  cases r1
  obtain ⟨its, rv, ⟨⟨cls, od, data, sl⟩, ho, hcl, n, hd⟩, hz⟩ := I1.tuple hq
  simp only at hcl hd
  subst hcl hd
  have hit : its = ps.map fun p => Value.ref p.1 := refs_of_vals rv
  have hh : X.A.handled = Option.none := I1.ok.hd hc
  have hlS : l < s1.heap.objs.size := Heap.lt_size ho
  have hz1 : (s1.heap.push (newSet X.w)).objs.size = s1.heap.objs.size + 1 := Heap.size_push ..
  have hS : (s1.heap.push (newSet X.w)).get? s1.heap.objs.size = some (newSet X.w) := Heap.get?_push_size _ rfl
  have hsz : its.toArray.size = ps.length := by rw [List.size_toArray, hit, List.length_map]
  refine set_of (P := X.prog) (w := X.w) (Fin := fun h => ∃ L es ep t, SetTR X.prog X.w h s1.heap.objs.size L es ep t ∧ Got ps ps.length L) ho sub_tuple_set sub_tuple_frozenset (by decide) (fun A' E' s2 Q' h1 h2 => wpAny_pyIter_tuple ⟨_, h1, rfl, _, rfl⟩ h2) (fun R hR => ?_) fun h' tk ⟨L, es, ep, t, hT, gt⟩ hk' => ?_
  · have Wk := (Walks.tuple (prog := X.prog) (w := X.w) (A := X.A.in1.in1.in1) (by simp [hh]) (s1.heap.push (newSet X.w)).objs.size l (Nat.ne_of_lt (by rw [hz1]; exact Nat.lt_succ_of_lt hlS)) its.toArray).toS
    refine set_update_tups Wk s1.heap.objs.size ?_ ps hsz hf (fun i v hv => ?_) s1.heap (fun p hp => I1.isT (hk p hp)) (heap_none (Nat.le_refl _)) (fun b hb => ?_) (by show X.A.units + 1 + 1 + 1 < cLine; omega) (its.toArray.size - 0) 0 _ (by omega) (Nat.zero_le _)
      ⟨⟨_, Heap.get?_push_size _ rfl, rfl, rfl⟩, ⟨_, Heap.get?_push_of_some _ (Heap.get?_push_of_some _ ho), rfl, _, rfl⟩⟩ (fun b o e => Heap.get?_push_of_some _ (Heap.get?_push_of_some _ e)) ⟨[], #[], 0, _, setTR_fresh (Heap.get?_push_of_some _ hS), Got.zero ps⟩ ?_
    · simp only [List.mem_cons, List.not_mem_nil, or_false, not_or]
      exact ⟨Nat.ne_of_lt (by rw [hz1]; exact Nat.lt_succ_self _), Nat.ne_of_gt hlS⟩
    · have q : its[i]? = some v := by simpa using hv
      rw [hit, List.getElem?_map] at q
      obtain ⟨p, e1, e2⟩ := Option.map_eq_some_iff.mp q
      exact ⟨p, e1, e2.symm⟩
    · rw [List.mem_singleton.mp hb]
      exact heap_none (by rw [hz1]; exact Nat.le_succ _)
    · rintro ⟨h', g2, d', tk', os'⟩ L es ep t hm' hT gt hkp
      have eg : g2 = s1.gens := hm'.gens
      have ed : d' = s1.drawn := hm'.drawn
      have eo : os' = s1.os := hm'.os
      subst eg ed eo
      rw [hsz] at gt
      exact hR h' tk' ⟨L, es, ep, t, hT, gt⟩ hkp
  · obtain ⟨o, ho', hex, hd'⟩ := hT.ob
    have I2 : Inv X pins σ H1 { s1 with heap := h', toks := tk } := I1.kept fun b o e => hk' b o e
    have hlen : es.size = (dd (ps.map (·.2))).length := by
      rw [SetTR.size (s := { s1 with heap := h', toks := tk }) hT, ← List.length_map (f := (·.2)) (as := L)]
      refine nodup_len hT.nd (nodup_dd _) fun k => ?_
      rw [mem_dd]
      constructor
      · intro hk2
        obtain ⟨p, hp, rfl⟩ := List.mem_map.mp hk2
        exact List.mem_map_of_mem (List.mem_of_mem_take (gt.sub p hp))
      · intro hk2
        obtain ⟨p, hp, rfl⟩ := List.mem_map.mp hk2
        exact gt.all p (by rw [List.take_length]; exact hp)
    have hle : es.size ≤ 64 := by rw [SetTR.size (s := { s1 with heap := h', toks := tk }) hT]; have := hT.few; omega
    refine PyProof.Rows.args_nil (call_len_set (s := { s1 with heap := h', toks := tk }) ho' hex hd' (SetTR.fits (s := { s1 with heap := h', toks := tk }) hT) (by omega) ⟨.int _, H1, I2.tok _, ⟨_, by rw [hlen]⟩, q1⟩)
theorem s_lenSet (ok : Ok g X) (ha : Snd g E H0 X b1 e m) (hg : Gl X "len" := by rfl) (hg2 : Gl X "set" := by rfl) (na : starEach [e] X.env = (false, eval e X.env) :: starEach [] X.env := by rfl) :
    Snd g E H0 X false (.Call (.Name "len" p) [.Call (.Name "set" p2) [e] [] q] [] pos) (m1 fLenSet m) := by
  refine weak (pe_ls (by have := ok.un; omega) ok.calm hg (nbs ok) hg2 (nbs ok) ha na) ?_
  rintro σ H Q ⟨w, σI, B, s, p⟩
  refine tI_bind s p fun d B1 w1 v H1 x1 s1 r1 p1 => ?_
  unfold fLenSet at p1
  split at p1
  · rename_i ds
    split at p1
    · rename_i ks hks
      split at p1
      · rename_i hl
        obtain ⟨a, vs, rfl, q1, r⟩ := r1.up.tup s1
        obtain ⟨ps, rfl, rfl, h3⟩ := Reps.tups r hks
        exact ⟨a, ps, rfl, ok.K ▸ q1, fun p hp => ok.K ▸ sqT_mono s1.rb.sub (h3 p hp), by simpa using hl, p1.nowR s1 (rep_int g w1 _)⟩
      · exact p1.elim
    · exact p1.elim
  · exact p1.elim
end
end Hf

set_option Elab.async false
set_option linter.all false
set_option maxRecDepth 100000
set_option maxHeartbeats 4000000
namespace Hf
open PySem PySem.Spec PyProof.Rows L2

/-! ### a < b < c as a test -/
section
variable {g : Gs} {E : XK} {H0 : Hp} {X : Cx} {a b c : Expr} {ma mb mc : Ev} {pos : Pos} {b1 b2 b3 bo : Bool} {op op' : CmpOp} {f f' : D → D → Bs → Rs D}
theorem chainT_at (P : Cmp g E H0 X op f) {w : Wd} {H : Hp} {σI : Sl} {σ : L2.St} {B : Bs} {Q : Bool → Hp → Prop} {x y : D} {k : Bool → Bs → Rs Bool} (p : PostT g E w H Q ((toB (f x y B)).bind k)) :
    PostE g E w H σI σ false (fun z H' => ∃ b w' B', z = .bl b ∧ Ext w H w' H' ∧ RB g w' B' H' ∧ PostT g E w' H' Q (k b B')) (f x y B) := by
  rcases P.bl x y B with e | ⟨b, B', e⟩
  · rw [e] at p; exact p.elim
  · rw [e] at p ⊢
    intro w' v H' x rb r
    simp only [RepB, Rep] at r
    exact ⟨b, w', B', r, x, rb, PostT.ext x p⟩
theorem t_chain (P : Cmp g E H0 X op f) (P' : Cmp g E H0 X op' f') (ha : Snd g E H0 X b1 a ma) (hb : Snd g E H0 X b2 b mb) (hc : Snd g E H0 X b3 c mc) (hm : lastMarks [op, op'] [b, c] = false := by with_unfolding_all rfl) :
    SndT g E H0 X (.Compare a [op, op'] [b, c] pos) (mChainT f f' ma mb mc) := by
  obtain ⟨r, h1, h2⟩ := id P.ex
  obtain ⟨r', h1', h2'⟩ := id P'.ex
  refine weakT (pt_chain h1 h1' ha hb hc hm) ?_
  rintro σ H Q ⟨w, σI, B, s, p⟩
  refine tI_bindT s p fun d B1 w1 v H1 x1 s1 r1 p1 => ?_
  refine tI_bindT s1 p1 fun d2 B2 w2 v2 H2 x2 s2 r2 p2 => ?_
  refine h2 w2 σI B2 σ H2 _ v v2 d d2 s2 (r1.up.mono x2.le) r2.up ?_
  have p3 := chainT_at (σI := σI) (σ := σ) P p2
  revert p3
  generalize hm : f d d2 B2 = m
  intro p3
  cases m with
  | bad => exact p3
  | exc _ _ _ => exact p3
  | ok e B3 =>
    intro w' v' H' x rb rr
    obtain ⟨k, w3, B4, rfl, x3, rb3, p4⟩ := p3 w' v' H' x rb rr
    refine ⟨k, rfl, ?_⟩
    have s3 := s2.step x3 rb3
    cases k with
    | false => exact ⟨false, rfl, p4 w3 H' (Ext.refl _ _) rb3⟩
    | true =>
      refine tI_bindT s3 p4 fun d5 B5 w5 v5 H5 x5 s5 r5 p5 => ?_
      exact h2' w5 σI B5 σ H5 _ v2 v5 d2 d5 s5 (r2.up.mono (x3.le.trans x5.le)) r5.up (cmp_end P' p5)
end

/-! ### all, any, sum, max, min of a list -/
def boolA : D → Option Bool
  | .bool i => some i
  | _ => Option.none
def boolsA : List D → Option (List Bool)
  | [] => some []
  | d :: ds => match boolA d, boolsA ds with
    | some k, some ks => some (k :: ks)
    | _, _ => Option.none
theorem boolsA_map {ds : List D} {ns : List Bool} (h : boolsA ds = some ns) : ds = ns.map D.bool := by
  induction ds generalizing ns with
  | nil => cases h; rfl
  | cons d ds ih =>
    unfold boolsA at h
    split at h
    · rename_i k ks e1 e2
      cases h
      rw [ih e2]
      cases d <;> simp [boolA] at e1
      subst e1; rfl
    · cases h
theorem Reps.bools {g : Gs} {w : Wd} : ∀ {ns : List Bool} {vs : List V}, Reps g w (ns.map D.bool) vs → vs = ns.map V.bl
  | [], vs, h => by simpa only [List.map_nil, Reps] using h
  | n :: ns, vs, h => by
    simp only [List.map_cons, Reps, Rep] at h
    obtain ⟨v, us, rfl, rfl, r⟩ := h
    rw [Reps.bools r]; rfl
def fAll : D → Bs → Rs D
  | .lst ds, B => match boolsA ds with
    | some bs => .ok (.bool (bs.all id)) B
    | Option.none => .bad
  | _, _ => .bad
def maxL : List Int → Int
  | [] => 0
  | [x] => x
  | x :: y :: r => if x ≤ maxL (y :: r) then maxL (y :: r) else x
theorem maxL_ge : ∀ {l : List Int} {y : Int}, y ∈ l → y ≤ maxL l
  | [x], y, h => by simp at h; subst h; exact Int.le_refl _
  | x :: z :: r, y, h => by
    unfold maxL
    rcases List.mem_cons.mp h with rfl | h
    · split
      · assumption
      · exact Int.le_refl _
    · have := maxL_ge h
      split <;> omega
theorem maxL_mem : ∀ {l : List Int}, l ≠ [] → maxL l ∈ l
  | [x], _ => by simp [maxL]
  | x :: y :: r, _ => by
    unfold maxL
    split
    · exact List.mem_cons_of_mem _ (maxL_mem (by simp))
    · exact List.mem_cons_self
def fMax1 : D → Bs → Rs D
  | .lst ds, B => match intsA ds with
    | some (b :: bs) => .ok (.int (maxL (b :: bs))) B
    | _ => .bad
  | _, _ => .bad
section
variable {g : Gs} {E : XK} {H0 : Hp} {X : Cx}
theorem o_all (c : Ok g X) : One g E H0 X (.builtin "all") fAll := ⟨_, cr_all c.calm, fun w σI B σ H Q x d s r p => by
  unfold fAll at p
  split at p
  · split at p
    · rename_i bs hb
      rw [boolsA_map hb] at r
      obtain ⟨a, vs, rfl, q, r⟩ := r.lst s
      rw [r.bools] at q
      exact ⟨a, bs, rfl, .inl (.inl q), p.nowR s (rep_bool g w _)⟩
    · exact p.elim
  · exact p.elim⟩
theorem o_max1 (c : Ok g X) : One g E H0 X (.builtin "max") fMax1 := ⟨_, cr_max c.calm, fun w σI B σ H Q x d s r p => by
  unfold fMax1 at p
  split at p
  · split at p
    · rename_i b bs hb
      rw [intsA_map hb] at r
      obtain ⟨a, vs, rfl, q, r⟩ := r.lst s
      rw [r.ints] at q
      refine ⟨a, b :: bs, rfl, .inl (.inl q), by simp, fun m h1 h2 => ?_⟩
      have e : m = maxL (b :: bs) := Int.le_antisymm (maxL_ge h1) (h2 _ (maxL_mem (by simp)))
      rw [e]
      exact p.nowR s (rep_int g w _)
    · exact p.elim
  · exact p.elim⟩
end

/-! ### sorted(a list or a tuple of whole numbers) -/
def ins (x : Int) : List Int → List Int
  | [] => [x]
  | y :: r => if x ≤ y then x :: y :: r else y :: ins x r
section
variable {prog : Program} {w : World} {A : Around} {E : Value → Shared → Prop} {s : Shared}
end
section
variable {g : Gs} {E : XK} {H0 : Hp} {X : Cx}
end
end Hf

set_option Elab.async false
set_option linter.all false
set_option maxRecDepth 100000
set_option maxHeartbeats 4000000
namespace Hf
open PySem PySem.Spec PyProof.Rows L2 HT

/-! ### texts: join, split, a constant tuple's index -/
section
variable {g : Gs} {E : XK} {w0 w : Wd} {H0 H : Hp} {X : Cx} {o e a b : Expr} {mo me m ma mb : Ev} {pos p p1 p2 p3 apos cpos : Pos} {x : Str} {σI : Sl} {σ : L2.St} {B : Bs} {Q : VK} {b1 b2 bo : Bool}
/-! ### list(range(..)), tuple(range(..)) -/
end

/-! ### xs[::-1], t[:0:-1] -/
theorem pick_back (l : List Value) : ∀ k, k ≤ l.length → (List.range k).filterMap (fun m => l[l.length - 1 - m]?) = (l.drop (l.length - k)).reverse
  | 0, _ => by simp
  | k + 1, h => by
    rw [List.range_succ, List.filterMap_append, pick_back l k (by omega)]
    have hlt : l.length - (k + 1) < l.length := by omega
    have e : l.length - (k + 1) = l.length - 1 - k := by omega
    rw [List.drop_eq_getElem_cons hlt, List.reverse_cons]
    have e2 : l.length - (k + 1) + 1 = l.length - k := by omega
    rw [e2]
    congr 1
    simp only [List.filterMap_cons, List.filterMap_nil]
    rw [← e, List.getElem?_eq_getElem hlt]
theorem fm_congr {α β : Type} {f h : α → Option β} : ∀ {l : List α}, (∀ a ∈ l, f a = h a) → l.filterMap f = l.filterMap h
  | [], _ => rfl
  | a :: l, e => by
    rw [List.filterMap_cons, List.filterMap_cons, e a List.mem_cons_self, fm_congr fun b hb => e b (List.mem_cons_of_mem _ hb)]
/-- how many of the first are left out -/
def bk : Option Int → Nat
  | Option.none => 0
  | some _ => 1
section
variable {prog : Program} {w : World} {A : Around} {E : Value → Shared → Prop} {s : Shared}
theorem adjust_back {hi : Option Int} (n : Nat) (h : hi = none ∨ hi = some 0) : ∃ j, Builtin.Slice.sliceAdjust none hi (-1) (n : Int) = ((n : Int) - 1, j) ∧ Builtin.Slice.slicePlaces ((n : Int) - 1) j (-1) = n - bk hi := by
  rcases h with rfl | rfl
  · refine ⟨-1, rfl, ?_⟩
    show (if (n : Int) - 1 > -1 then ((n : Int) - 1 - -1 - 1) / (- -1) + 1 else 0).toNat = n - 0
    rw [show (- -1 : Int) = 1 by decide, Int.ediv_one]
    split <;> omega
  · refine ⟨min 0 ((n : Int) - 1), rfl, ?_⟩
    show (if (n : Int) - 1 > min 0 ((n : Int) - 1) then ((n : Int) - 1 - min 0 ((n : Int) - 1) - 1) / (- -1) + 1 else 0).toNat = n - 1
    rw [show (- -1 : Int) = 1 by decide, Int.ediv_one]
    split <;> omega
theorem sliceApplied_back {sl : Addr} {vl vu vs : Value} {hi : Option Int} {n : Nat} {Q : Int × Int × Nat → Shared → Prop} (hs : s.heap.IsSliceOf sl vl vu vs) (pl : IsPart vl none) (pu : IsPart vu hi) (ps : IsPart vs (some (-1))) (hh : hi = none ∨ hi = some 0)
    (h : Q ((n : Int) - 1, -1, n - bk hi) s) : wpAny (model prog w) A (Builtin.Slice.sliceApplied (.ref sl) (pure (n : Int))) Q E s := by
  obtain ⟨os, hos, hcs, hds⟩ := id hs
  obtain ⟨j, e1, e2⟩ := adjust_back n hh
  unfold Builtin.Slice.sliceApplied Builtin.Slice.sliceFields
  refine wpAny_bind (wpAny_bind (wpAny_field hos hds (x := vl) rfl (wpAny_bind (wpAny_field hos hds (x := vu) rfl (wpAny_bind (wpAny_field hos hds (x := vs) rfl (wpAny_pure ?_)))))))
  refine wpAny_bind (slicePart_ ps ?_)
  show wpAny _ _ (if ((-1 : Int) == 0) = true then _ else _) _ _ s
  rw [if_neg (by decide)]
  refine wpAny_bind (slicePart_ pl (wpAny_bind (slicePart_ pu (wpAny_bind (wpAny_pure ?_)))))
  show wpAny _ _ (match Builtin.Slice.sliceAdjust none hi (-1) (n : Int) with | (lo, hi) => pure (lo, (-1 : Int), Builtin.Slice.slicePlaces lo hi (-1))) _ _ s
  rw [e1]
  show wpAny _ _ (pure (((n : Int) - 1), (-1 : Int), Builtin.Slice.slicePlaces ((n : Int) - 1) j (-1))) _ _ s
  rw [e2]
  exact wpAny_pure h
theorem getItem_tuple_back {t sl : Addr} {items : Array Value} {vl vu vs : Value} {hi : Option Int} {Q : Value → Shared → Prop} (ht : IsTup s.heap t items) (hs : s.heap.IsSliceOf sl vl vu vs) (pl : IsPart vl none) (pu : IsPart vu hi) (ps : IsPart vs (some (-1))) (hh : hi = none ∨ hi = some 0)
    (h : Q (.ref s.heap.objs.size) { s with heap := s.heap.push { cls := .type "tuple", data := .seq (items.toList.drop (bk hi)).reverse.toArray } })
    (hsz : items.size ≤ sizeLine) : wpAny (model prog w) A (getItem (.ref t) (.ref sl)) Q E s := by
  have htake : sizeOk (.seq (items.toList.drop (bk hi)).reverse.toArray) := by
    show (items.toList.drop (bk hi)).reverse.toArray.size ≤ sizeLine
    rw [List.size_toArray, List.length_reverse, List.length_drop, Array.length_toList]
    omega
  obtain ⟨os, hos, hcs, hds⟩ := id hs
  have hTs : s.TypeIs (.ref sl) "slice" := ⟨os, hos, hcs⟩
  unfold getItem
  try with_reducible refine wpAny_holding ?_
  first | refine wpAny_bind (wpAny_pure ?_) | skip
  refine wpAny_bind (wpAny_sequenceKey ht.typeIs (by decide) ?_)
  refine wpAny_bind (wpAny_callSpecial?_slot (name := Str.ofString "__getitem__") ht.typeIs PyProof.Rows.slot_tuple_getitem
    (wpAny_call_entry PyProof.Rows.slot_tuple_getitem ht.typeIs entry_tuple_getitem ?_ (args_tuple_getitem _ _)))
  show wpAny _ _ (Builtin.Tuple.tupleItemsOf (.ref t) >>= _) _ _ s
  refine wpAny_bind (tupleItemsOf_ ht ?_)
  refine wpAny_bind (wpAny_typeOf hTs ?_)
  rw [if_pos (by decide)]
  refine wpAny_bind (sliceApplied_back hs pl pu ps hh ?_)
  have hno : ¬ (((((items.size : Nat) : Int) - 1) == 0 && (-1 : Int) == 1 && (items.size - bk hi) == items.size) = true) := by
    intro q
    rw [Bool.and_eq_true, Bool.and_eq_true] at q
    exact absurd q.1.2 (by decide)
  show wpAny _ _ (if ((((items.size : Nat) : Int) - 1) == 0 && (-1 : Int) == 1 && (items.size - bk hi) == items.size) = true then _ else _) _ _ s
  rw [if_neg hno]
  have hb : bk hi ≤ 1 := by rcases hh with rfl | rfl <;> simp [bk]
  have pk : ((List.range (items.size - bk hi)).filterMap fun (m : Nat) => items[(((items.size : Nat) : Int) - 1 + (m : Int) * -1).toNat]?).toArray = (items.toList.drop (bk hi)).reverse.toArray := by
    congr 1
    have h1 := pick_back items.toList (items.size - bk hi) (by rw [Array.length_toList]; omega)
    by_cases hz : items.size = 0
    · have e0 : items.size - bk hi = 0 := by omega
      rw [e0]
      have : items.toList = [] := List.eq_nil_of_length_eq_zero (by rw [Array.length_toList]; exact hz)
      rw [this]; simp
    · rw [Array.length_toList] at h1
      have e3 : items.size - (items.size - bk hi) = bk hi := by omega
      rw [e3] at h1
      rw [← h1]
      refine fm_congr fun m hm => ?_
      have hm' := List.mem_range.mp hm
      have e4 : (((items.size : Nat) : Int) - 1 + (m : Int) * -1).toNat = items.size - 1 - m := by omega
      rw [e4, Array.getElem?_toList]
  rw [pk]
  first
    | exact wpAny_bind (m := Builtin.Tuple.tupleExact _) (wpAny_newObj_type (wpAny_pure ⟨_, rfl, wpAny_pure h⟩) htake)
    | exact wpAny_bind (m := Builtin.Tuple.tupleExact _) (wpAny_newObj_type (wpAny_bind (wpAny_pure (wpAny_pure ⟨_, rfl, wpAny_pure h⟩))) htake)
    | exact wpAny_bind (wpAny_bind (m := Builtin.Tuple.tupleExact _) (wpAny_newObj_type (wpAny_pure (wpAny_pure ⟨_, rfl, wpAny_pure h⟩)) htake))
    | exact wpAny_bind (wpAny_bind (m := Builtin.Tuple.tupleExact _) (wpAny_newObj_type (wpAny_pure ⟨_, rfl, wpAny_pure h⟩) htake))
end
section
variable {g : Gs} {E : XK} {w0 w : Wd} {H0 H : Hp} {X : Cx} {e : Expr} {m : Ev} {pos p1 p2 p3 p4 : Pos} {B : Bs} {b1 : Bool} {hi : Option Expr} {kc : Nat}
/-- a text the other way about -/
def backS (z : Str) : Str := ⟨((Builtin.Str.strSliceIndices none none (-1) z.length).filterMap (z.cps[·]?)).toArray⟩
theorem backS_len (z : Str) : (backS z).length ≤ z.length := by
  show (List.filterMap _ _).toArray.size ≤ _
  rw [List.size_toArray]
  exact Nat.le_trans (List.length_filterMap_le _ _) (PySem.sliceIndicesBy_le _ _ _ (by decide) z.length)
def rBk (K : PySem.W.Frag) : V → Option Int → Hp → VK → Prop := fun x o H Q => (∃ a xs, x = .ref a ∧ ((o = none ∧ SqL K H a xs ∧ ∀ p, H p = none → Q (.ref p) (upd H p (.lst xs.reverse))) ∨ ((o = none ∨ o = some 0) ∧ SqT K H a xs ∧ ∀ p (ob : Obj), H p = none → ob.dict = none → Q (.ref p) (upd H p (.frz ob (.tup (xs.drop (bk o)).reverse))))))
  ∨ (∃ z, x = .str z ∧ z.length ≤ sizeLine ∧ o = none ∧ Q (.str (backS z)) H)
def tBk (K : PySem.W.Frag) (te : TE) (th : TO) : TE := fun σ H Q => te σ H fun x H1 => th σ H1 fun o H2 => rBk K x o H2 Q
theorem pe_bk {te : TE} {th : TO} (he : PE X e te) (hh : PO X hi th) : PE X (.Subscript e (.Slice none hi (some (.UnaryOp .USub (.Constant (.int 1) kc p1) p2)) p3) pos) (tBk X.K te th) := by
  refine ⟨fun pins s σ H Q I h => ?_⟩
  refine Subscript_ (thn (he.run pins s σ H _ I h) fun v s1 ⟨x, H1, I1, r1, q1⟩ => ?_)
  have hst : PO X (some (.UnaryOp .USub (.Constant (.int 1) kc p1) p2)) (tPart (tUn (rU fun i => .int (-i)) (tC (.int 1)))) := po_some (pe_un un_neg pe_int)
  refine wpAny_Slice (thn (po_none.run pins s1 σ H1 (fun o H2 => o = none ∧ H2 = H1) I1 ⟨rfl, rfl⟩) fun vl s2 ⟨l, H2, I2, pl, el, e2⟩ => ?_)
  subst el e2
  refine thn (hh.run pins s2 σ H2 _ I2 q1) fun vu s3 ⟨u, H3, I3, pu, q3⟩ => ?_
  refine thn (hst.run pins s3 σ H3 (fun o H4 => o = some (-1) ∧ H4 = H3) I3 ⟨1, rfl, -1, rfl, rfl, rfl⟩) fun vs s4 ⟨o, H4, I4, ps, eo, e4⟩ => ?_
  subst eo e4
  have I5 : Inv X pins σ H4 { s4 with heap := s4.heap.push { cls := .type "slice", data := .fields #[vl, vu, vs] } } := I4.kept (t' := s4.toks) fun b ob q => Heap.get?_push_of_some _ q
  have I5' : Inv X pins σ H4 { s4 with heap := s4.heap.push { cls := .type "slice", data := .fields #[vl, vu, vs] } } := I4.kept (t' := s4.toks) fun b ob q => Heap.get?_push_of_some _ q
  rcases q3 with ⟨a, xs, rfl, q⟩ | ⟨z, rfl, hz, rfl, q⟩
  rotate_left
  · obtain ⟨t, rfl⟩ := r1
    obtain ⟨l, rfl, el⟩ := IsPart.raw pl
    obtain ⟨u', rfl, eu⟩ := IsPart.raw pu
    obtain ⟨k, rfl, ek⟩ := IsPart.raw ps
    have e1 : l = none := by cases l <;> simp_all
    have e2 : u' = none := by cases u' <;> simp_all
    subst e1 e2
    cases k with
    | none => cases ek
    | some k =>
      obtain ⟨k, tk⟩ := k
      have ek : k = -1 := by simpa using ek
      subst ek
      show wpAny (model X.prog X.w) X.A (subscriptTail e (.Slice none hi (some (.UnaryOp .USub (.Constant (.int 1) kc p1) p2)) p3) (.str z t) (.ref s4.heap.objs.size)) (EP X pins σ Q) X.xe { s4 with heap := s4.heap.push { cls := .type "slice", data := .fields #[.none, .none, .int (-1) tk] } }
      refine tail_any (ops := [.ref s4.heap.objs.size, .str z t]) (typeIs_str _ z t) F.slot_str_getitem.lookup ?_ (by with_unfolding_all rfl)
      refine wpAny_getItem_str_slice (l := none) (u := none) (st := some (-1, tk)) ⟨_, Heap.get?_push_size _ rfl, rfl, rfl⟩ rfl ?_
      exact ⟨Nat.le_trans (backS_len z) hz, .str _, H4, I5'.tok _, ⟨_, rfl⟩, q⟩
  cases r1
  rcases q with ⟨rfl, hx, q⟩ | ⟨ho, hx, q⟩
  · obtain ⟨its, r, ht, hz⟩ := I5.list hx
    have hlen := r.length
    show wpAny (model X.prog X.w) X.A (subscriptTail e (.Slice none hi (some (.UnaryOp .USub (.Constant (.int 1) kc p1) p2)) p3) (.ref a) (.ref s4.heap.objs.size)) (EP X pins σ Q) X.xe { s4 with heap := s4.heap.push { cls := .type "slice", data := .fields #[vl, vu, vs] } }
    refine tail_any (ops := [.ref a, .ref s4.heap.objs.size]) ht.isList.typeIs (PySem.slot_list_getitem.lookup) ?_ (by with_unfolding_all rfl)
    refine wpAny_getItem_list_slice ht.isList (Heap.IsSliceOf.new _ vl vu vs) pl pu ps (by decide) ?_ (by rw [List.size_toArray]; omega)
    rw [PySem.W.krv_pick]
    refine ⟨.ref _, _, I5.laid (t' := s4.toks) (o := .lst xs.reverse) (fun b ob q => Heap.get?_push_of_some _ q) (Nat.le_refl _) ?_, rfl, q _ (I5.hok.fresh (Nat.le_refl _))⟩
    exact ⟨by rw [List.length_reverse]; exact hz, _, 0, r.reverse, Heap.get?_push_size _ rfl⟩
  · obtain ⟨its, r, ht, hz⟩ := I5.tuple hx
    have hlen := r.length
    show wpAny (model X.prog X.w) X.A (subscriptTail e (.Slice none hi (some (.UnaryOp .USub (.Constant (.int 1) kc p1) p2)) p3) (.ref a) (.ref s4.heap.objs.size)) (EP X pins σ Q) X.xe { s4 with heap := s4.heap.push { cls := .type "slice", data := .fields #[vl, vu, vs] } }
    refine tail_any (ops := [.ref a, .ref s4.heap.objs.size]) ht.typeIs (PyProof.Rows.slot_tuple_getitem.lookup) ?_ (by with_unfolding_all rfl)
    refine getItem_tuple_back ht (Heap.IsSliceOf.new _ vl vu vs) pl pu ps ho ?_ (by rw [List.size_toArray]; omega)
    exact ⟨.ref _, upd H4 _ _, I5.laid (t' := s4.toks) (o := .frz { cls := .type "tuple", data := .seq (its.drop (bk u)).reverse.toArray } (.tup (xs.drop (bk u)).reverse)) (fun c oc qc => Heap.get?_push_of_some _ qc) (Nat.le_refl _)
      (frz_tup (by rw [List.length_reverse, List.length_drop]; omega) (r.drop (bk u)).reverse (Heap.get?_push_size _ rfl)), rfl, q _ _ (I5.hok.fresh (Nat.le_refl _)) rfl⟩
def fRev : D → Bs → Rs D
  | .lst ds, B => .ok (.lst ds.reverse) B
  | .tup ds, B => .ok (.tup ds.reverse) B
  | .str z, B => if z.length ≤ sizeLine then .ok (.str (backS z)) B else .bad
  | _, _ => .bad
theorem Reps.reverse {g : Gs} {w : Wd} : ∀ {ds : List D} {vs : List V}, Reps g w ds vs → Reps g w ds.reverse vs.reverse
  | [], vs, h => by simp only [Reps] at h; subst h; simp [Reps]
  | d :: ds, vs, h => by
    simp only [Reps] at h
    obtain ⟨v, us, rfl, r, rs⟩ := h
    rw [List.reverse_cons, List.reverse_cons]
    exact Reps.app (Reps.reverse rs) (Reps.one r)
theorem s_rev (ok : Ok g X) (he : Snd g E H0 X b1 e m) : Snd g E H0 X false (.Subscript e (.Slice none none (some (.UnaryOp .USub (.Constant (.int 1) kc p1) p2)) p3) pos) (m1 fRev m) := by
  refine weak (pe_bk he po_none) ?_
  rintro σ H Q ⟨w, σI, B, s, p⟩
  refine tI_bind s p fun d B1 w1 v H1 x1 s1 r1 p1 => ?_
  unfold fRev at p1
  split at p1
  · obtain ⟨a, vs, rfl, q, r⟩ := r1.up.lst s1
    exact .inl ⟨a, vs, rfl, .inl ⟨rfl, .inl (.inl q), fun l hl => p1.newL s1 r.reverse hl⟩⟩
  · obtain ⟨a, vs, rfl, q, r⟩ := r1.up.tup s1
    exact .inl ⟨a, vs, rfl, .inr ⟨.inl rfl, ok.K ▸ q, fun l ob hl ho => p1.newT s1 (by simpa [bk] using r.reverse) hl ho⟩⟩
  · split at p1
    · rename_i hz
      exact .inr ⟨_, r1.up.str s1, hz, rfl, p1.nowR s1 (rep_str g w1 _)⟩
    · exact p1.elim
  · exact p1.elim
end
end Hf

set_option Elab.async false
set_option linter.all false
set_option maxRecDepth 100000
set_option maxHeartbeats 4000000
namespace Hf
open PySem PySem.Spec PyProof.Rows L2

/-! ### enumerate, zip -/
section
variable {X : Cx} {pins : List (Addr × Obj)} {σ : L2.St} {H : Hp} {s : Shared}
theorem Sk.At.inj (I : Inv X pins σ H s) {k : Sk} {xs ys : List V} (h : k.At X.K H xs) (h' : k.At X.K H ys) : xs = ys := by
  cases k with
  | l a => exact I.list_inj h h'
  | t a => exact I.tuple_inj h h'
  | s x =>
    have h : xs = chV x := h
    have h' : ys = chV x := h'
    rw [h, h']
end
theorem turn_gen {P : Program} {w : World} {K : PySem.W.Frag} {tg : Expr} {J : It} {fp : List Addr} {it : Addr} {tn : Nat → Heap → Prop} (mem : it ∈ fp)
    (obj : ∀ i h, tn i h → ∀ b ∈ fp, ∃ o, h.get? b = some o ∧ ∀ v, o.data ≠ .cell v) (keep : ∀ i h h', tn i h → (∀ b ∈ fp, ∀ o, h.get? b = some o → h'.get? b = some o) → tn i h')
    (self : ∀ (A : Around) (i : Nat) (s : Shared) (Q : Value → Shared → Prop) (E : Value → Shared → Prop), tn i s.heap → Q (.ref it) s → wpAny (model P w) A (pyIter (.ref it)) Q E s)
    (step : ∀ (X : Cx), X.prog = P → X.w = w → X.K = K → X.calm = true → ∀ (i : Nat) (pins : List (Addr × Obj)) (s : Shared) (σ : L2.St) (H : Hp), Inv X pins σ H s → (∀ b ∈ fp, FpOk X pins H b) → tn i s.heap → J.go i H →
      ∃ (fq wr : List Addr) (n : Nat) (Y : Nat → Heap → Value → Heap → Prop) (St : Nat → Heap → Prop), GoesN P w X.A tg it fq wr n Y St ∧ (∀ b ∈ wr, b ∈ fp) ∧ i < n ∧ St i s.heap ∧ (∀ h', St (i + 1) h' → tn (i + 1) h') ∧
        ∀ v h, Y i s.heap v h → ∃ (T : Addr) (xs : List V) (us : List Value), v = .ref T ∧ s.heap.objs.size ≤ T ∧ Vals xs us ∧ h.IsTuple T us.toArray ∧ xs.length ≤ sizeLine ∧ (H T = none → J.yld i H (.ref T) (upd H T (.tup xs))))
    (stop : ∀ (X : Cx), X.prog = P → X.w = w → X.K = K → X.calm = true → ∀ (i : Nat) (pins : List (Addr × Obj)) (s : Shared) (σ : L2.St) (H : Hp), Inv X pins σ H s → (∀ b ∈ fp, FpOk X pins H b) → tn i s.heap → J.stop i H →
      ∃ (fq wr : List Addr) (Y : Nat → Heap → Value → Heap → Prop) (St : Nat → Heap → Prop), GoesN P w X.A tg it fq wr i Y St ∧ (∀ b ∈ wr, b ∈ fp) ∧ St i s.heap) :
    Turn P w K tg J fp it tn where
  mem := mem
  obj := obj
  keep := keep
  self := self
  item := by
    intro X hP hw hK hc i pins s σ H E I hf st hg
    obtain ⟨fq, wr, n, Y, St, W, hwr, hi, hst, hnx, hY⟩ := step X hP hw hK hc i pins s σ H I hf st hg
    refine W.goes i s (fun u s2 => ∃ x H', Inv X pins σ H' s2 ∧ RelV x u ∧ J.yld i H x H' ∧ tn (i + 1) s2.heap ∧ ∀ b ∈ fp, H' b = none) E hi hst fun v h' tk y st' hk htk => ?_
    obtain ⟨T, xs, us, rfl, hT, rv, ht, hz, jy⟩ := hY v h' y
    have hn : H T = none := I.hok.fresh hT
    have new : ObjOk X.prog X.w (upd H T (.tup xs)) h' T (.tup xs) := ⟨hz, us, rv, ht⟩
    subst hP hw
    refine ⟨.ref T, _, I.turnedNew (t' := tk) (ch := fp) (fun b o hb q => hk b o (fun z => hb (hwr b z)) q) hf hT new, rfl, jy hn, hnx _ st', fun b hb => ?_⟩
    obtain ⟨o, e, _⟩ := obj i _ st b hb
    rw [upd_ne (Nat.ne_of_lt (Nat.lt_of_lt_of_le (Heap.lt_size e) hT))]
    exact (hf b hb).1
  done := by
    intro X hP hw hK hc i pins s σ H E I hf st hg
    obtain ⟨fq, wr, Y, St, W, hwr, hst⟩ := stop X hP hw hK hc i pins s σ H I hf st hg
    refine wpAny_mono (W.stops s (fun s1 => Inv X pins σ H s1) E hst fun h' tk hk htk => ?_) (fun r s1 h1 => h1) fun _ _ h => h
    exact I.turnedL (t' := tk) (ch := fp) (fun b o hb q => hk b o (fun z => hb (hwr b z)) q) hf
/-- enumerate(source) -/
def ItE (K : PySem.W.Frag) (k : Sk) : It := ⟨fun i H => ∃ xs, k.At K H xs ∧ i < xs.length, fun i H v H' => ∃ T x, v = .ref T ∧ H T = none ∧ H' = upd H T (.tup [.int (i : Nat), x]) ∧ ∀ xs, k.At K H xs → xs[i]? = some x, fun i H => ∃ xs, k.At K H xs ∧ i = xs.length⟩
theorem turn_enumS {P : Program} {w : World} {K : PySem.W.Frag} {elts : List Expr} {kk : Nat} {tpos : Pos} (k : Sk) (e it : Addr) (hei : e ≠ it) :
    Turn P w K (.Tuple elts kk tpos) (ItE K k) [e, it] e (fun i h => (∃ old, IsEnum h e it (0 + ((i : Nat) : Int)) old) ∧ k.St it i h) := by
  refine turn_gen (by simp) (fun i h st b hb => ?_) (fun i h h' st kp => ?_) (fun A i s Q E st h => ?_) (fun X hP hw hK hc i pins s σ H I hf st hg => ?_) fun X hP hw hK hc i pins s σ H I hf st hg => ?_
  · obtain ⟨⟨old, he⟩, st2⟩ := st
    simp only [List.mem_cons, List.not_mem_nil, or_false] at hb
    rcases hb with rfl | rfl
    · exact ⟨_, he, fun v q => nomatch q⟩
    · exact st2.obj
  · obtain ⟨⟨old, he⟩, st2⟩ := st
    exact ⟨⟨old, kp e (by simp) _ he⟩, st2.at fun o q => kp it (by simp) o q⟩
  · obtain ⟨⟨old, he⟩, st2⟩ := st
    exact wpAny_pyIter_enum he h
  · subst hP hw hK
    obtain ⟨he, st2⟩ := st
    obtain ⟨xs, hx, hi⟩ := hg
    obtain ⟨fq, n, Pd, St, D, rfl, sd, sb, vd, fd⟩ := Sk.draws I hx st2 X.A.in1 (I.ok.hd hc) (hf it (by simp))
    refine ⟨_, _, _, _, _, GoesN.enumFrom 0 D e hei (fun hm => ?_) (by simp), fun b hb => by simpa using hb, hi, ⟨he, sd⟩, fun h' q => ⟨q.1, sb _ _ q.2⟩, fun v h y => ?_⟩
    · rcases List.mem_cons.mp hm with q | q
      · exact hei q
      · exact src_ne I (hf e (by simp)) (fd e q) rfl
    · obtain ⟨T, t, u, rfl, hT, hP, ht⟩ := y
      obtain ⟨x, h1, h2⟩ := vd i u hP
      refine ⟨T, [.int (i : Nat), x], [.int (0 + (i : Int)) t, u], rfl, hT, .cons ⟨t, by simp⟩ (.cons h2 .nil), ht, by show 2 ≤ sizeLine; decide, fun hn => ⟨T, x, rfl, hn, rfl, fun ys hy => ?_⟩⟩
      rw [Sk.At.inj I hy hx]; exact h1
  · subst hP hw hK
    obtain ⟨he, st2⟩ := st
    obtain ⟨xs, hx, rfl⟩ := hg
    obtain ⟨fq, n, Pd, St, D, rfl, sd, sb, vd, fd⟩ := Sk.draws I hx st2 X.A.in1 (I.ok.hd hc) (hf it (by simp))
    refine ⟨_, _, _, _, GoesN.enumFrom 0 D e hei (fun hm => ?_) (by simp), fun b hb => by simpa using hb, ⟨he, sd⟩⟩
    rcases List.mem_cons.mp hm with q | q
    · exact hei q
    · exact src_ne I (hf e (by simp)) (fd e q) rfl
theorem meets_enumerate_one {v : Value} {o : Obj} {H : Heap → Prop} (B : Begins v o H) :
    Meets (Builtin.«enumerate.__new__» ⟨[.type "enumerate", v], []⟩) (fun _ R s => H s.heap ∧
      R (.ok (.ret (.ref (s.heap.push o).objs.size))) { s with heap := (s.heap.push o).push { cls := .type "enumerate", data := .fields #[.none, .bool false, .ref s.heap.objs.size, rawInt 0, .none, .none] } }) :=
  .of_wp fun prog w A R s h => by
    obtain ⟨hp, g, d, tk, os⟩ := s; obtain ⟨h1, h⟩ := h
    have hsub := sub_enumerate
    have q1 : ∀ {A' : Around} {E : Value → Shared → Prop} {Q : Value → Shared → Prop}, Q (.ref hp.objs.size) ⟨hp.push o, g, d, tk, os⟩ → wpAny (model prog w) A' (pyIter v) Q E ⟨hp, g, d, tk, os⟩ :=
      fun q => B.iter prog w _ _ ⟨hp, g, d, tk, os⟩ _ h1 q
    wp_walk using q1
    refine wpAny_stack_any fun st => wpAny_pure ?_
    split
    · rename_i c _ _ _ _ _
      cases (c == Value.type "enumerate")
      · wp_walk using q1
        exact ⟨_, rfl, h⟩
      · wp_walk using q1
        exact ⟨_, rfl, h⟩
    · wp_walk using q1
      exact ⟨_, rfl, h⟩
section
variable {prog : Program} {w : World} {A : Around} {E : Value → Shared → Prop} {s : Shared}
theorem enum_begins1 {v : Value} {o : Obj} {H : Heap → Prop} {Q : Value → Shared → Prop} (B : Begins v o H) (h1 : H s.heap)
    (h : ∀ h', IsEnum h' (s.heap.objs.size + 1) s.heap.objs.size 0 .none → h'.get? s.heap.objs.size = some o →
      (∀ b o, s.heap.get? b = some o → h'.get? b = some o) → Q (.ref (s.heap.objs.size + 1)) { s with heap := h' }) :
    wpAny (model prog w) A (call (.type "enumerate") [v]) Q E s := by
  refine callType_new F.called_enumerate (by decide) (F.typeCall_enumerate_1 _) (F.newCall_enumerate_1 _) (fun obj => F.args_object_init_2 obj _) F.entry_enumerate_new
    (meets_enumerate_one B) ⟨h1, ?_⟩
  have hz : (s.heap.push o).objs.size = s.heap.objs.size + 1 := Heap.size_push ..
  show _ ∧ _
  rw [hz]
  have he : IsEnum ((s.heap.push o).push { cls := .type "enumerate", data := .fields #[.none, .bool false, .ref s.heap.objs.size, rawInt 0, .none, .none] }) (s.heap.objs.size + 1) s.heap.objs.size 0 .none := by
    have := Heap.get?_push_size (s.heap.push o) (o := { cls := .type "enumerate", data := .fields #[.none, .bool false, .ref s.heap.objs.size, rawInt 0, .none, .none] }) rfl
    rw [hz] at this; exact this
  exact ⟨⟨_, he, rfl⟩, h _ he (Heap.get?_push_of_some _ (Heap.get?_push_size _ B.free)) fun b o x => Heap.get?_push_of_some _ (Heap.get?_push_of_some _ x)⟩
end
/-- zip(source, source) -/
def ItZ2 (K : PySem.W.Frag) (k l : Sk) : It := ⟨fun i H => ∃ xs ys, k.At K H xs ∧ l.At K H ys ∧ i < min xs.length ys.length,
  fun i H v H' => ∃ T x y, v = .ref T ∧ H T = none ∧ H' = upd H T (.tup [x, y]) ∧ (∀ xs, k.At K H xs → xs[i]? = some x) ∧ ∀ ys, l.At K H ys → ys[i]? = some y, fun i H => ∃ xs ys, k.At K H xs ∧ l.At K H ys ∧ i = min xs.length ys.length⟩
/-- the five cells of a zip of two -/
structure Z5 (z TI TO i1 i2 : Addr) : Prop where
  a : TI ≠ z
  b : TO ≠ z
  c : TI ≠ TO
  d : TI ≠ i1
  e : TI ≠ i2
  f : z ≠ i1
  g : z ≠ i2
  h : TO ≠ i1
  i : TO ≠ i2
  j : i1 ≠ i2
theorem turn_zipS2 {P : Program} {w : World} {K : PySem.W.Frag} {elts : List Expr} {kk : Nat} {tpos : Pos} (k l : Sk) {z TI TO i1 i2 : Addr} (Z : Z5 z TI TO i1 i2) :
    Turn P w K (.Tuple elts kk tpos) (ItZ2 K k l) [z, TI, TO, i1, i2] z (fun i h => IsZip h z TI TO .none ∧ IsTupOf2 h TI (.ref i1) (.ref i2) ∧ (∃ a1 a2, IsTupOf2 h TO a1 a2) ∧ k.St i1 i h ∧ l.St i2 i h) := by
  have sep : ∀ {X : Cx} {pins : List (Addr × Obj)} {s : Shared} {σ : L2.St} {H : Hp}, Inv X pins σ H s → (∀ b ∈ [z, TI, TO, i1, i2], FpOk X pins H b) → ∀ {f1 f2 : List Addr}, (∀ b ∈ f1, (∃ o, H b = some o) ∨ ∃ o, X.K.lookup b = some o) → (∀ b ∈ f2, (∃ o, H b = some o) ∨ ∃ o, X.K.lookup b = some o) →
      ZipSep2 z TI TO i1 i2 (i1 :: f1) (i2 :: f2) := by
    intro X pins s σ H I hf f1 f2 h1 h2
    have no : ∀ {c : Addr} {f : List Addr}, c ∈ [z, TI, TO, i1, i2] → (∀ b ∈ f, (∃ o, H b = some o) ∨ ∃ o, X.K.lookup b = some o) → c ∉ f := fun hc hq q => src_ne I (hf _ hc) (hq _ q) rfl
    have nc : ∀ {c d : Addr} {f : List Addr}, c ∈ [z, TI, TO, i1, i2] → (∀ b ∈ f, (∃ o, H b = some o) ∨ ∃ o, X.K.lookup b = some o) → c ≠ d → c ∉ d :: f := fun hc hq hn q => by
      rcases List.mem_cons.mp q with q | q
      · exact hn q
      · exact no hc hq q
    exact { TIz := Z.a, TOz := Z.b, TITO := Z.c, TIi1 := Z.d, mem1 := by simp, zf1 := nc (by simp) h1 Z.f, Tf1 := nc (by simp) h1 Z.h, TIi2 := Z.e, mem2 := by simp, zf2 := nc (by simp) h2 Z.g, Tf2 := nc (by simp) h2 Z.i, sep1_2 := nc (by simp) h2 Z.j, sep2_1 := nc (by simp) h1 Z.j.symm }
  refine turn_gen (by simp) (fun i h st b hb => ?_) (fun i h h' st kp => ?_) (fun A i s Q E st h => ?_) (fun X hP hw hK hc i pins s σ H I hf st hg => ?_) fun X hP hw hK hc i pins s σ H I hf st hg => ?_
  · obtain ⟨h1, h2, ⟨a1, a2, h3⟩, h4, h5⟩ := st
    simp only [List.mem_cons, List.not_mem_nil, or_false] at hb
    rcases hb with rfl | rfl | rfl | rfl | rfl
    · exact ⟨_, h1, fun v q => nomatch q⟩
    · exact ⟨_, h2, fun v q => nomatch q⟩
    · exact ⟨_, h3, fun v q => nomatch q⟩
    · exact h4.obj
    · exact h5.obj
  · obtain ⟨h1, h2, ⟨a1, a2, h3⟩, h4, h5⟩ := st
    exact ⟨kp _ (by simp) _ h1, kp _ (by simp) _ h2, ⟨a1, a2, kp _ (by simp) _ h3⟩, h4.at fun o q => kp _ (by simp) o q, h5.at fun o q => kp _ (by simp) o q⟩
  · exact wpAny_pyIter_zip st.1 h
  · subst hP hw hK
    obtain ⟨h1, h2, h3, h4, h5⟩ := st
    obtain ⟨xs, ys, hx, hy, hi⟩ := hg
    obtain ⟨f1, n1, P1, St1, D1, rfl, sd1, sb1, vd1, fd1⟩ := Sk.draws I hx h4 X.A.in1 (I.ok.hd hc) (hf i1 (by simp))
    obtain ⟨f2, n2, P2, St2, D2, rfl, sd2, sb2, vd2, fd2⟩ := Sk.draws I hy h5 X.A.in1 (I.ok.hd hc) (hf i2 (by simp))
    refine ⟨_, _, _, _, _, GoesN.zip2 (sep I hf fd1 fd2) D1 D2, fun b hb => ?_, hi, ⟨h1, h2, h3, sd1, sd2⟩, fun h' q => ⟨q.1, q.2.1, q.2.2.1, sb1 _ _ q.2.2.2.1, sb2 _ _ q.2.2.2.2⟩, fun v h y => ?_⟩
    · simp only [List.mem_cons, List.not_mem_nil, or_false] at hb ⊢
      rcases hb with q | q | q | q <;> simp [q]
    · obtain ⟨T, u1, u2, rfl, hT, p1, p2, ht⟩ := y
      obtain ⟨x, a1, a2⟩ := vd1 i u1 p1
      obtain ⟨y, c1, c2⟩ := vd2 i u2 p2
      refine ⟨T, [x, y], [u1, u2], rfl, hT, .cons a2 (.cons c2 .nil), ht, by show 2 ≤ sizeLine; decide, fun hn => ⟨T, x, y, rfl, hn, rfl, fun zs hz => ?_, fun zs hz => ?_⟩⟩
      · rw [Sk.At.inj I hz hx]; exact a1
      · rw [Sk.At.inj I hz hy]; exact c1
  · subst hP hw hK
    obtain ⟨h1, h2, h3, h4, h5⟩ := st
    obtain ⟨xs, ys, hx, hy, rfl⟩ := hg
    obtain ⟨f1, n1, P1, St1, D1, rfl, sd1, sb1, vd1, fd1⟩ := Sk.draws I hx h4 X.A.in1 (I.ok.hd hc) (hf i1 (by simp))
    obtain ⟨f2, n2, P2, St2, D2, rfl, sd2, sb2, vd2, fd2⟩ := Sk.draws I hy h5 X.A.in1 (I.ok.hd hc) (hf i2 (by simp))
    refine ⟨_, _, _, _, GoesN.zip2 (sep I hf fd1 fd2) D1 D2, fun b hb => ?_, ⟨h1, h2, h3, sd1, sd2⟩⟩
    simp only [List.mem_cons, List.not_mem_nil, or_false] at hb ⊢
    rcases hb with q | q | q | q <;> simp [q]
section
variable {X : Cx} {e e2 : Expr} {ta : TE} {tb : TE} {p pos tpos : Pos} {elts : List Expr} {kk : Nat}
def iEnumS (K : PySem.W.Frag) (ta : TE) : TI := fun σ H R => ta σ H fun x H1 => ∃ k xs, x = Sk.v k ∧ k.At K H1 xs ∧ R (ItE K k) H1
theorem pi_enumS (hg : Gl X "enumerate") (hm : X.mg "enumerate" = none) (he : PE X e ta) (na : starEach [e] X.env = (false, eval e X.env) :: starEach [] X.env := by rfl) :
    PI X (.Tuple elts kk tpos) (.Call (.Name "enumerate" p) [e] [] pos) (iEnumS X.K ta) := by
  refine ⟨fun pins s σ H R I h => ?_⟩
  refine Call_ (ld_blt I hg hm boot_enumerate (PyProof.Rows.callWith_type1 (args_cons (thn (he.run pins s σ H _ I h) fun u s1 ⟨x, H1, I1, r1, k, xs, ex, hk, q⟩ => args_nil ?_) na) na rfl))
  subst ex
  obtain ⟨o, HH, B, h1, hs⟩ := Sk.begins I1 hk r1
  refine enum_begins1 B h1 fun h' hE hit hk' => wpAny_pyIter_enum hE ?_
  refine ⟨s1.heap.objs.size + 1, [s1.heap.objs.size + 1, s1.heap.objs.size], _, _, H1, rfl, I1.kept (t' := s1.toks) hk', turn_enumS k (s1.heap.objs.size + 1) s1.heap.objs.size (Nat.succ_ne_self _), ⟨⟨_, hE⟩, hs _ _ hit⟩, fun c hc => ?_, q⟩
  have hle : s1.heap.objs.size ≤ c := by
    simp only [List.mem_cons, List.not_mem_nil, or_false] at hc
    rcases hc with z | z
    · rw [z]; exact Nat.le_succ _
    · rw [z]; exact Nat.le_refl _
  exact I1.fpOk hle (I1.hok.fresh hle)
def iZipS2 (K : PySem.W.Frag) (ta tb : TE) : TI := fun σ H R => ta σ H fun x H1 => tb σ H1 fun y H2 => ∃ k l xs ys, x = Sk.v k ∧ y = Sk.v l ∧ k.At K H2 xs ∧ l.At K H2 ys ∧ R (ItZ2 K k l) H2
theorem pi_zipS2 (hg : Gl X "zip") (hm : X.mg "zip" = none) (he : PE X e ta) (he2 : PE X e2 tb) (na : starEach [e, e2] X.env = (false, eval e X.env) :: starEach [e2] X.env := by rfl) (nb : starEach [e2] X.env = (false, eval e2 X.env) :: starEach [] X.env := by rfl) (hpl : (backTo pos (starEach [e2] X.env)).any (·.1) = false := by rfl) :
    PI X (.Tuple elts kk tpos) (.Call (.Name "zip" p) [e, e2] [] pos) (iZipS2 X.K ta tb) := by
  refine ⟨fun pins s σ H R I h => ?_⟩
  refine Call_ (ld_blt I hg hm PyProof.Rows.boot_zip (PyProof.Rows.callWith_type1 (args_cons (thn (he.run pins s σ H _ I h) fun u s1 ⟨x, H1, I1, r1, q1⟩ => args_cons (thn (he2.run pins s1 σ H1 _ I1 q1) fun u2 s2 ⟨y, H2, I2, r2, k, l, xs, ys, ex, ey, hk, hl, q⟩ => args_nil ?_) nb) na) na hpl))
  subst ex ey
  obtain ⟨o1, HH1, B1, h1, hs1⟩ := Sk.begins I2 hk r1
  obtain ⟨o2, HH2, B2, h2, hs2⟩ := Sk.begins I2 hl r2
  refine zip_begins2 B1 B2 h1 h2 fun h' hz hTI hTO g1 g2 hsz hk' => wpAny_pyIter_zip hz ?_
  generalize hN : s2.heap.objs.size = N at *
  refine ⟨N + 4, [N + 4, N + 2, N + 3, N, N + 1], _, _, H2, rfl, I2.kept (t' := s2.toks) hk', turn_zipS2 k l ⟨?_, ?_, ?_, ?_, ?_, ?_, ?_, ?_, ?_, ?_⟩, ⟨hz, hTI, ⟨_, _, hTO⟩, hs1 _ _ g1, hs2 _ _ g2⟩, fun c hc => ?_, q⟩
  · show (N + 2 : Nat) ≠ N + 4; omega
  · show (N + 3 : Nat) ≠ N + 4; omega
  · show (N + 2 : Nat) ≠ N + 3; omega
  · show (N + 2 : Nat) ≠ N; omega
  · show (N + 2 : Nat) ≠ N + 1; omega
  · show (N + 4 : Nat) ≠ N; omega
  · show (N + 4 : Nat) ≠ N + 1; omega
  · show (N + 3 : Nat) ≠ N; omega
  · show (N + 3 : Nat) ≠ N + 1; omega
  · show (N : Nat) ≠ N + 1; omega
  · have hle : s2.heap.objs.size ≤ c := by
      rw [hN]
      simp only [List.mem_cons, List.not_mem_nil, or_false] at hc
      rcases hc with z | z | z | z | z <;> rw [z]
      · exact Nat.le_add_right _ _
      · exact Nat.le_add_right _ _
      · exact Nat.le_add_right _ _
      · exact Nat.le_refl _
      · exact Nat.le_add_right _ _
    exact I2.fpOk hle (I2.hok.fresh hle)
end
section
variable {g : Gs} {E : XK} {H0 : Hp} {w : Wd}
theorem SkAt.at {k : Sk} {ds : List D} {H : Hp} (h : SkAt g w k ds) (hs : Same w.P H) : ∃ vs, k.At g.K H vs ∧ Reps g w ds vs := let ⟨vs, a, r⟩ := h; ⟨vs, a.mono hs, r⟩
theorem reg_pair {w1 : Wd} {H : Hp} {B : Bs} {T : Addr} {ds : List D} {vs : List V} (rb : RB g w1 B H) (hn : H T = none) (r : Reps g w1 ds vs) :
    ∃ w2, Ext w1 H w2 (upd H T (.tup vs)) ∧ RB g w2 B (upd H T (.tup vs)) ∧ Rep g w2 (.prs ds) (.ref T) :=
  ⟨regW w1 T (.tup vs), Ext.reg rb hn, rb.reg hn, by
    simp only [Rep]
    exact ⟨T, vs, rfl, .inl (.inl upd_same), Reps.mono (regLe w1 (rb.fresh_P hn)) _ _ r⟩⟩
def enumD (ds : List D) : List D := (List.range ds.length).zipWith (fun i d => D.prs [.int (i : Nat), d]) ds
def zipD (ds es : List D) : List D := ds.zipWith (fun d e => D.prs [d, e]) es
theorem enumD_len (ds : List D) : (enumD ds).length = ds.length := by simp [enumD]
theorem it_enum {k : Sk} {ds : List D} (h : SkAt g w k ds) : ItOk g w (ItE g.K k) (enumD ds) where
  go := fun i H hi hs => by
    obtain ⟨vs, a, r⟩ := h.at hs
    exact ⟨vs, a, by rw [enumD_len] at hi; rw [r.len]; exact hi⟩
  stop := fun i H hi hs => by
    obtain ⟨vs, a, r⟩ := h.at hs
    exact ⟨vs, a, by rw [enumD_len] at hi; rw [r.len]; exact hi⟩
  yld := fun i H x H' d w1 B e l rb y => by
    obtain ⟨vs, a, r⟩ := h.at (l.P.trans rb.sub)
    obtain ⟨T, y, rfl, hn, rfl, hx⟩ := y
    have hx := hx vs a
    unfold enumD at e
    rw [List.getElem?_zipWith] at e
    have hi : i < ds.length := by rw [← r.len]; exact (List.getElem?_eq_some_iff.mp hx).1
    rw [List.getElem?_range hi, List.getElem?_eq_getElem hi] at e
    simp only [Option.some.injEq] at e
    subst e
    obtain ⟨v, e2, rv⟩ := Reps.get r (List.getElem?_eq_getElem hi)
    rw [hx] at e2; cases e2
    refine reg_pair rb hn ?_
    simp only [Reps, Rep]
    exact ⟨_, _, rfl, rfl, _, _, rfl, Rep.mono l _ _ rv, rfl⟩
theorem it_zip2 {k l : Sk} {ds es : List D} (h : SkAt g w k ds) (h' : SkAt g w l es) : ItOk g w (ItZ2 g.K k l) (zipD ds es) where
  go := fun i H hi hs => by
    obtain ⟨vs, a, r⟩ := h.at hs
    obtain ⟨us, b, r'⟩ := h'.at hs
    exact ⟨vs, us, a, b, by rw [r.len, r'.len]; simpa [zipD] using hi⟩
  stop := fun i H hi hs => by
    obtain ⟨vs, a, r⟩ := h.at hs
    obtain ⟨us, b, r'⟩ := h'.at hs
    exact ⟨vs, us, a, b, by rw [r.len, r'.len]; simpa [zipD] using hi⟩
  yld := fun i H x H' d w1 B e le rb y => by
    obtain ⟨vs, a, r⟩ := h.at (le.P.trans rb.sub)
    obtain ⟨us, b, r'⟩ := h'.at (le.P.trans rb.sub)
    obtain ⟨T, x1, x2, rfl, hn, rfl, hx, hy⟩ := y
    have hx := hx vs a
    have hy := hy us b
    have hi : i < ds.length := by rw [← r.len]; exact (List.getElem?_eq_some_iff.mp hx).1
    have hj : i < es.length := by rw [← r'.len]; exact (List.getElem?_eq_some_iff.mp hy).1
    unfold zipD at e
    rw [List.getElem?_zipWith, List.getElem?_eq_getElem hi, List.getElem?_eq_getElem hj] at e
    simp only [Option.some.injEq] at e
    subst e
    obtain ⟨v, e2, rv⟩ := Reps.get r (List.getElem?_eq_getElem hi)
    rw [hx] at e2; cases e2
    obtain ⟨v', e3, rv'⟩ := Reps.get r' (List.getElem?_eq_getElem hj)
    rw [hy] at e3; cases e3
    refine reg_pair rb hn ?_
    simp only [Reps]
    exact ⟨_, _, rfl, Rep.mono le _ _ rv, _, _, rfl, Rep.mono le _ _ rv', rfl⟩
variable {X : Cx} {a b : Expr} {ma mb : Ev} {p pos tpos : Pos} {elts : List Expr} {kk : Nat}
def itD (d : D) (B : Bs) : Rs (List D) := match itemsOf d with
  | some ds => .ok ds B
  | Option.none => .bad
def mEnum (m : Ev) : Ei := fun σ B => (m σ B).bind fun d B1 => (itD d B1).bind fun ds B2 => .ok (enumD ds) B2
def mZip2 (ma mb : Ev) : Ei := fun σ B => (ma σ B).bind fun d B1 => (itD d B1).bind fun ds B2 => (mb σ B2).bind fun e B3 => (itD e B3).bind fun es B4 => .ok (zipD ds es) B4
theorem itD_go {B : Bs} {H : Hp} {R : It → Hp → Prop} {d : D} {v : V} {f : List D → Bs → Rs (List D)} (r : Rep g w d v) (p : PostI g E w H R ((itD d B).bind f)) : ∃ ds k, v = Sk.v k ∧ SkAt g w k ds ∧ PostI g E w H R (f ds B) := by
  unfold itD at p
  cases hd : itemsOf d with
  | none => rw [hd] at p; exact p.elim
  | some ds =>
    rw [hd] at p
    obtain ⟨k, e, hk⟩ := Rep.sk r hd
    exact ⟨ds, k, e, hk, p⟩
theorem SkAt.mono {w1 : Wd} {k : Sk} {ds : List D} (l : Le w w1) (h : SkAt g w k ds) : SkAt g w1 k ds := let ⟨vs, a, r⟩ := h; ⟨vs, a.mono l.P, Reps.mono l _ _ r⟩
theorem i_enum (c : Ok g X) (h : Snd g E H0 X false a ma) (hg : Gl X "enumerate" := by rfl) (na : starEach [a] X.env = (false, eval a X.env) :: starEach [] X.env := by rfl) : SndI g E H0 X (.Tuple elts kk tpos) (.Call (.Name "enumerate" p) [a] [] pos) (mEnum ma) := by
  refine weakI (pi_enumS hg (nbs c) h na) ?_
  rintro σ H R ⟨w, σI, B, s, p⟩
  refine tI_bindI s p fun d B1 w1 v H1 x1 s1 r p1 => ?_
  obtain ⟨ds, k, rfl, hk, p2⟩ := itD_go r p1
  obtain ⟨vs, a1, _⟩ := hk.at s1.rb.sub
  rw [c.K]
  exact ⟨k, vs, rfl, a1, p2 w1 _ H1 (Ext.refl _ _) s1.rb (it_enum hk)⟩
theorem i_zip2 (c : Ok g X) (h : Snd g E H0 X false a ma) (h' : Snd g E H0 X false b mb) (hg : Gl X "zip" := by rfl) (na : starEach [a, b] X.env = (false, eval a X.env) :: starEach [b] X.env := by rfl) (nb : starEach [b] X.env = (false, eval b X.env) :: starEach [] X.env := by rfl) (hpl : (backTo pos (starEach [b] X.env)).any (·.1) = false := by rfl) :
    SndI g E H0 X (.Tuple elts kk tpos) (.Call (.Name "zip" p) [a, b] [] pos) (mZip2 ma mb) := by
  refine weakI (pi_zipS2 hg (nbs c) h h' na nb hpl) ?_
  rintro σ H R ⟨w, σI, B, s, p⟩
  refine tI_bindI s p fun d B1 w1 v H1 x1 s1 r p1 => ?_
  obtain ⟨ds, k, rfl, hk, p2⟩ := itD_go r p1
  refine tI_bindI s1 p2 fun d2 B2 w2 v2 H2 x2 s2 r2 p3 => ?_
  obtain ⟨es, l, rfl, hl, p4⟩ := itD_go r2 p3
  have hk2 := hk.mono x2.le
  obtain ⟨vs, a1, _⟩ := hk2.at s2.rb.sub
  obtain ⟨us, a2, _⟩ := hl.at s2.rb.sub
  rw [c.K]
  exact ⟨k, l, vs, us, rfl, rfl, a1, a2, p4 w2 _ H2 (Ext.refl _ _) s2.rb (it_zip2 hk2 hl)⟩
end
end Hf

set_option Elab.async false
set_option linter.all false
set_option maxRecDepth 100000
set_option maxHeartbeats 4000000
namespace Hf
open PySem PySem.Spec PyProof.Rows L2

/-! ### keys -/
section
variable {g : Gs} {w : Wd} {X : Cx} {pins : List (Addr × Obj)} {σ : L2.St} {H : Hp} {s : Shared}
mutual
theorem nk_is (I : Inv X pins σ H s) (hK : X.K = g.K) (hs : Same w.P H) : ∀ (d : D) (v : V) (u : Value) (k : NestedKey), Rep g w d v → RelV v u → nkD d = some k → NestedIs s.heap k u
  | .none, v, u, k, r, ru, h => by
    simp only [Rep] at r; subst r
    simp only [nkD, Option.some.injEq] at h; subst h
    cases (show u = Value.none from ru)
    exact .none
  | .bool b, v, u, k, r, ru, h => by
    simp only [Rep] at r; subst r
    simp only [nkD, Option.some.injEq] at h; subst h
    cases (show u = Value.bool b from ru)
    exact .bool rfl
  | .int i, v, u, k, r, ru, h => by
    simp only [Rep] at r; subst r
    simp only [nkD, Option.some.injEq] at h; subst h
    obtain ⟨t, rfl⟩ := ru
    exact .int _ _
  | .str i, v, u, k, r, ru, h => by
    simp only [Rep] at r; subst r
    simp only [nkD, Option.some.injEq] at h; subst h
    obtain ⟨t, rfl⟩ := ru
    exact .text _ _
  | .tup ds, v, u, k, r, ru, h => by
    simp only [Rep] at r
    obtain ⟨a, vs, rfl, q, r⟩ := r
    simp only [nkD, Option.map_eq_some_iff] at h
    obtain ⟨ks, h, rfl⟩ := h
    cases (show u = Value.ref a from ru)
    obtain ⟨its, rv, ⟨o, ho, hc, n, hd⟩, hz⟩ := I.tuple (hK ▸ sqT_mono hs q.T)
    exact .tup ho hc hd (by simpa using nks_is I hK hs ds vs its ks r rv h)
  | .lst ds, v, u, k, r, ru, h => by simp [nkD] at h
  | .scr ds, v, u, k, r, ru, h => by simp [nkD] at h
  | .prs ds, v, u, k, r, ru, h => by simp [nkD] at h
  | .dct ks ds, v, u, k, r, ru, h => by simp [nkD] at h
  | .inst c ds, v, u, k, r, ru, h => by simp [nkD] at h
  | .box n, v, u, k, r, ru, h => by simp [nkD] at h
  | .cls n, v, u, k, r, ru, h => by simp [nkD] at h
  | .kd n x, v, u, k, r, ru, h => by simp [nkD] at h
  | .fnT n, v, u, k, r, ru, h => by simp [nkD] at h
  | .exo a dd f x, v, u, k, r, ru, h => by simp [nkD] at h
theorem nks_is (I : Inv X pins σ H s) (hK : X.K = g.K) (hs : Same w.P H) : ∀ (ds : List D) (vs : List V) (us : List Value) (ks : List NestedKey), Reps g w ds vs → Vals vs us → nksD ds = some ks → NestedAll s.heap ks us
  | [], vs, us, ks, r, ru, h => by
    simp only [Reps] at r; subst r
    simp only [nksD, Option.some.injEq] at h; subst h
    cases ru
    exact .nil
  | d :: ds, vs, us, ks, r, ru, h => by
    simp only [Reps] at r
    obtain ⟨v, ws, rfl, r, rs⟩ := r
    simp only [nksD] at h
    split at h
    · rename_i k ks' e1 e2
      cases h
      cases ru with
      | cons r1 r2 => exact .cons (nk_is I hK hs d v _ k r r1 e1) (nks_is I hK hs ds ws _ ks' rs r2 e2)
    · cases h
end
/-- at b stands a key k -/
def KeyH (g : Gs) (H : Hp) (k : NestedKey) (b : Addr) : Prop := ∃ w d, Same (Wd.P w) H ∧ Rep g w d (.ref b) ∧ nkD d = some k
theorem KeyH.is (I : Inv X pins σ H s) (ok : Ok g X) {k : NestedKey} {b : Addr} (h : KeyH g H k b) (hd : k.depth ≤ 8) : (nestedKind X.prog X.w).is s.heap k b := by
  obtain ⟨w, d, hs, r, e⟩ := h
  exact ⟨nk_is I ok.K hs d _ _ k r rfl e, hd⟩
def KeysH (g : Gs) (H : Hp) (xs : List (NestedKey × Addr × V)) : Prop := ∀ p ∈ xs, KeyH g H p.1 p.2.1
theorem paired_mem {α β : Type} {F : α → β → Prop} : ∀ {l : List α} {m : List β}, Paired F l m → ∀ b ∈ m, ∃ a ∈ l, F a b
  | _, _, .nil, _, h => nomatch h
  | _, _, .cons h t, b, hb => by
    rcases List.mem_cons.mp hb with rfl | hb
    · exact ⟨_, List.mem_cons_self, h⟩
    · obtain ⟨a, ha, f⟩ := paired_mem t b hb
      exact ⟨a, List.mem_cons_of_mem _ ha, f⟩
abbrev PF : (NestedKey × Addr × V) → (NestedKey × Addr × Value) → Prop := fun p q => p.1 = q.1 ∧ p.2.1 = q.2.1 ∧ RelV p.2.2 q.2.2
theorem paired_keys : ∀ {l : List (NestedKey × Addr × V)} {m : List (NestedKey × Addr × Value)}, Paired PF l m → l.map (·.1) = m.map (·.1)
  | _, _, .nil => rfl
  | _, _, .cons h t => by rw [List.map_cons, List.map_cons, h.1, paired_keys t]
theorem dct_of (I : Inv X pins σ H s) (ok : Ok g X) {a : Addr} {xs : List (NestedKey × Addr × V)} (h : H a = some (dctO g a xs)) (kh : KeysH g H xs) :
    (a == sysModules) = false ∧ xs.length ≤ sizeLine ∧ (∀ p ∈ xs, p.1.depth ≤ 8) ∧ ∃ ys, Paired PF xs ys ∧ s.heap.DictOfH (nestedKind X.prog X.w) a ys := by
  obtain ⟨h1, h2, h3, h4, ys, h5, o, es, ep, ho, hx, hd, he⟩ := (I.hok a _ h).1
  refine ⟨h1, h2, h3, ys, h5, o, es, ep, ho, hx, hd, by rw [ok.prog, ok.w]; exact he, fun y hy => ?_, by rw [← paired_keys h5]; exact h4⟩
  obtain ⟨p, hp, e1, e2, _⟩ := paired_mem h5 y hy
  rw [← e1, ← e2]
  exact (kh p hp).is I ok (h3 p hp)
def atX (xs : List (NestedKey × Addr × V)) (k : NestedKey) : Option V := (xs.find? fun p => decide (p.1 = k)).map (·.2.2)
theorem at_rel {k : NestedKey} : ∀ {xs : List (NestedKey × Addr × V)} {ys : List (NestedKey × Addr × Value)}, Paired PF xs ys → (atX xs k = none ∧ atKey ys k = none) ∨ ∃ v b u, atX xs k = some v ∧ atKey ys k = some (b, u) ∧ RelV v u
  | _, _, .nil => .inl ⟨rfl, rfl⟩
  | x :: xs, y :: ys, .cons h t => by
    unfold atX atKey
    by_cases e : x.1 = k
    · have e2 : y.1 = k := by rw [← h.1]; exact e
      simp only [List.find?_cons, decide_eq_true e, decide_eq_true e2, Option.map_some]
      exact .inr ⟨_, _, _, rfl, rfl, h.2.2⟩
    · have e2 : ¬ y.1 = k := by rw [← h.1]; exact e
      simp only [List.find?_cons, decide_eq_false e, decide_eq_false e2]
      exact at_rel t
def putP (k : NestedKey) (v : V) (p : NestedKey × Addr × V) : NestedKey × Addr × V := if p.1 = k then (p.1, p.2.1, v) else p
def stX (xs : List (NestedKey × Addr × V)) (k : NestedKey) (b : Addr) (v : V) : List (NestedKey × Addr × V) := if (atX xs k).isSome then xs.map (putP k v) else xs ++ [(k, b, v)]
theorem st_rel {k : NestedKey} {b : Addr} {v : V} {u : Value} {xs : List (NestedKey × Addr × V)} {ys : List (NestedKey × Addr × Value)} (h : Paired PF xs ys) (r : RelV v u) : Paired PF (stX xs k b v) (storedH ys k b u) := by
  unfold stX storedH
  rcases at_rel (k := k) h with ⟨e1, e2⟩ | ⟨v', b', u', e1, e2, _⟩
  · rw [e1, e2]
    simp only [Option.isSome_none, Bool.false_eq_true, if_false]
    exact h.snoc ⟨rfl, rfl, r⟩
  · rw [e1, e2]
    simp only [Option.isSome_some, if_true]
    clear e1 e2
    induction h with
    | nil => exact .nil
    | @cons p q l m hp t ih =>
      refine .cons ?_ ih
      unfold putP putAt
      rw [← hp.1]
      split
      · exact ⟨rfl, hp.2.1, r⟩
      · exact hp
theorem stX_keys {k : NestedKey} {b : Addr} {v : V} {xs : List (NestedKey × Addr × V)} : (∀ p ∈ stX xs k b v, (∃ q ∈ xs, q.1 = p.1 ∧ q.2.1 = p.2.1) ∨ (p.1 = k ∧ p.2.1 = b)) ∧ (stX xs k b v).length ≤ xs.length + 1 ∧ ((xs.map (·.1)).Nodup → ((stX xs k b v).map (·.1)).Nodup) := by
  unfold stX
  split
  · refine ⟨fun p hp => ?_, by simp, fun h => ?_⟩
    · obtain ⟨q, hq, rfl⟩ := List.mem_map.mp hp
      refine .inl ⟨q, hq, ?_⟩
      unfold putP
      split <;> exact ⟨rfl, rfl⟩
    · have : (xs.map (putP k v)).map (·.1) = xs.map (·.1) := by
        rw [List.map_map]
        refine List.map_congr_left fun q hq => ?_
        show (putP k v q).1 = q.1
        unfold putP
        split <;> rfl
      rw [this]; exact h
  · rename_i hn
    refine ⟨fun p hp => ?_, by simp, fun h => ?_⟩
    · rcases List.mem_append.mp hp with hp | hp
      · exact .inl ⟨p, hp, rfl, rfl⟩
      · rw [List.mem_singleton.mp hp]; exact .inr ⟨rfl, rfl⟩
    · rw [List.map_append, List.nodup_append]
      refine ⟨h, by simp, fun a ha c hc => ?_⟩
      simp only [List.map_cons, List.map_nil, List.mem_singleton] at hc
      subst hc
      rintro rfl
      obtain ⟨q, hq, e⟩ := List.mem_map.mp ha
      have : (atX xs a).isSome = true := by
        unfold atX
        rw [Option.isSome_map]
        exact List.find?_isSome.mpr ⟨q, hq, decide_eq_true e⟩
      exact hn this
/-- D[b] = v, in a comprehension -/
theorem d_setK {E : Value → Shared → Prop} {a b : Addr} {xs : List (NestedKey × Addr × V)} {k : NestedKey} {v : V} {r : Value} {Q : Unit → Shared → Prop} (I : Inv X pins σ H s) (ok : Ok g X) (h : H a = some (dctO g a xs)) (kh : KeysH g H xs) (kb : KeyH g H k b) (hd : k.depth ≤ 8) (hz : xs.length < sizeLine) (rv : RelV v r)
    (q : ∀ s', Inv X pins σ (upd H a (dctO g a (stX xs k b v))) s' → Q () s') : wpAny (model X.prog X.w) X.A (dictSet a (.ref b) r) Q E s := by
  obtain ⟨h1, h2, h3, ys, h5, hm⟩ := dct_of I ok h kh
  have hl : ys.length ≤ sizeLine := by rw [← Paired.length h5]; exact h2
  have hu : X.A.units + 8 < cLine := by have := ok.un; omega
  refine wpAny_dictSet_heap (hsz := hl) hu (kb.is I ok hd) hm fun h' hm' hs => q _ ?_
  obtain ⟨o, es, ep, ho, hx, hdt, he, _, hnd⟩ := hm'
  obtain ⟨c1, c2, c3⟩ := @stX_keys k b v xs
  obtain ⟨_, _, _, h4, _⟩ := (I.hok a _ h).1
  refine d_write I (by rw [h]; exact True.intro) hs ⟨o, ho⟩ ⟨⟨h1, by omega, fun p hp => ?_, c3 h4, _, st_rel h5 rv, o, es, ep, ho, hx, hdt, by rw [← ok.prog, ← ok.w]; exact he⟩, ⟨o, ho⟩, ?_⟩
  · rcases c1 p hp with ⟨q, hq, e, _⟩ | ⟨e, _⟩
    · rw [← e]; exact h3 q hq
    · rw [e]; exact hd
  · rintro g1 g2 ⟨i1, i2, i3, i4, ys', i5, o', es', ep', j1, j2, j3, j4⟩ hk
    exact ⟨i1, i2, i3, i4, ys', i5, o', es', ep', hk _ j1, j2, j3, j4⟩
theorem dct_new (ok : Ok g X) (h : Heap) (hb : sysModules < h.objs.size) : ObjOk X.prog X.w H (h.push { cls := .type "dict", data := .dict #[] }) h.objs.size (dctO g h.objs.size []) := by
  have e : (h.push { cls := .type "dict", data := .dict #[] }).get? h.objs.size = some { cls := .type "dict", data := .dict #[] } := Heap.get?_push_size _ rfl
  have z : (h.objs.size == sysModules) = false := beq_eq_false_iff_ne.mpr (Nat.ne_of_gt hb)
  have z2 : ∀ p ∈ ([] : List (NestedKey × Addr × V)), p.1.depth ≤ 8 := fun p hp => nomatch hp
  refine ⟨⟨z, Nat.zero_le _, z2, List.nodup_nil, [], Paired.nil, _, _, _, e, ⟨rfl, rfl, rfl⟩, rfl, rfl⟩, ⟨_, e⟩, ?_⟩
  · rintro g1 g2 ⟨i1, i2, i3, i4, ys', i5, o', es', ep', j1, j2, j3, j4⟩ hk
    exact ⟨i1, i2, i3, i4, ys', i5, o', es', ep', hk _ j1, j2, j3, j4⟩
end

/-! ### dicts as data -/
def dAt : List D → List D → NestedKey → Option D
  | k' :: ks, d :: ds, k => if nkD k' = some k then some d else dAt ks ds k
  | _, _, _ => Option.none
def dSet : List D → List D → NestedKey → D → List D
  | k' :: ks, d :: ds, k, v => (if nkD k' = some k then v else d) :: dSet ks ds k v
  | _, _, _, _ => []
def keyT : D → Option NestedKey
  | .tup ds => match nkD (.tup ds) with
    | some k => if k.depth ≤ 8 then some k else Option.none
    | Option.none => Option.none
  | _ => Option.none
def dPut (ks ds : List D) (kd vd : D) : Option (List D × List D) := match keyT kd with
  | some k => if ks.length < sizeLine then some (if (dAt ks ds k).isSome then (ks, dSet ks ds k vd) else (ks ++ [kd], ds ++ [vd])) else Option.none
  | Option.none => Option.none
theorem keyT_ok {d : D} {k : NestedKey} (h : keyT d = some k) : (∃ ds, d = .tup ds) ∧ nkD d = some k ∧ k.depth ≤ 8 := by
  cases d <;> simp only [keyT, reduceCtorEq] at h
  split at h
  · rename_i ds k' e
    split at h
    · rename_i hd
      cases h
      exact ⟨⟨_, rfl⟩, e, hd⟩
    · cases h
  · cases h
section
variable {g : Gs} {w : Wd}
theorem dAt_rel {k : NestedKey} : ∀ {ks ds : List D} {xs : List (NestedKey × Addr × V)}, ks.map nkD = xs.map (fun p => some p.1) → Reps g w ds (xs.map fun p => p.2.2) → (dAt ks ds k = Option.none ∧ atX xs k = none) ∨ ∃ d v, dAt ks ds k = some d ∧ atX xs k = some v ∧ Rep g w d v
  | [], ds, xs, h, r => by
    cases xs with
    | nil => exact .inl ⟨by cases ds <;> rfl, rfl⟩
    | cons x xs => simp at h
  | k' :: ks, ds, [], h, r => by simp at h
  | k' :: ks, [], x :: xs, h, r => by simp [Reps] at r
  | k' :: ks, d :: ds, x :: xs, h, r => by
    simp only [List.map_cons, List.cons.injEq] at h
    simp only [List.map_cons, Reps] at r
    obtain ⟨v, us, e, r1, r2⟩ := r
    cases e
    unfold dAt atX
    rw [h.1]
    by_cases e : x.1 = k
    · simp only [e, if_true, List.find?_cons, decide_true, Option.map_some]
      exact .inr ⟨_, _, rfl, rfl, r1⟩
    · simp only [Option.some.injEq, e, if_false, List.find?_cons, decide_false]
      exact dAt_rel h.2 r2
theorem dSet_rel {k : NestedKey} {vd : D} {v : V} (rv : Rep g w vd v) : ∀ {ks ds : List D} {xs : List (NestedKey × Addr × V)}, ks.map nkD = xs.map (fun p => some p.1) → Reps g w ds (xs.map fun p => p.2.2) → Reps g w (dSet ks ds k vd) ((xs.map (putP k v)).map fun p => p.2.2)
  | [], ds, xs, h, r => by
    cases xs with
    | nil => cases ds <;> simp [dSet, Reps]
    | cons x xs => simp at h
  | k' :: ks, ds, [], h, r => by simp at h
  | k' :: ks, [], x :: xs, h, r => by simp [Reps] at r
  | k' :: ks, d :: ds, x :: xs, h, r => by
    simp only [List.map_cons, List.cons.injEq] at h
    simp only [List.map_cons, Reps] at r
    obtain ⟨u, us, e, r1, r2⟩ := r
    cases e
    unfold dSet
    rw [h.1]
    simp only [List.map_cons, Reps]
    refine ⟨_, _, rfl, ?_, dSet_rel rv h.2 r2⟩
    unfold putP
    by_cases e : x.1 = k
    · simp only [e, if_true]; exact rv
    · simp only [Option.some.injEq, e, if_false]; exact r1
/-- a dict's content -/
def DC (g : Gs) (w : Wd) (ks ds : List D) (xs : List (NestedKey × Addr × V)) : Prop := ks.map nkD = xs.map (fun p => some p.1) ∧ Reps g w ks (xs.map fun p => V.ref p.2.1) ∧ Reps g w ds (xs.map fun p => p.2.2)
theorem DC.nil : DC g w [] [] [] := by simp [DC, Reps]
theorem DC.mono {w' : Wd} (l : Le w w') {ks ds : List D} {xs : List (NestedKey × Addr × V)} (h : DC g w ks ds xs) : DC g w' ks ds xs := ⟨h.1, Reps.mono l _ _ h.2.1, Reps.mono l _ _ h.2.2⟩
theorem DC.keys {H : Hp} (hs : Same w.P H) : ∀ {ks ds : List D} {xs : List (NestedKey × Addr × V)}, DC g w ks ds xs → KeysH g H xs := by
  intro ks ds xs h
  obtain ⟨h1, h2, h3⟩ := h
  clear h3
  induction xs generalizing ks with
  | nil => exact fun p hp => nomatch hp
  | cons x xs ih =>
    cases ks with
    | nil => simp at h1
    | cons k ks =>
      simp only [List.map_cons, List.cons.injEq] at h1
      simp only [List.map_cons, Reps] at h2
      obtain ⟨v, us, e, r1, r2⟩ := h2
      cases e
      intro p hp
      rcases List.mem_cons.mp hp with rfl | hp
      · exact ⟨w, k, hs, r1, h1.1⟩
      · exact ih h1.2 r2 p hp
theorem DC.put {ks ds : List D} {xs : List (NestedKey × Addr × V)} {kd vd : D} {k : NestedKey} {b : Addr} {v : V} {ks' ds' : List D} (h : DC g w ks ds xs) (rk : Rep g w kd (.ref b)) (rv : Rep g w vd v) (hk : keyT kd = some k) (hp : dPut ks ds kd vd = some (ks', ds')) : DC g w ks' ds' (stX xs k b v) ∧ xs.length < sizeLine := by
  unfold dPut at hp
  rw [hk] at hp
  simp only at hp
  split at hp
  · rename_i hz
    obtain ⟨h1, h2, h3⟩ := h
    have hl : ks.length = xs.length := by have := congrArg List.length h1; simpa using this
    refine ⟨?_, by omega⟩
    unfold stX
    rcases dAt_rel (k := k) h1 h3 with ⟨e1, e2⟩ | ⟨d, v', e1, e2, _⟩
    · rw [e1] at hp
      simp only [Option.isSome_none, Bool.false_eq_true, if_false, Option.some.injEq, Prod.mk.injEq] at hp
      obtain ⟨rfl, rfl⟩ := hp
      rw [e2]
      simp only [Option.isSome_none, Bool.false_eq_true, if_false]
      refine ⟨by rw [List.map_append, List.map_append, h1]; simp [(keyT_ok hk).2.1], ?_, ?_⟩
      · rw [List.map_append]; exact Reps.app h2 (Reps.one rk)
      · rw [List.map_append]; exact Reps.app h3 (Reps.one rv)
    · rw [e1] at hp
      simp only [Option.isSome_some, if_true, Option.some.injEq, Prod.mk.injEq] at hp
      obtain ⟨rfl, rfl⟩ := hp
      rw [e2]
      simp only [Option.isSome_some, if_true]
      have c1 : (xs.map (putP k v)).map (fun p => p.1) = xs.map (fun p => p.1) := by
        rw [List.map_map]
        refine List.map_congr_left fun q hq => ?_
        show (putP k v q).1 = q.1
        unfold putP; split <;> rfl
      have c2 : (xs.map (putP k v)).map (fun p => V.ref p.2.1) = xs.map (fun p => V.ref p.2.1) := by
        rw [List.map_map]
        refine List.map_congr_left fun q hq => ?_
        show V.ref (putP k v q).2.1 = V.ref q.2.1
        unfold putP; split <;> rfl
      refine ⟨?_, by rw [c2]; exact h2, dSet_rel rv h1 h3⟩
      have := congrArg (List.map some) c1
      rw [h1]
      simpa [List.map_map, Function.comp_def] using this.symm
  · cases hp
end
/-! ### in, not in -/
section
variable {g : Gs} {E : XK} {H0 : Hp} {X : Cx}
def rInK (g : Gs) (f : Bool → Bool) : R2 := fun x y H Q => ∃ a b xs k, x = .ref b ∧ y = .ref a ∧ H a = some (dctO g a xs) ∧ KeysH g H xs ∧ KeyH g H k b ∧ k.depth ≤ 8 ∧ Q (.bl (f (atX xs k).isSome)) H
theorem at_some {k : NestedKey} {xs : List (NestedKey × Addr × V)} {ys : List (NestedKey × Addr × Value)} (h : Paired PF xs ys) : (atKey ys k).isSome = (atX xs k).isSome := by
  rcases at_rel (k := k) h with ⟨e1, e2⟩ | ⟨v', b', u', e1, e2, _⟩ <;> rw [e1, e2] <;> rfl
theorem op_inK (ok : Ok g X) : OpR X (compareOp .In) (rInK g fun b => b) := by
  intro pins s σ H x y v u Q I rx ry h
  obtain ⟨a, b, xs, k, rfl, rfl, hD, kh, kb, hd, q⟩ := h
  cases rx
  cases ry
  obtain ⟨h1, h2, h3, ys, h5, hm⟩ := dct_of I ok hD kh
  have hu : X.A.in1.units + 8 < cLine := by have := ok.un; show X.A.units + 1 + 8 < cLine; omega
  refine wpAny_in_heap hu (kb.is I ok hd) h1 hm ?_
  exact ⟨.bl _, H, I.tok _, rfl, by rw [at_some h5]; exact q⟩
theorem op_notInK (ok : Ok g X) : OpR X (compareOp .NotIn) (rInK g fun b => !b) := by
  intro pins s σ H x y v u Q I rx ry h
  obtain ⟨a, b, xs, k, rfl, rfl, hD, kh, kb, hd, q⟩ := h
  cases rx
  cases ry
  obtain ⟨h1, h2, h3, ys, h5, hm⟩ := dct_of I ok hD kh
  have hu : X.A.in1.units + 8 < cLine := by have := ok.un; show X.A.units + 1 + 8 < cLine; omega
  show wpAny _ _ (do return Value.bool (!(← contains (.ref a) (.ref b)))) _ _ _
  refine wpAny_bind (wpAny_contains_heap hu (kb.is I ok hd) h1 hm (wpAny_pure ?_))
  exact ⟨.bl _, H, I.tok _, rfl, by rw [at_some h5]; exact q⟩
def fInD (f : Bool → Bool) : D → D → Bs → Rs D
  | d, .dct ks ds, B => match keyT d with
    | some k => .ok (.bool (f (dAt ks ds k).isSome)) B
    | Option.none => .bad
  | d, e, B => fInG f d e B
theorem os_inK {f : Bool → Bool} {r : R2} (h : OpSem g E H0 r (fInG f)) : OpSem g E H0 (fun x y H Q => rInK g f x y H Q ∨ r x y H Q) (fInD f) := by
  intro w σI B σ H Q x y dx dy s rx ry p
  unfold fInD at p
  split at p
  · split at p
    · rename_i ks ds k hk
      obtain ⟨⟨ts, rfl⟩, hn, hd⟩ := keyT_ok hk
      obtain ⟨a, xs, rfl, hD, dc⟩ := ry.dct s
      have rk := rx.tupR s
      obtain ⟨b, vs, e, _⟩ := rx.tup s
      subst e
      refine .inl ⟨a, b, xs, k, rfl, rfl, hD, DC.keys s.rb.sub dc, ⟨w, _, s.rb.sub, rk, hn⟩, hd, ?_⟩
      rcases dAt_rel (k := k) dc.1 dc.2.2 with ⟨e1, e2⟩ | ⟨d', v', e1, e2, _⟩ <;> rw [e2] <;> rw [e1] at p <;> exact p.nowR s (rep_bool g w _)
    · exact p.elim
  · exact .inr (h w σI B σ H Q x y _ _ s rx ry p)
theorem fInD_bl (f : Bool → Bool) : ∀ d e B, fInD f d e B = .bad ∨ ∃ b B', fInD f d e B = .ok (.bool b) B' := fun d e B => by
  unfold fInD
  split
  · split
    · exact .inr ⟨_, _, rfl⟩
    · exact .inl rfl
  · exact fIn_bl f d e B
theorem c_inA (ok : Ok g X) : Cmp g E H0 X .In (fInD fun b => b) := by
  have h : Cmp g E H0 X .In fIn := c_in ok
  obtain ⟨r, h1, h2⟩ := h.ex
  exact ⟨⟨_, (op_inK ok).or h1, os_inK h2⟩, fInD_bl _⟩
theorem c_notinA (ok : Ok g X) : Cmp g E H0 X .NotIn (fInD fun b => !b) := by
  have h : Cmp g E H0 X .NotIn fNotIn := c_notin ok
  obtain ⟨r, h1, h2⟩ := h.ex
  exact ⟨⟨_, (op_notInK ok).or h1, os_inK h2⟩, fInD_bl _⟩
end
/-! ### d.get(k, x) -/
section
variable {g : Gs} {E : XK} {H0 : Hp} {X : Cx} {o e e2 : Expr} {to te tf : TE} {mo me mf : Ev} {apos cpos : Pos} {b1 b2 b3 : Bool}
end
end Hf

set_option Elab.async false
set_option linter.all false
set_option maxRecDepth 100000
set_option maxHeartbeats 4000000
namespace Hf
open PySem PySem.Spec PyProof.Rows L2

/-! ### {k: v for ..}, the keys tuples: turned from the library's rule for keys that are whole numbers or texts -/
section
variable {X : Cx}
def tDcK (g0 : Gs) (wi : TI) (gt : TG) (tt : TT) (tk tv : TE) (vs : List Nat) : TE := fun σ H Q => wi σ H fun J G1 => ∀ D, G1 D = none → ∃ W : Nat → Nat → Hp → Prop, (∃ m, W 0 m (upd G1 D (dctO g0 D []))) ∧ ∀ i m H, W i m H →
  (J.stop i H ∧ Q (.ref D) H) ∨ (J.go i H ∧ ∃ Nx : Hp → Prop, (∀ H', Nx H' → ∃ m', m' < m ∧ W (i + 1) m' H') ∧ ∀ x H', J.yld i H x H' → gt x (wipe σ vs) H' fun τ2 G2 => wipe τ2 vs = wipe σ vs ∧ tt τ2 G2 fun b G3 =>
    if b = true then tk τ2 G3 fun y G4 => tv τ2 G4 fun z G5 => ∃ xs k b, y = .ref b ∧ G5 D = some (dctO g0 D xs) ∧ KeysH g0 G5 xs ∧ KeyH g0 G5 k b ∧ k.depth ≤ 8 ∧ xs.length < sizeLine ∧ Nx (upd G5 D (dctO g0 D (stX xs k b z))) else Nx G3)
theorem dk_core {pins : List (Addr × Obj)} {s : Shared} {σ : L2.St} {H : Hp} {Q : VK} {ke ve tg iter : Expr} {ifs : List Expr} {scope : Scope} {mine : List (Str × Nat)} {pos pos2 : Pos} {g0 : Gs} {wi : TI} {gt : TG} {tt : TT} {tk tv : TE} {use : Option (Value → Sem Unit)} {Qf : Value → Shared → Prop}
    (ok0 : Ok g0 X) (hc : X.calm = true) (hN : X.N.Nodup) (I : Inv X pins σ H s) (hi : PI X tg iter wi) (ok : BlkOk X.N X.env.scope scope mine)
    (hg : ∀ (s : Shared) (H : Hp) (C : Addr) (cl : List (Str × Addr)) (fp : List Addr), PG (X.blk s H scope (compEnvC scope cl C X.env) fp) tg gt) (ht : ∀ (s : Shared) (H : Hp) (C : Addr) (cl : List (Str × Addr)) (fp : List Addr), PTs (X.blk s H scope (compEnvC scope cl C X.env) fp) ifs tt)
    (hk : ∀ (s : Shared) (H : Hp) (C : Addr) (cl : List (Str × Addr)) (fp : List Addr), PE (X.blk s H scope (compEnvC scope cl C X.env) fp) ke tk)
    (he : ∀ (s : Shared) (H : Hp) (C : Addr) (cl : List (Str × Addr)) (fp : List Addr), PE (X.blk s H scope (compEnvC scope cl C X.env) fp) ve tv) (hs : ∀ x, foldedSetIterable iter X.env x = pure x)
    (h : tDcK g0 wi gt tt tk tv (mine.map (·.2)) σ H Q)
    (hRR : ∀ D C s' m H', Inv X pins σ H' s' → Q (.ref D) H' → s'.heap.Ns C m → FpOk X pins H' C → compPost (model X.prog X.w) X.A X.xe use Qf (.ref D) C (.ok .next) s') :
    wpAny (model X.prog X.w) X.A (comprehension (.DictComp ke ve [⟨tg, iter, ifs, 0⟩] scope pos) scope X.env pos2 newDict false (eval iter X.env) use) Qf X.xe s := by
  have hfree : ∀ y ∈ scope.names, y.2 = .free → ∃ c, X.env.cells.lookup y.1 = some c := fun y hy e => by
    rcases ok.free y hy e with k | k
    · exact I.ok.has _ (.inl k)
    · exact I.ok.has _ (.inr k)
  refine wpAny_comprehension_free (use := use) rfl hs (closure_ok hfree) ok.kind (fun y hy e => by rw [ok.uniq y hy, e])
    (thn (hi.run pins s σ H _ I h) fun xv u1 hx => thn hx fun itv u2 hh2 => ?_)
  obtain ⟨it, fp, tn, J, G2, e, J2, T, stt2, ff2, q⟩ := hh2
  subst e
  refine wpAny_newObj_type (newEnv_comp ?_)
  generalize hD : u2.heap.objs.size = D
  have hEn : G2 D = none := J2.hok.fresh (Nat.le_of_eq hD)
  obtain ⟨W, ⟨mm0, ww0⟩, step1⟩ := q D hEn
  -- the new list
  generalize hv3 : ({ u2 with heap := u2.heap.push { cls := .type "dict", data := .dict #[] } } : Shared) = u3
  have J3 : Inv X pins σ (upd G2 D (dctO g0 D [])) u3 := by
    rw [← hv3]
    refine J2.laid (t' := u2.toks) (fun b o e => Heap.get?_push_of_some _ e) (Nat.le_of_eq hD) ?_
    rw [← hD]
    exact dct_new ok0 u2.heap J2.big
  have hh3 : u3.heap = u2.heap.push { cls := .type "dict", data := .dict #[] } := by rw [← hv3]
  have sz : ∀ b ∈ fp, b < u2.heap.objs.size := fun b hb => by
    obtain ⟨o, e, _⟩ := T.obj _ _ stt2 b hb
    exact Heap.lt_size e
  have ff3 : ∀ b ∈ fp, FpOk X pins (upd G2 D (dctO g0 D [])) b ∧ b < u3.heap.objs.size := fun b hb => by
    have hlt := sz b hb
    refine ⟨⟨?_, (ff2 b hb).2⟩, by rw [hh3, Heap.size_push]; exact Nat.lt_succ_of_lt hlt⟩
    rw [upd_ne (by rw [← hD]; exact Nat.ne_of_lt hlt)]
    exact (ff2 b hb).1
  have stt3 : tn 0 u3.heap := T.keep _ _ _ stt2 fun b _ o e => by rw [hh3]; exact Heap.get?_push_of_some _ e
  have J4 := block_start J3 ok hN ff3
  have pg := hg u3 (upd G2 D (dctO g0 D [])) u3.heap.objs.size (cellsFrom (u3.heap.objs.size + 1) scope.names (cloFrom X.env.cells scope.names [])) fp
  have pt := ht u3 (upd G2 D (dctO g0 D [])) u3.heap.objs.size (cellsFrom (u3.heap.objs.size + 1) scope.names (cloFrom X.env.cells scope.names [])) fp
  have pk := hk u3 (upd G2 D (dctO g0 D [])) u3.heap.objs.size (cellsFrom (u3.heap.objs.size + 1) scope.names (cloFrom X.env.cells scope.names [])) fp
  have pe := he u3 (upd G2 D (dctO g0 D [])) u3.heap.objs.size (cellsFrom (u3.heap.objs.size + 1) scope.names (cloFrom X.env.cells scope.names [])) fp
  show codeAny _ _ (.compStart (.DictComp ke ve [⟨tg, iter, ifs, 0⟩] scope pos) 0 (.ref it) (.ref D) (compEnvC scope (cellsFrom (u3.heap.objs.size + 1) scope.names (cloFrom X.env.cells scope.names [])) u3.heap.objs.size X.env)) (compPost (model X.prog X.w) X.A X.xe use Qf (.ref D) u3.heap.objs.size) { u3 with heap := pushCells (u3.heap.push { cls := .type "dict", data := .dict #[] }) scope.names }
  have nofp : ∀ b ∈ fp, (upd G2 D (dctO g0 D [])) b = none := fun b hb => (ff3 b hb).1.1
  generalize hce : compEnvC scope (cellsFrom (u3.heap.objs.size + 1) scope.names (cloFrom X.env.cells scope.names [])) u3.heap.objs.size X.env = ce at J4 pg pt pk pe ⊢
  have cL : ce.locals = u3.heap.objs.size := by subst hce; rfl
  generalize hG3 : upd G2 D (dctO g0 D []) = G3 at J3 J4 pg pt pk pe ww0 nofp ff3
  generalize hv4 : ({ u3 with heap := pushCells (u3.heap.push { cls := .type "dict", data := .dict #[] }) scope.names } : Shared) = u4 at J4 ⊢
  have stt4 : tn 0 u4.heap := T.keep _ _ _ stt3 fun b _ o e => by rw [← hv4]; exact pushCells_keeps _ _ _ _ (Heap.get?_push_of_some _ e)
  have fpst : ∀ {σ' : L2.St} {H' : Hp} {s' : Shared}, Inv (X.blk u3 G3 scope ce fp) [] σ' H' s' → (∀ b ∈ fp, H' b = none) → ∀ b ∈ fp, FpOk (X.blk u3 G3 scope ce fp) [] H' b := fun {σ' H' s'} I' hn b hb =>
    ⟨hn b hb, (I'.ok.exf b hb).1, I'.ok.exfs b hb, .inl hb, fun x c e => (I'.ok.exf b hb).2 x c e, fun p hp => absurd (show p ∈ ([] : List (Addr × Obj)) ++ [] from hp) (by simp)⟩
  have loop : codeAny (model X.prog X.w) X.A (.compLoop (.DictComp ke ve [⟨tg, iter, ifs, 0⟩] scope pos) 0 (.ref it) (.ref D) ce) (compPost (model X.prog X.w) X.A X.xe use Qf (.ref D) u3.heap.objs.size) u4 := by
    refine compLoop_anyD (fun n s' => ∃ i H', Inv (X.blk u3 G3 scope ce fp) [] (wipe σ (mine.map (·.2))) H' s' ∧ tn i s'.heap ∧ (∀ b ∈ fp, H' b = none) ∧ W i n H') ?_ mm0 ⟨0, G3, J4, stt4, nofp, ww0⟩
    rintro n u5 ⟨i, G5, J5, stt5, nn5, ww5⟩
    rcases step1 i n G5 ww5 with ⟨stop, qq⟩ | ⟨go, Nx, hNn, step2⟩
    · have td := T.done (X.blk u3 G3 scope ce fp) rfl rfl rfl hc i [] u5 _ G5 (fun _ _ => False) J5 (fpst J5 nn5) stt5 stop
      refine thnF td fun r u6 ⟨hr, J6⟩ => ?_
      subst hr
      -- back in the def's context
      have J7 : Inv X pins σ G5 u6 := J3.call' (ch := fp) J6.os J6.base J6.hok J6.bare fun b hb => ⟨(ff3 b hb).1.2.2.2.1, (ff3 b hb).1.2.1, (ff3 b hb).1.2.2.2.2.1, (ff3 b hb).1.2.2.2.2.2⟩
      have nC : G5 u3.heap.objs.size = none := by
        have z : G5 ce.locals = none := J6.free
        rw [cL] at z
        exact z
      obtain ⟨m, hn, _⟩ := J6.loc
      have hn : u6.heap.Ns ce.locals m := hn
      rw [cL] at hn
      exact hRR D u3.heap.objs.size u6 m G5 J7 qq hn (J3.fpOk (Nat.le_refl _) nC)
    · have ti := T.item (X.blk u3 G3 scope ce fp) rfl rfl rfl hc i [] u5 _ G5 (fun _ _ => False) J5 (fpst J5 nn5) stt5 go
      refine thnF ti fun r u6 ⟨u, hr, hh6⟩ => ?_
      subst hr
      refine thnF hh6 fun _ u7 ⟨x, G7, J7, rr7, yy7, stt7, nn7⟩ => ?_
      have I7' := J7.pinned (fpst J7 nn7) (T.obj _ _ stt7)
      refine thnF (pg.run _ u7 _ G7 x u _ I7' rr7 (step2 x G7 yy7)) fun _ u8 ⟨τ8, G8, J8, hx8, p8⟩ => ?_
      refine thnF (pt.run _ u8 τ8 G8 _ J8 p8) fun b u9 ⟨G9, J9, p9⟩ => ?_
      -- the turn's end
      have fin : ∀ {s' : Shared} {H' : Hp}, Inv (X.blk u3 G3 scope ce fp) ([] ++ pinsAt fp u7.heap) τ8 H' s' → Nx H' → ∃ m, m < n ∧ ∃ i H', Inv (X.blk u3 G3 scope ce fp) [] (wipe σ (mine.map (·.2))) H' s' ∧ tn i s'.heap ∧ (∀ b ∈ fp, H' b = none) ∧ W i m H' := fun {s' H'} I' nx => by
        obtain ⟨m', hm, w'⟩ := hNn H' nx
        have pin' : ∀ b ∈ fp, ∀ o, u7.heap.get? b = some o → s'.heap.get? b = some o ∧ H' b = none := fun b hb o e =>
          let z := I'.pin (b, o) (List.mem_append_right _ (List.mem_append_right _ (mem_pinsAt hb e)))
          ⟨z.1, z.2.1⟩
        have hl : (wipe σ (mine.map (·.2))).length = τ8.length := by rw [← hx8, wipe_length]
        refine ⟨m', hm, i + 1, H', (I'.unpinned (pins := [])).weak hl (fun j v e => ?_), T.keep _ _ _ stt7 fun b hb o e => (pin' b hb o e).1, fun b hb => ?_, w'⟩
        · rw [← hx8] at e
          exact (wipe_some e).1
        · obtain ⟨o, e, _⟩ := T.obj _ _ stt7 b hb
          exact (pin' b hb o e).2
      cases b with
      | false =>
        simp only [Bool.false_eq_true, if_false] at p9 ⊢
        exact fin J9 p9
      | true =>
        simp only [if_true] at p9 ⊢
        refine thnF (pk.run _ u9 τ8 G9 _ J9 p9) fun z u10 ⟨yk, G10, J10, rr10, p10⟩ => ?_
        refine thnF (pe.run _ u10 τ8 G10 _ J10 p10) fun z2 u11 ⟨yv, G11, J11, rr11, xs, k, b, ek, hE11, kh, kb, hdp, hy11, nx⟩ => ?_
        subst ek
        cases rr10
        exact d_setK (X := X.blk u3 G3 scope ce fp) J11 (ok0.blk u3 G3 scope ce fp) hE11 kh kb hdp hy11 rr11 fun u12 J12 => fin J12 nx
  exact codeAny_compStart_dict loop (T.self X.A 0 _ _ _ stt4 loop)
/-- as a value -/
theorem pe_dcK {ke ve tg iter : Expr} {ifs : List Expr} {scope : Scope} {mine : List (Str × Nat)} {pos : Pos} {g0 : Gs} {wi : TI} {gt : TG} {tt : TT} {tk tv : TE} (ok0 : Ok g0 X) (hc : X.calm = true) (hN : X.N.Nodup) (hi : PI X tg iter wi) (ok : BlkOk X.N X.env.scope scope mine)
    (hg : ∀ (s : Shared) (H : Hp) (C : Addr) (cl : List (Str × Addr)) (fp : List Addr), PG (X.blk s H scope (compEnvC scope cl C X.env) fp) tg gt) (ht : ∀ (s : Shared) (H : Hp) (C : Addr) (cl : List (Str × Addr)) (fp : List Addr), PTs (X.blk s H scope (compEnvC scope cl C X.env) fp) ifs tt)
    (hk : ∀ (s : Shared) (H : Hp) (C : Addr) (cl : List (Str × Addr)) (fp : List Addr), PE (X.blk s H scope (compEnvC scope cl C X.env) fp) ke tk)
    (he : ∀ (s : Shared) (H : Hp) (C : Addr) (cl : List (Str × Addr)) (fp : List Addr), PE (X.blk s H scope (compEnvC scope cl C X.env) fp) ve tv) (hs : ∀ x, foldedSetIterable iter X.env x = pure x := by intro _; rfl) :
    PE X (.DictComp ke ve [⟨tg, iter, ifs, 0⟩] scope pos) (tDcK g0 wi gt tt tk tv (mine.map (·.2))) := by
  refine ⟨fun pins s σ H Q I h => ?_⟩
  rw [arm_eval_DictComp]
  refine dk_core ok0 hc hN I hi ok hg ht hk he hs h fun D C s' m H' I' q hn f => ⟨m, hn, fun h'' sb => ?_⟩
  obtain ⟨ff0, ff1, ff2, ff3, ff4, ff5⟩ := f
  exact ⟨.ref D, H', I'.turned (t' := s'.toks) (fun b o hb e => (sb.2 b hb).trans e) ff0 ff1 ff3 ff4 ff5, rfl, q⟩
end

def dcL (t : Tg) (mt : Et) (mk mv : Ev) (σ : Sl) : List D → List D × List D → Bs → Rs (List D × List D)
  | [], acc, B => .ok acc B
  | d :: ds, acc, B => match t d σ with
    | some σ' => (mt σ' B).bind fun k B1 => if k then (mk σ' B1).bind fun kd B2 => (mv σ' B2).bind fun vd B3 => (match dPut acc.1 acc.2 kd vd with
        | some acc' => dcL t mt mk mv σ ds acc' B3
        | Option.none => .bad) else dcL t mt mk mv σ ds acc B1
    | Option.none => .bad
def mDc (vs : List Nat) (t : Tg) (mi : Ei) (mt : Et) (mk mv : Ev) : Ev := fun σ B => (mi σ B).bind fun ds B1 => (noX (dcL t mt mk mv (wipeI σ vs) ds ([], []) B1)).bind fun r B2 => .ok (.dct r.1 r.2) B2
theorem dcL_cons {t : Tg} {mt : Et} {mk mv : Ev} {σ : Sl} {d : D} {ds : List D} {acc r : List D × List D} {B B' : Bs} (h : dcL t mt mk mv σ (d :: ds) acc B = .ok r B') :
    ∃ σ' k B1, t d σ = some σ' ∧ mt σ' B = .ok k B1 ∧ ((k = true ∧ ∃ kd B2 vd B3 acc', mk σ' B1 = .ok kd B2 ∧ mv σ' B2 = .ok vd B3 ∧ dPut acc.1 acc.2 kd vd = some acc' ∧ dcL t mt mk mv σ ds acc' B3 = .ok r B') ∨ (k = false ∧ dcL t mt mk mv σ ds acc B1 = .ok r B')) := by
  simp only [dcL] at h
  cases e1 : t d σ with
  | none => rw [e1] at h; cases h
  | some σ' =>
    rw [e1] at h
    simp only at h
    cases e2 : mt σ' B with
    | bad => rw [e2] at h; cases h
    | exc _ _ _ => rw [e2] at h; cases h
    | ok k B1 =>
      rw [e2] at h
      simp only [Rs.bind] at h
      refine ⟨σ', k, B1, rfl, e2, ?_⟩
      cases k with
      | false => exact .inr ⟨rfl, h⟩
      | true =>
        simp only [if_true] at h
        cases e3 : mk σ' B1 with
        | bad => rw [e3] at h; cases h
        | exc _ _ _ => rw [e3] at h; cases h
        | ok kd B2 =>
          rw [e3] at h
          simp only at h
          cases e4 : mv σ' B2 with
          | bad => rw [e4] at h; cases h
          | exc _ _ _ => rw [e4] at h; cases h
          | ok vd B3 =>
            rw [e4] at h
            simp only at h
            cases e5 : dPut acc.1 acc.2 kd vd with
            | none => rw [e5] at h; cases h
            | some acc' =>
              rw [e5] at h
              exact .inl ⟨rfl, kd, B2, vd, B3, acc', rfl, e4, e5, h⟩
section
variable {g : Gs} {E : XK} {w0 w : Wd} {H H0 : Hp} {σI : Sl} {σ : L2.St} {B : Bs} {X : Cx}
def DcInv (g : Gs) (H0 : Hp) (w : Wd) (H : Hp) (w1 : Wd) (σI : Sl) (σ : L2.St) (vs : List Nat) (t : Tg) (mt : Et) (mk mv : Ev) (ds : List D) (r : List D × List D) (B' : Bs) (Da : Addr) (i : Nat) (H' : Hp) : Prop :=
  ∃ w' B2 acc xs, Ext w H w' H' ∧ Le w1 w' ∧ S0 g H0 w' σI B2 σ H' ∧ H' Da = some (dctO g Da xs) ∧ DC g w' acc.1 acc.2 xs ∧ w'.P Da = Option.none ∧ (∀ n, w'.io n ≠ some Da) ∧ (∀ (j : Nat) (e : D), σI[j]? = some (some (true, e)) → σ[j]? ≠ some (some (V.ref Da))) ∧
    dcL t mt mk mv (wipeI σI vs) (ds.drop i) acc B2 = .ok r B'
theorem dc_at {t : Tg} {mi : Ei} {mt : Et} {mk mv : Ev} {sl vs : List Nat} {wi : TI} (hwi : wi = tIi g E H0 mi) (hsl : ∀ j ∈ sl, j ∈ vs) {Q : VK} (s : S0 g H0 w σI B σ H) (p : PostE g E w H σI σ false Q (mDc vs t mi mt mk mv σI B)) :
    tDcK g wi (tG g H0 t sl) (tIt g E0 H0 mt) (tI g E0 H0 false mk) (tI g E0 H0 false mv) vs σ H Q := by
  subst hwi
  refine ⟨w, σI, B, s, ?_⟩
  unfold mDc at p
  cases q : mi σI B with
  | bad => rw [q] at p; exact p
  | exc c y B1 => rw [q] at p; exact p
  | ok ds B1 =>
    rw [q] at p
    simp only [Rs.bind] at p
    intro w1 J H1 x1 rb1 it D hD
    have s1 := s.step x1 rb1
    cases q2 : dcL t mt mk mv (wipeI σI vs) ds ([], []) B1 with
    | bad => rw [q2] at p; exact p.elim
    | exc c y B1 => rw [q2] at p; exact p.elim
    | ok r B' =>
      rw [q2] at p
      simp only [noX] at p
      have nD : H D = Option.none := Classical.byContradiction fun z => x1.there D z hD
      have start : DcInv g H0 w H w1 σI σ vs t mt mk mv ds r B' D 0 (upd H1 D (dctO g D [])) :=
        ⟨w1, B1, ([], []), [], x1.mut nD, Le.refl _, s1.other (s1.rb.fresh_P hD) (s1.rb.fresh_io hD) (fun j e hj => s1.own_ne hj hD) (fun u q => by rw [hD] at q; cases q), upd_same, DC.nil, s1.rb.fresh_P hD, s1.rb.fresh_io hD, fun j e hj => s1.own_ne hj hD, by simpa using q2⟩
      refine ⟨fun i m H' => m = ds.length - i ∧ i ≤ ds.length ∧ DcInv g H0 w H w1 σI σ vs t mt mk mv ds r B' D i H', ⟨ds.length, by simp, Nat.zero_le _, start⟩, ?_⟩
      rintro i m H' ⟨rfl, hi, w', B2, acc, xs, x', l', s', eD, dc, np, nb, nw, q3⟩
      by_cases hlt : i < ds.length
      · refine .inr ⟨it.go i H' hlt (l'.P.trans s'.rb.sub), DcInv g H0 w H w1 σI σ vs t mt mk mv ds r B' D (i + 1), fun H2 q => ⟨ds.length - (i + 1), by omega, rfl, hlt, q⟩, fun y H2 yl => ?_⟩
        obtain ⟨w2, x2, rb2, r2⟩ := it.yld i H' y H2 ds[i] w' B2 (List.getElem?_eq_getElem hlt) l' s'.rb yl
        have s2 := s'.step x2 rb2
        rw [List.drop_eq_getElem_cons hlt] at q3
        obtain ⟨σ', k, B3, et, em, q4⟩ := dcL_cons q3
        refine ⟨w2, ds[i], wipeI σI vs, B2, σ', s2.wipe vs, r2, et, fun σ2 s3 hl hk => ⟨(wipe_eq hl fun j hj => hk j fun z => hj (hsl j z)).trans (wipe_wipe _ _), ?_⟩⟩
        have keep : ∀ {wa wb : Wd} {Ha Hb : Hp}, Ext wa Ha wb Hb → Same wb.P Hb → Ha D = some (dctO g D xs) → wa.P D = Option.none → (∀ n, wa.io n ≠ some D) → Hb D = some (dctO g D xs) ∧ wb.P D = Option.none ∧ ∀ n, wb.io n ≠ some D := by
          intro wa wb Ha Hb x sb e n1 n2
          refine ⟨x.keep D _ e n2 (nt_dct _ _ _).t, ?_, fun n z => ?_⟩
          · cases q : wb.P D with
            | none => rfl
            | some u =>
              rcases x.pf D u q with z | z | z
              · rw [n1] at z; cases z
              · rw [e] at z; cases z
              · have y := sb D u q
                rw [x.keep D _ e n2 (nt_dct _ _ _).t] at y; cases y
                exact ((nt_dct _ _ _).px z).elim
          · rcases x.iof n D z with z | z
            · exact n2 n z
            · rw [e] at z; cases z
        obtain ⟨eD2, np2, nb2⟩ := keep x2 rb2.sub eD np nb
        refine tIt_go s3 (fun c x B1 q => by rw [em] at q; cases q) (by rw [em]; simp) fun k' B4 q5 w3 H3 x3 s4 => ?_
        rw [em] at q5; cases q5
        obtain ⟨eD3, np3, nb3⟩ := keep x3 s4.rb.sub eD2 np2 nb2
        have sO := (s2.step x3 s4.rb)
        rcases q4 with ⟨rfl, kd, B5, vd, B6, acc', e1, e2, e3, e4⟩ | ⟨rfl, e2⟩
        · rw [if_pos rfl]
          refine tI_go s4 (fun c x B1 q => by rw [e1] at q; cases q) (by rw [e1]; simp) fun d B7 q6 w4 v H4 x4 s5 r4 => ?_
          rw [e1] at q6; cases q6
          obtain ⟨eD4, np4, nb4⟩ := keep x4 s5.rb.sub eD3 np3 nb3
          refine tI_go s5 (fun c x B1 q => by rw [e2] at q; cases q) (by rw [e2]; simp) fun d' B8 q7 w5 v' H5 x5 s6 r5 => ?_
          rw [e2] at q7; cases q7
          obtain ⟨eD5, np5, nb5⟩ := keep x5 s6.rb.sub eD4 np4 nb4
          have hk : ∃ k, keyT kd = some k := by
            unfold dPut at e3
            cases hk : keyT kd with
            | none => rw [hk] at e3; cases e3
            | some k => exact ⟨k, rfl⟩
          obtain ⟨k, hk⟩ := hk
          obtain ⟨⟨ts, rfl⟩, hn, hd⟩ := keyT_ok hk
          have r4' : Rep g w5 (.tup ts) v := Rep.mono x5.le _ _ r4
          have rr := r4'
          simp only [Rep] at rr
          obtain ⟨b, _, rfl, _⟩ := rr
          have r5' : Rep g w5 vd v' := r5
          have l5 : Le w' w5 := ((x2.le.trans x3.le).trans x4.le).trans x5.le
          have dc5 := dc.mono l5
          obtain ⟨dc6, hz⟩ := dc5.put r4' r5' hk e3
          exact ⟨xs, k, b, rfl, eD5, dc5.keys s6.rb.sub, ⟨w5, _, s6.rb.sub, r4', hn⟩, hd, hz, w5, B6, acc', _, ((((x'.trans x2).trans x3).trans x4).trans x5).mut nD, l'.trans l5, ((sO.step x4 s5.rb).step x5 s6.rb).other np5 nb5 nw (fun u q => by rw [eD5] at q; cases q; exact nt_dct _ _ _), upd_same, dc6, np5, nb5, nw, e4⟩
        · rw [if_neg (by simp)]
          exact ⟨w3, B3, acc, xs, (x'.trans x2).trans x3, (l'.trans x2.le).trans x3.le, sO, eD3, dc.mono (x2.le.trans x3.le), np3, nb3, nw, e2⟩
      · rw [List.drop_eq_nil_of_le (by omega)] at q3
        simp only [dcL] at q3
        cases q3
        obtain ⟨xx, rb'⟩ := reg_ext x' s'.rb eD nD np nb (nt_dct _ _ _)
        refine .inl ⟨it.stop i H' (by omega) (l'.P.trans s'.rb.sub), p (regW w' D (dctO g D xs)) _ H' xx rb' ?_⟩
        have dc' := dc.mono (regLe w' (o := dctO g D xs) np)
        simp only [RepB, Rep]
        exact ⟨D, xs, rfl, upd_same, dc'⟩
variable {kx vx tg iter : Expr} {ifs : List Expr} {scope : Scope} {own : List (Str × Nat)} {pos : Pos} {t : Tg} {mi : Ei} {mt : Et} {mk mv : Ev} {sl : List Nat}
theorem s_dc (c : Ok g X) (hN : X.N.Nodup) (hi : SndI g E H0 X tg iter mi) (ok : BlkOk X.N X.env.scope scope own) (hsl : ∀ j ∈ sl, j ∈ own.map (·.2))
    (hg : ∀ (s : Shared) (H : Hp) (C : Addr) (cl : List (Str × Addr)) (fp : List Addr), SndG g H0 (X.blk s H scope (compEnvC scope cl C X.env) fp) tg t sl) (ht : ∀ (s : Shared) (H : Hp) (C : Addr) (cl : List (Str × Addr)) (fp : List Addr), SndTs g E0 H0 (X.blk s H scope (compEnvC scope cl C X.env) fp) ifs mt)
    (hk : ∀ (s : Shared) (H : Hp) (C : Addr) (cl : List (Str × Addr)) (fp : List Addr), Snd g E0 H0 (X.blk s H scope (compEnvC scope cl C X.env) fp) false kx mk)
    (he : ∀ (s : Shared) (H : Hp) (C : Addr) (cl : List (Str × Addr)) (fp : List Addr), Snd g E0 H0 (X.blk s H scope (compEnvC scope cl C X.env) fp) false vx mv) (hs : ∀ x, foldedSetIterable iter X.env x = pure x := by intro _; rfl) :
    Snd g E H0 X false (.DictComp kx vx [⟨tg, iter, ifs, 0⟩] scope pos) (mDc (own.map (·.2)) t mi mt mk mv) :=
  weak (pe_dcK c c.calm hN hi ok hg ht hk he hs) fun σ H Q ⟨w, σI, B, s, p⟩ => dc_at rfl hsl s p
end
end Hf

set_option Elab.async false
set_option linter.all false
set_option maxRecDepth 100000
set_option maxHeartbeats 4000000
namespace Hf
open PySem PySem.Spec PyProof.Rows L2

/-! ### special methods of one's own classes -/
section
variable {X : Cx} {CX : CXT} {k : Nat} {fa : Addr} {sp : Sp} {E : XK} {pins : List (Addr × Obj)} {σ : L2.St} {H : Hp} {s : Shared} {Q : VK} {us : List Value} {vs : List V} {A' : Around}
theorem run_nox {E' : Value → Shared → Prop} (F : FnR X.prog X.w X.K X.mg X.base (L2N.CX X.prog X.w) k fa sp) (hr : Room k A') (e0 : Env0 X.prog X.w X.K X.mg X.base A' X.stack s H) (I : Inv X pins σ H s) (r : Vals vs us) (h : sp vs H Q E0) :
    wpAny (model X.prog X.w) A' (call (.ref fa) us) (EP X pins σ Q) E' s := by
  refine wpAny_call (codeAny_mono (F A' X.stack s H us vs Q E0 hr e0 r h) fun r s' hq => ?_)
  cases r with
  | error e =>
    obtain ⟨_, _, _, _, _, _, _, _, _, _, _, _, z⟩ := hq
    exact z.elim
  | ok fl =>
    cases fl with
    | ret u => exact I.after hq
    | next | brk | cont => exact False.elim hq
end
section
variable {g : Gs} {E : XK} {w0 w : Wd} {H0 H : Hp} {X : Cx} {o e a b : Expr} {es : List Expr} {m ma mb : Ev} {ms : Evs} {pos p p1 p2 apos : Pos} {x n : Str} {f : Fn} {lv k c : Nat} {dfl : List D} {σI : Sl} {σ : L2.St} {B : Bs} {Q : VK} {b1 b2 bo : Bool} {i : Nat}
/-- an instance, where it stands -/
theorem inst_at {pins : List (Addr × Obj)} {σ : L2.St} {H : Hp} {s : Shared} {a C dx : Addr} {fs : List (Str × V)} (I : Inv X pins σ H s) (h : H a = some (.ins C dx fs)) : ∃ od, PySem.W.InstAt s.heap a (PySem.W.instObj C dx) C (some od) := by
  obtain ⟨mA, O, _⟩ := ins_get I.hok h
  obtain ⟨od, J, _⟩ := O.look
  exact ⟨od, J⟩
/-! ### o.m(e, ..) -/
end
end Hf

set_option Elab.async false
set_option linter.all false
set_option maxRecDepth 100000
set_option maxHeartbeats 4000000
namespace Hf
open PySem PySem.Spec PyProof.Rows L2

/-! ### instances are made -/
section
variable {g : Gs} {E : XK} {w w' : Wd} {H H' : Hp} {B : Bs} {m : Option Addr}
theorem Ext.withMe (x : Ext { w with me := m } H w' H') : Ext w H { w' with me := w.me } H' := ⟨⟨x.le.P, x.le.io⟩, x.keep, x.pf, x.iof, x.there, rfl⟩
theorem leMe : Le w { w with me := m } := ⟨Same.refl _, fun _ _ h => h⟩
theorem RB.withMe (rb : RB g w B H) : RB g { w with me := m } B H := rb.keep leMe rfl rb.sub (Same.refl _) rb.np rb.nt
theorem ExcR.withMe {c : Nat} {x : Option D} {cls : Value} {dd : Option Addr} (h : ExcR g w c x cls dd H) : ExcR g { w with me := m } c x cls dd H := by
  unfold ExcR at h ⊢
  refine ⟨h.1, ?_⟩
  cases x with
  | none => exact h.2
  | some d =>
    obtain ⟨a, v, h1, h2, h3⟩ := h.2
    exact ⟨a, v, h1, h2, Rep.mono leMe _ _ h3⟩
end
/-- what is wanted of an __init__'s end -/
def PostN (g : Gs) (E : XK) (x : Addr) (w : Wd) (H : Hp) (Q : VK) : Rs D → Prop
  | .ok d B' => ∀ w' H', Ext w H w' H' → RB g w' B' H' → Rep g w' d (.ref x) → Q .non H'
  | .exc c y B' => ∀ w' cls dd H', Ext w H w' H' → RB g w' B' H' → ExcR g w' c y cls dd H' → E cls dd H'
  | .bad => False
/-- the promise of an __init__: what is made of the arguments -/
def spI (g : Gs) (c : Nat) (f : Fn) : Sp := fun vs H Q E => ∃ x dx ws H1 w ds B, vs = V.ref x :: ws ∧ H = upd (upd H1 dx (.own x)) x (.ins (g.cl c) dx []) ∧ H1 x = Option.none ∧ H1 dx = Option.none ∧ dx ≠ x ∧ RB g w B H1 ∧ Reps g w ds ws ∧ PostN g E x w H1 Q (f ds B)
/-- calls of the class c make instances as f says -/
def Ini (g : Gs) (k c : Nat) (f : Fn) : Prop := ∃ fI, L2.Mk g.K (g.cl c) fI ∧ FnR g.prog g.w g.K g.mg g.base (L2N.CX g.prog g.w) k fI (spI g c f) ∧ g.has c = true
section
variable {g : Gs} {E : XK} {w0 w : Wd} {H0 H : Hp} {X : Cx} {o e a b : Expr} {es : List Expr} {m ma mb : Ev} {ms : Evs} {pos p p1 p2 apos : Pos} {x n : Str} {f : Fn} {lv k c : Nat} {dfl : List D} {σI : Sl} {σ : L2.St} {B : Bs} {Q : VK} {b1 b2 bo : Bool} {i : Nat}
theorem make_go {ds : List D} {ws : List V} (rb : RB g w B H) (r : Reps g w ds ws) (p : PostC g E w H Q (f ds B)) : ∀ x dx, H x = Option.none → H dx = Option.none → dx ≠ x →
    spI g c f (V.ref x :: ws) (upd (upd H dx (.own x)) x (.ins (g.cl c) dx [])) (fun v H2 => v = .non ∧ Q (.ref x) H2) E := by
  intro x dx h1 h2 h3
  refine ⟨x, dx, ws, H, w, ds, B, rfl, rfl, h1, h2, h3, rb, r, ?_⟩
  revert p
  generalize f ds B = q
  intro p
  cases q with
  | ok d B' => exact fun w' H' y rb' rr => ⟨rfl, p w' _ H' y rb' rr⟩
  | exc c y B' => exact p
  | bad => exact p
/-- C(*e): the items of e -/
def mMakeS (f : Fn) (m : Ev) : Ev := fun σ B => (m σ B).bind fun d B1 => match d with
  | .tup ds => f ds B1
  | .lst ds => f ds B1
  | _ => .bad
theorem pe_makeS {C fI : Addr} {sp : Sp} {te : TE} {sp_ : Pos} (M : L2.Mk X.K C fI) (F : FnR X.prog X.w X.K X.mg X.base (L2N.CX X.prog X.w) k fI sp) (hr : Room (k + 1) X.A) (hx : Passes (L2N.CX X.prog X.w) X E) (he : PE X e te)
    (hst : starEach [.Starred e sp_] X.env = [(true, eval e X.env)]) (pins : List (Addr × Obj)) (s : Shared) (σ : L2.St) (H : Hp) (I : Inv X pins σ H s)
    (h : te σ H fun y H1 => ∃ a xs, y = V.ref a ∧ (SqT X.K H1 a xs ∨ SqL X.K H1 a xs) ∧ ∀ x dx, H1 x = Option.none → H1 dx = Option.none → dx ≠ x → sp (V.ref x :: xs) (upd (upd H1 dx (.own x)) x (.ins C dx [])) (fun v H2 => v = .non ∧ Q (.ref x) H2) E) :
    wpAny (model X.prog X.w) X.A (callWith pos (.ref C) [] (backTo pos (starEach [.Starred e sp_] X.env)) (backToKw pos (keywordEach [] X.env))) (EP X pins σ Q) X.xe s := by
  refine PySem.W.callWith_S (h₀ := X.base) I.ok.mod.kin M.kp (thn (he.run pins s σ H _ I h) fun v s1 ⟨y, H1, I1, ry, a, xs, ey, hxs, q⟩ => ?_) hst
  subst ey
  obtain rfl : v = Value.ref a := ry
  exact StX.star_any I1 hxs fun us s2 I2 rv => ⟨I2.kIn, StX.run_makeR M F hr hx I2 rv q⟩
theorem s_makeS {sp_ : Pos} (ok : OkC g E lv X) (N : Ini g k c f) (C : ClsN g c x) (hk : k + 1 ≤ lv) (he : Snd g E H0 X b1 e m) (hg : Gl X x := by rfl) (hdb : (x == ("__debug__" : Str)) = false := by decide) (hst : starEach [.Starred e sp_] X.env = [(true, eval e X.env)] := by rfl) :
    Snd g E H0 X false (.Call (.Name x p) [.Starred e sp_] [] pos) (mMakeS f m) := by
  obtain ⟨fI, M, F, hc⟩ := N
  obtain ⟨prog, w', K, mg, base, A, N, s_0, H_0, env, outer, stack, ex, fn, calm, pn, xe⟩ := X
  obtain ⟨⟨h1, h2, h3, h4, h5, h6, h7, hfx⟩, h8, h9⟩ := ok
  simp only at h1 h2 h5 h6 h7
  subst h1 h2 h5 h6 h7
  refine ⟨fun pins s σ H Q I ⟨w, σI, B, s0, p⟩ => ?_⟩
  refine wpAny_Call_Name_kw (ld_glob I hg C.mg ?_ hdb)
  refine pe_makeS M F (h8.mono hk) h9 he hst pins s σ H I ?_
  refine tI_bind s0 p fun d B1 w1 v H1 x1 s1 r1 p1 => ?_
  split at p1
  · rename_i ds
    obtain ⟨a, vs, rfl, q, r⟩ := r1.up.tup s1
    exact ⟨a, vs, rfl, .inl q, make_go s1.rb r (PostC.of s1 p1)⟩
  · rename_i ds
    obtain ⟨a, vs, rfl, q, r⟩ := r1.up.lst s1
    exact ⟨a, vs, rfl, .inr (.inl (.inl q)), make_go s1.rb r (PostC.of s1 p1)⟩
  · exact p1.elim
/-! ### class methods -/
end
end Hf

set_option Elab.async false
set_option linter.all false
set_option maxRecDepth 100000
set_option maxHeartbeats 4000000
namespace Hf
open PySem PySem.Spec PyProof.Rows L2

/-! ### an __init__ keeps its promise -/
/-- the instance that a body leaves in its first name -/
def finI (c : Nat) : Ss → Rs D
  | .next σ B => match σ[(0 : Nat)]? with
    | some (some (true, .inst c' es)) => if c' = c ∧ es.length = (fldN c).length then .ok (.inst c es) B else .bad
    | _ => .bad
  | .ret _ _ => .bad
  | .exc c x B => .exc c x B
  | .bad => .bad
/-- def __init__(self, *words): k names in all -/
def mkIniS (c k : Nat) (b : Ms) : Fn := fun ds B => if ds.length ≤ sizeLine then finI c (b (some (true, .inst c []) :: some (false, .tup ds) :: List.replicate (k - 2) Option.none) B) else .bad
section
variable {g : Gs} {E : XK} {w : Wd} {H : Hp} {σI : Sl} {σ : L2.St} {B : Bs} {Q : VK} {c k : Nat}
/-- the end of an __init__ -/
theorem fin_go {x : Addr} {m : Ss} (hn : H x = Option.none) (p : PostN g E x w H Q (finI c m)) : PostS g E { w with me := some x } H w { nx := fun _ H' => Q .non H', rt := Q } m := by
  cases m with
  | bad => exact p
  | ret d B' => exact p.elim
  | exc c y B' => exact fun w' cls dd H' rb x1 r => p _ cls dd H' x1.withMe rb.withMe r.withMe
  | next σI' B' =>
    intro w' σ' H' _ s x1
    unfold finI at p
    simp only at p
    split at p
    · rename_i c' es hi
      split at p
      · rename_i h
        obtain ⟨rfl, hl⟩ := h
        obtain ⟨a, o, e1, ha, ct, np, nb, n0⟩ := s.ow 0 _ hi
        have e2 := s.me 0 _ _ a hi e1
        rw [x1.me] at e2
        cases (show some x = some a from e2)
        simp only [Cont] at ct
        obtain ⟨dx, vs, rfl, _, hh, rr⟩ := ct
        obtain ⟨x2, rb2⟩ := reg_ext x1 s.rb ha hn np nb (nt_ins _ _ _)
        refine p _ H' x2.withMe rb2.withMe ?_
        simp only [Rep]
        exact ⟨x, dx, vs, rfl, upd_same, hl, hh, Reps.mono ((regLe w' np).trans leMe) _ _ rr⟩
      · exact p.elim
    · exact p.elim
/-- def f(a, .., *v): what is left over is a new tuple without a dict -/
theorem fn_starN {P : Program} {w : World} {K : PySem.W.Frag} {mg : Str → Option Value} {base : Heap} {CX : CXT} {N ps : List Str} {k : Nat} {sp : Sp} {nm qual pv : Str} {params : Arguments} {body : List Stmt} {scope : Scope} {f : Addr} {oc dV kV doc pm cdv ct : Value} {od an : Option Addr} {osl : Array (Option Value)}
    (lk : K.lookup f = some ⟨oc, od, .func (PySem.W.fnOf nm qual params body scope dV kV doc pm an cdv ct), osl⟩) (hcd : PySem.W.codeIn K cdv qual = true) (S : FnScope N (ps ++ [pv]) scope) (hCX : StX.CXUp CX)
    (hb : ∀ us rest : List Value, us.length = ps.length → bindArgs (PySem.W.fnOf nm qual params body scope dV kV doc pm an cdv ct) ⟨us ++ rest, []⟩ = (newTuple rest >>= fun t => pure (ps.zip us ++ [(pv, t)])))
    (hbody : ∀ (A : Around) (outer : List Env) (s : Shared) (H : Hp) (vs : List V) (Q : VK) (E : XK), Room k (A.deeper (envOfC qual scope s.heap.objs.size f cdv)) → sp vs H Q E →
      ∃ t, PSs (cxOf CX P w K mg base N qual scope f cdv A outer s H E) body t ∧ t { nx := fun _ H' => Q .non H', rt := Q } (L2.start N vs) H) :
    FnR P w K mg base CX (k + 1) f (fun vs H Q E => ∃ ws rest, vs = ws ++ rest ∧ ws.length = ps.length ∧ rest.length ≤ sizeLine ∧ ∀ p (ob : Obj), H p = Option.none → ob.dict = Option.none → sp (ws ++ [V.ref p]) (upd H p (.frz ob (.tup rest))) Q E) := by
  intro A outer s H us vs Q E hr e0 r hsp
  obtain ⟨ws, rest, rfl, hl, hz, hq⟩ := hsp
  obtain ⟨u1, u2, rfl, r1, r2⟩ := StX.vals_split r
  have free : H s.heap.objs.size = Option.none := e0.hok.fresh (Nat.le_refl _)
  have m1 : u1.length = ps.length := by rw [← r1.length]; exact hl
  have m2 : u2.length ≤ sizeLine := by rw [← r2.length]; exact hz
  refine StX.run_bnd lk hcd S hr e0 (G := fun xs H2 => ∃ p, ∃ ob : Obj, ob.dict = Option.none ∧ H p = Option.none ∧ xs = ws ++ [V.ref p] ∧ H2 = upd H p (.frz ob (.tup rest))) (fun A1 Ex Q1 h => ?_) fun s2 H2 xs ⟨p, ob, hod, hp, ex, eH⟩ hr1 => ?_
  · rw [hb u1 u2 m1]
    refine wpAny_bind (wpAny_newTuple (wpAny_pure ?_) m2)
    obtain ⟨T, hT⟩ : ∃ T : Obj, T = { cls := .type "tuple", data := .seq u2.toArray } := ⟨_, rfl⟩
    have new : ObjOk P w (upd H s.heap.objs.size (.frz T (.tup rest))) (s.heap.push T) s.heap.objs.size (.frz T (.tup rest)) := by
      subst hT; exact frz_tup hz r2 (Heap.get?_push_size _ rfl)
    have hd : T.dict = Option.none := by subst hT; rfl
    rw [← hT]
    have un := StX.un_laid (fs := frs outer) (s := s) (o := T) (u := .frz T (.tup rest)) free
    have z := h _ _ (ws ++ [V.ref s.heap.objs.size]) (u1 ++ [Value.ref s.heap.objs.size]) (StX.env0_laid e0 new) un rfl (fun e s1 => hCX outer s H _ _ E e s1 un (fun c oc qc => Heap.get?_push_of_some _ qc) rfl) (r1.append (.cons rfl .nil))
      (by rw [List.length_append, List.length_append, hl] <;> rfl) ⟨_, T, hd, free, rfl, rfl⟩
    rw [List.zip_append m1.symm] at z
    exact z
  · subst ex eH
    exact hbody A outer s2 _ _ Q E hr1 (hq p ob hp hod)
/-- the start of an __init__ with one tuple -/
theorem start_star {N : List Str} {x dx p : Addr} {ds : List D} {rest : List V} (hN : 2 ≤ N.length) (hh : g.has c = true) (rb : RB g w B H) (r : Reps g w ds rest) (h1 : H x = Option.none) (h2 : H dx = Option.none) (h3 : dx ≠ x)
    {ob : Obj} (hod : ob.dict = Option.none) (hp : (upd (upd H dx (.own x)) x (.ins (g.cl c) dx [])) p = Option.none) :
    ∃ w1, S0 g H w1 (some (true, .inst c []) :: some (false, .tup ds) :: List.replicate (N.length - 2) Option.none) B (L2.start N [V.ref x, V.ref p]) (upd (upd (upd H dx (.own x)) x (.ins (g.cl c) dx [])) p (.frz ob (.tup rest))) ∧
      Ext { w with me := some x } H w1 (upd (upd (upd H dx (.own x)) x (.ins (g.cl c) dx [])) p (.frz ob (.tup rest))) := by
  have px : p ≠ x := fun e => by subst e; rw [upd_same] at hp; cases hp
  have pd : p ≠ dx := fun e => by
    rw [upd_ne px, e, upd_same] at hp; cases hp
  have hp0 : H p = Option.none := by rw [upd_ne px, upd_ne pd] at hp; exact hp
  generalize hH2 : upd (upd (upd H dx (.own x)) x (.ins (g.cl c) dx [])) p (.frz ob (.tup rest)) = H2
  have e2 : ∀ b, b ≠ p → b ≠ x → b ≠ dx → H2 b = H b := fun b q1 q2 q3 => by rw [← hH2, upd_ne q1, upd_ne q2, upd_ne q3]
  have ex : H2 x = some (.ins (g.cl c) dx []) := by rw [← hH2, upd_ne px.symm, upd_same]
  have ep : H2 p = some (.frz ob (.tup rest)) := by rw [← hH2, upd_same]
  have hk : Same H H2 := fun b u e => by
    rw [e2 b (ne_of_none e hp0) (ne_of_none e h1) (ne_of_none e h2)]; exact e
  have npp := rb.fresh_P hp0
  have l : Le w (regW w p (.frz ob (.tup rest))) := regLe w npp
  let w1 : Wd := { regW w p (.frz ob (.tup rest)) with me := some x }
  have l1 : Le w w1 := ⟨l.P, l.io⟩
  have sub1 : Same w1.P H2 := fun b u e => by
    have e : upd w.P p (.frz ob (.tup rest)) b = some u := e
    by_cases hb : b = p
    · subst hb; rw [upd_same] at e; cases e; exact ep
    · rw [upd_ne hb] at e; exact hk b u (rb.sub b u e)
  have rb1 : RB g w1 B H2 := rb.keep l1 rfl sub1 hk (fun n a e => by
    show upd w.P p (.frz ob (.tup rest)) a = Option.none
    rw [upd_ne (fun z => rb.fresh_io hp0 n (by rw [← z]; exact e))]
    exact rb.np n a e) (nt_reg rb.nt fun ps z => (nomatch z))
  have st : L2.start N [V.ref x, V.ref p] = some (V.ref x) :: some (V.ref p) :: List.replicate (N.length - 2) Option.none := rfl
  have tail : ∀ {j : Nat} {z : Option (Bool × D)}, (List.replicate (N.length - 2) (Option.none : Option (Bool × D)))[j]? = some z → z = Option.none := fun {j z} h => by
    rw [List.getElem?_replicate] at h
    split at h <;> cases h
    rfl
  refine ⟨w1, ⟨rb1, by rw [st]; simp, fun i d h => ?_, fun i d h => ?_, fun i j d e a q1 q2 _ _ => ?_, fun i c' es a q1 q2 => ?_⟩, ⟨⟨l1.P, l1.io⟩, fun b o e _ _ => hk b o e, fun b o e => ?_, fun n a e => .inl e, fun b e z => e (by
    cases q : H b with
    | none => rfl
    | some u => rw [hk b u q] at z; cases z), rfl⟩⟩
  · rw [st]
    match i, h with
    | 0, h => cases h
    | 1, h =>
      cases h
      refine ⟨V.ref p, rfl, ?_⟩
      simp only [Rep]
      exact ⟨p, rest, rfl, .inl ⟨ob, upd_same, hod⟩, Reps.mono l1 _ _ r⟩
    | j + 2, h => cases tail h
  · rw [st]
    match i, h with
    | 0, h =>
      cases h
      refine ⟨x, _, rfl, ex, ?_, ?_, fun n => rb.fresh_io h1 n, h1⟩
      · simp only [Cont]
        exact ⟨dx, [], by simp, Nat.zero_le _, hh, by simp only [Reps]⟩
      · show upd w.P p (.frz ob (.tup rest)) x = Option.none
        rw [upd_ne px.symm]; exact rb.fresh_P h1
    | 1, h => cases h
    | j + 2, h => cases tail h
  · match i, j, q1, q2 with
    | 0, 0, _, _ => rfl
    | 0, 1, _, h => cases h
    | 0, j + 2, _, h => cases tail h
    | 1, _, h, _ => cases h
    | i + 2, _, h, _ => cases tail h
  · match i, q1 with
    | 0, _ => rw [st] at q2; cases q2; rfl
    | 1, h => cases h
    | i + 2, h => cases tail h
  · have e : upd w.P p (.frz ob (.tup rest)) b = some o := e
    by_cases hb : b = p
    · subst hb; exact .inr (.inl hp0)
    · rw [upd_ne hb] at e; exact .inl e
theorem init_star {x qual sv pv : Str} {st : Stmt} {fa : Addr} {fd : FuncData} {N : List Str} {b : Ms} (F : L2.Fun g.K x qual st fa fd) (S : FnScope N ([sv] ++ [pv]) (defScope st)) (hN : 2 ≤ N.length) (hh : g.has c = true)
    (hb : ∀ (kV doc pm : Value) (an : Option Addr) (cdv ct : Value) (us rest : List Value), us.length = [sv].length → bindArgs (PySem.W.fnOf x qual (defArgs st) (defBody st) (defScope st) .none kV doc pm an cdv ct) ⟨us ++ rest, []⟩ = (newTuple rest >>= fun t => pure ([sv].zip us ++ [(pv, t)])))
    (fx : Fx g) (hbody : ∀ (E : XK) (w0 : Wd) (H0 : Hp) (X : Cx), OkC g E k X → PassesOwn (model X.prog X.w) X.A X.env X.xe → L2N.Takes X (fun cls d _ H => E cls d H) → X.N = N → X.env.scope = defScope st → X.fn = (fun _ => true) → SndB g E w0 H0 X (defBody st) b) :
    FnR g.prog g.w g.K g.mg g.base (L2N.CX g.prog g.w) (k + 1) fa (spI g c (mkIniS c N.length b)) := by
  obtain ⟨oc, od, kV, doc, pm, an, cdv, ct, osl, rfl, lk, hcd⟩ := F.ex
  let sp0 : Sp := fun vs H Q E => ∃ x dx p H1 w ds rest B, ∃ ob : Obj, ob.dict = Option.none ∧ vs = [V.ref x, V.ref p] ∧ H = upd (upd (upd H1 dx (.own x)) x (.ins (g.cl c) dx [])) p (.frz ob (.tup rest)) ∧ H1 x = Option.none ∧ H1 dx = Option.none ∧ dx ≠ x ∧ (upd (upd H1 dx (.own x)) x (.ins (g.cl c) dx [])) p = Option.none ∧
    RB g w B H1 ∧ Reps g w ds rest ∧ PostN g E x w H1 Q (mkIniS c N.length b ds B)
  have R := fn_starN (P := g.prog) (w := g.w) (mg := g.mg) (base := g.base) (CX := L2N.CX g.prog g.w) (k := k) (sp := sp0) (ps := [sv]) (pv := pv) lk hcd S cxUpN (hb kV doc pm an cdv ct) ?_
  · refine R.imp fun vs H Q E h => ?_
    obtain ⟨x, dx, ws, H1, w, ds, B, rfl, rfl, h1, h2, h3, rb, r, p⟩ := h
    have hz : ds.length ≤ sizeLine := by
      unfold mkIniS at p
      split at p
      · assumption
      · exact p.elim
    exact ⟨[V.ref x], ws, rfl, rfl, by rw [r.len]; exact hz, fun q ob hq ho => ⟨x, dx, q, H1, w, ds, ws, B, ob, ho, rfl, rfl, h1, h2, h3, hq, rb, r, p⟩⟩
  · rintro A outer s H vs Q E hr ⟨x, dx, p, H1, w, ds, rest, B, ob, hod, rfl, rfl, h1, h2, h3, hp, rb, r, q⟩
    unfold mkIniS at q
    split at q
    · refine ⟨_, hbody E { w with me := some x } H1 _ ⟨⟨rfl, rfl, rfl, ?_, rfl, rfl, rfl, fx⟩, hr, ?_⟩ (passes_of rfl) (L2N.takes_of rfl rfl rfl rfl) rfl rfl rfl, ?_⟩
      · have := hr.un; show A.units + 3 + 100 < cLine; have h2 : A.units + 3 + 16 * k + 200 < cLine := this; omega
      · exact L2N.passes_call (L2N.takes_of rfl rfl rfl rfl) (fun _ _ _ _ h => h)
      · obtain ⟨w1, s1, x1⟩ := start_star hN hh rb r h1 h2 h3 hod hp
        refine ⟨w1, _, B, s1, x1, ?_⟩
        have z := fin_go h1 q
        refine PostS.le ?_ z
        exact ⟨x1.le.P, x1.le.io⟩
    · exact q.elim
end
end Hf

set_option Elab.async false
set_option linter.all false
set_option maxRecDepth 100000
set_option maxHeartbeats 4000000
namespace Hf
open PySem PySem.Spec PyProof.Rows L2

/-! ### boxes are made: a new container that is shared and changed -/
def boxW (w : Wd) (n : Nat) (a : Addr) : Wd := { w with io := fun m => if m = n then some a else w.io m }
section
variable {g : Gs} {E : XK} {w0 w : Wd} {H0 H : Hp} {X : Cx} {e : Expr} {m me : Ev} {pos p1 apos cpos : Pos} {σI : Sl} {σ : L2.St} {B : Bs} {Q : VK} {b1 : Bool} {x : Str} {i : Nat}
theorem box_ext {w' : Wd} {H' : Hp} {a : Addr} {o : HO} {d : D} {B' : Bs} (x : Ext w H w' H') (rb : RB g w' B' H') (e : H' a = some o) (c : Cont g w' d a o) (n : H a = Option.none) (p : w'.P a = Option.none) (i : ∀ n, w'.io n ≠ some a) :
    Ext w H (boxW w' B'.length a) H' ∧ RB g (boxW w' B'.length a) (B' ++ [d]) H' ∧ Le w' (boxW w' B'.length a) := by
  have l : Le w' (boxW w' B'.length a) := ⟨Same.refl _, fun m b h => by
    show (if m = B'.length then some a else w'.io m) = some b
    rw [if_neg (Nat.ne_of_lt (rb.dom m b h))]; exact h⟩
  have io : ∀ m b, (boxW w' B'.length a).io m = some b → (m = B'.length ∧ b = a) ∨ (m ≠ B'.length ∧ w'.io m = some b) := fun m b h => by
    have h : (if m = B'.length then some a else w'.io m) = some b := h
    by_cases hm : m = B'.length
    · rw [if_pos hm] at h; cases h; exact .inl ⟨hm, rfl⟩
    · rw [if_neg hm] at h; exact .inr ⟨hm, h⟩
  refine ⟨⟨x.le.trans l, x.keep, x.pf, fun m b h => ?_, x.there, x.me⟩, ⟨rb.sub, fun m b h => ?_, fun m k b h1 h2 => ?_, fun m b h => ?_, fun m b h => ?_, rb.tb, rb.nt⟩, l⟩
  · rcases io m b h with ⟨_, rfl⟩ | ⟨_, h⟩
    · exact .inr n
    · exact x.iof m b h
  · by_cases hm : m < B'.length
    · rw [List.getElem?_append_left hm] at h
      obtain ⟨a', o', h1, h2, h3⟩ := rb.get m b h
      exact ⟨a', o', l.io _ _ h1, h2, h3.mono l⟩
    · rw [List.getElem?_append_right (Nat.le_of_not_lt hm)] at h
      have hm2 : m - B'.length = 0 := by
        have := (List.getElem?_eq_some_iff.mp h).1
        simp at this; exact this
      rw [hm2] at h
      cases h
      have : m = B'.length := by omega
      subst this
      exact ⟨a, o, by show (if _ then _ else _) = _; rw [if_pos rfl], e, c.mono l⟩
  · rcases io m b h1 with ⟨r1, r2⟩ | ⟨r1, r2⟩ <;> rcases io k b h2 with ⟨q1, q2⟩ | ⟨q1, q2⟩
    · rw [r1, q1]
    · subst r2; exact (i _ q2).elim
    · subst q2; exact (i _ r2).elim
    · exact rb.inj m k b r2 q2
  · rcases io m b h with ⟨_, rfl⟩ | ⟨_, h⟩
    · exact p
    · exact rb.np m b h
  · rw [List.length_append]
    rcases io m b h with ⟨rfl, _⟩ | ⟨_, h⟩
    · simp
    · have := rb.dom m b h
      omega
def mBox (m : Ev) : Ev := fun σ B => (m σ B).bind fun d B1 => .ok (.box B1.length) (B1 ++ [d])
theorem s_box (he : SndF g E H0 X e m) : Snd g E H0 X false e (mBox m) := by
  refine weak he ?_
  rintro σ H Q ⟨w, σI, B, s, p⟩
  refine ⟨w, σI, B, s, ?_⟩
  unfold mBox at p
  revert p
  generalize m σI B = q
  intro p
  cases q with
  | bad => exact p
  | exc c y B' => exact p
  | ok d B' =>
    intro w' a o H' x rb ha c n pp io z
    obtain ⟨x2, rb2, l⟩ := box_ext x rb ha c n pp io
    refine p _ (.ref a) H' x2 rb2 ?_
    simp only [RepB, Rep]
    exact ⟨a, rfl, by show (if _ then _ else _) = _; rw [if_pos rfl]⟩
end
/-! ### repr -/
structure OkG (g : Gs) (E : XK) (lv : Nat) (X : Cx) : Prop extends OkC g E lv X where
  gd : X.A.guards = some []
theorem OkG.blk {g : Gs} {E : XK} {lv : Nat} {X : Cx} (k : OkG g E lv X) (s : Shared) (H : Hp) (scope : Scope) (env : Env) (fp : List Addr) : OkG g E0 lv (X.blk s H scope env fp) := ⟨k.toOkC.blk s H scope env fp, k.gd⟩
section
variable {g : Gs} {E : XK} {H0 : Hp} {X : Cx} {lv : Nat}
end
/-! ### defs that ask for repr: promises where no repr is under way -/
structure FnG (P : Program) (w : World) (K : PySem.W.Frag) (mg : Str → Option Value) (base : Heap) (CX : CXT) (k : Nat) (f : Addr) (fd : FuncData) (ps : List Str) (sp : Sp) : Prop where
  len : ∀ vs H Q E, sp vs H Q E → vs.length = ps.length
  run : ∀ (A : Around) (outer : List Env) (s : Shared) (H : Hp) (args : Args) (us : List Value) (vs : List V) (Q : VK) (E : XK), A.guards = some [] → Room k A → Env0 P w K mg base A outer s H → BindsTo s fd args (ps.zip us) → Vals vs us → sp vs H Q E →
    codeAny (model P w) A (.call (.ref f) args) (CR CX outer P w H s Q E) s
theorem _root_.L2.FnOk.toG {P : Program} {w : World} {K : PySem.W.Frag} {mg : Str → Option Value} {base : Heap} {CX : CXT} {k : Nat} {f : Addr} {fd : FuncData} {ps : List Str} {sp : Sp} (F : FnOk P w K mg base CX k f fd ps sp) : FnG P w K mg base CX k f fd ps sp :=
  ⟨F.len, fun A outer s H args us vs Q E _ => F.run A outer s H args us vs Q E⟩
theorem FnG.mono {P : Program} {w : World} {K : PySem.W.Frag} {mg : Str → Option Value} {base : Heap} {CX : CXT} {j k : Nat} {f : Addr} {fd : FuncData} {ps : List Str} {sp : Sp} (F : FnG P w K mg base CX j f fd ps sp) (h : j ≤ k) : FnG P w K mg base CX k f fd ps sp :=
  ⟨F.len, fun A outer s H args us vs Q E hg hr => F.run A outer s H args us vs Q E hg (hr.mono h)⟩
def DefG (g : Gs) (k : Nat) (x : Str) (dfl : List D) (f : Fn) : Prop := ∃ (fa : Addr) (fd : FuncData) (ps : List Str) (dvs : List V) (ds : List Value), FnG g.prog g.w g.K g.mg g.base (L2N.CX g.prog g.w) k fa fd ps (spF g f) ∧ g.mg x = some (.ref fa) ∧ PySem.W.keepIn g.K (.ref fa) = true ∧ Binds g.K fd ps ds ∧ Vals dvs ds ∧ ∀ w, Reps g w dfl dvs
theorem Def.toG {g : Gs} {k : Nat} {x : Str} {dfl : List D} {f : Fn} (d : Def g k x dfl f) : DefG g k x dfl f := by
  obtain ⟨fa, fd, ps, dvs, ds, F, r⟩ := d
  exact ⟨fa, fd, ps, dvs, ds, F.toG, r⟩
section
variable {g : Gs} {E : XK} {w0 w : Wd} {H0 H : Hp} {X : Cx} {e : Expr} {es : List Expr} {ms : Evs} {pos p : Pos} {x : Str} {f : Fn} {lv k : Nat} {dfl : List D} {σI : Sl} {σ : L2.St} {B : Bs} {Q : VK}
end
end Hf

set_option Elab.async false
set_option linter.all false
set_option maxRecDepth 100000
set_option maxHeartbeats 4000000
namespace Hf
open PySem PySem.Spec PyProof.Rows L2

/-! ### the built-ins by their names -/
theorem bt_len : bootBuiltins "len" = some (.builtin "len") := by decide +kernel
theorem bt_all : bootBuiltins "all" = some (.builtin "all") := by decide +kernel
theorem bt_max : bootBuiltins "max" = some (.builtin "max") := by decide +kernel
theorem bt_min : bootBuiltins "min" = some (.builtin "min") := by decide +kernel
theorem bt_sorted : bootBuiltins "sorted" = some (.builtin "sorted") := by decide +kernel
theorem bt_tuple : bootBuiltins "tuple" = some (.type "tuple") := by decide +kernel
theorem bt_list : bootBuiltins "list" = some (.type "list") := by decide +kernel
theorem bt_int : bootBuiltins "int" = some (.type "int") := by decide +kernel
section
variable {g : Gs} {E : XK} {w0 w : Wd} {H0 H : Hp} {X : Cx} {a b e : Expr} {ma mb m : Ev} {pos p1 : Pos} {b1 b2 : Bool} {lv : Nat} {st : Stmt}
theorem q_len (c : Ok g X) (he : Snd g E H0 X b1 e m) (hg : Gl X "len" := by rfl) (h1 : starEach (e :: []) X.env = (false, eval e X.env) :: starEach [] X.env := by rfl) : Snd g E H0 X false (.Call (.Name "len" p1) [e] [] pos) (m1 fLen m) := s_b1 (o_len c) bt_len (nbs c) he hg (by decide) (by decide) h1
theorem q_all (c : Ok g X) (he : Snd g E H0 X b1 e m) (hg : Gl X "all" := by rfl) (h1 : starEach (e :: []) X.env = (false, eval e X.env) :: starEach [] X.env := by rfl) : Snd g E H0 X false (.Call (.Name "all" p1) [e] [] pos) (m1 fAll m) := s_b1 (o_all c) bt_all (nbs c) he hg (by decide) (by decide) h1
theorem q_max1 (c : Ok g X) (he : Snd g E H0 X b1 e m) (hg : Gl X "max" := by rfl) (h1 : starEach (e :: []) X.env = (false, eval e X.env) :: starEach [] X.env := by rfl) : Snd g E H0 X false (.Call (.Name "max" p1) [e] [] pos) (m1 fMax1 m) := s_b1 (o_max1 c) bt_max (nbs c) he hg (by decide) (by decide) h1
theorem q_max2 (c : Ok g X) (ha : Snd g E H0 X b1 a ma) (hb : Snd g E H0 X b2 b mb) (hg : Gl X "max" := by rfl) (h1 : starEach (a :: [b]) X.env = (false, eval a X.env) :: starEach [b] X.env := by rfl) (h2 : starEach (b :: []) X.env = (false, eval b X.env) :: starEach [] X.env := by rfl) (hpl : (backTo pos (starEach [b] X.env)).any (·.1) = false := by rfl) :
    Snd g E H0 X false (.Call (.Name "max" p1) [a, b] [] pos) (mBin fMax2 ma mb) := s_b2 (o_max2 c) bt_max (nbs c) ha hb hg (by decide) (by decide) h1 h2 hpl
theorem q_min2 (c : Ok g X) (ha : Snd g E H0 X b1 a ma) (hb : Snd g E H0 X b2 b mb) (hg : Gl X "min" := by rfl) (h1 : starEach (a :: [b]) X.env = (false, eval a X.env) :: starEach [b] X.env := by rfl) (h2 : starEach (b :: []) X.env = (false, eval b X.env) :: starEach [] X.env := by rfl) (hpl : (backTo pos (starEach [b] X.env)).any (·.1) = false := by rfl) :
    Snd g E H0 X false (.Call (.Name "min" p1) [a, b] [] pos) (mBin fMin2 ma mb) := s_b2 (o_min2 c) bt_min (nbs c) ha hb hg (by decide) (by decide) h1 h2 hpl
theorem q_tuple (c : Ok g X) (he : Snd g E H0 X b1 e m) (hg : Gl X "tuple" := by rfl) (h1 : starEach (e :: []) X.env = (false, eval e X.env) :: starEach [] X.env := by rfl) : Snd g E H0 X false (.Call (.Name "tuple" p1) [e] [] pos) (m1 fTupO m) := s_ty1 (o_tuple c) bt_tuple (nbs c) he hg (by decide) (by decide) h1
theorem q_list (c : Ok g X) (he : Snd g E H0 X b1 e m) (hg : Gl X "list" := by rfl) (h1 : starEach (e :: []) X.env = (false, eval e X.env) :: starEach [] X.env := by rfl) : SndF g E H0 X (.Call (.Name "list" p1) [e] [] pos) (m1 fLstO m) := f_ty1 (o_list c) bt_list (nbs c) he hg (by decide) (by decide) h1
theorem q_int (c : Ok g X) (he : Snd g E H0 X b1 e m) (hg : Gl X "int" := by rfl) (h1 : starEach (e :: []) X.env = (false, eval e X.env) :: starEach [] X.env := by rfl) : Snd g E H0 X false (.Call (.Name "int" p1) [e] [] pos) (m1 fInt m) := s_ty1 o_int bt_int (nbs c) he hg (by decide) (by decide) h1
/-- what is not reached may be anything -/
def mBad : Ms := fun _ _ => .bad
theorem z_bad : SndS g E w0 H0 X st mBad := ⟨fun pins s σ H Q I q => by
  obtain ⟨_, _, _, _, _, z⟩ := q
  exact z.elim⟩
/-- [..] * k: a new list -/
def fMulL : D → D → Bs → Rs D
  | .lst a, .int k, B => if decide (k < 1000) && decide (-1000 < k) && decide (a.length ≤ 1000) then .ok (.lst (List.replicate k.toNat a).flatten) B else .bad
  | _, _, _ => .bad
theorem f_mul (ha : Snd g E H0 X b1 a ma) (hb : Snd g E H0 X b2 b mb) : SndF g E H0 X (.BinOp a .Mult b pos) (mBin fMulL ma mb) := by
  refine weak (pe_op op_rep ha hb) ?_
  rintro σ H Q ⟨w, σI, B, s, p⟩
  refine tI_bindF s p fun d B1 w1 v H1 x1 s1 r1 p1 => ?_
  refine tI_bindF s1 p1 fun d2 B2 w2 v2 H2 x2 s2 r2 p2 => ?_
  unfold fMulL at p2
  split at p2
  · split at p2
    · rename_i ds k h
      simp only [Bool.and_eq_true, decide_eq_true_eq] at h
      obtain ⟨⟨h1, h2⟩, h3⟩ := h
      obtain ⟨a, vs, rfl, q1, r⟩ := (r1.up.mono x2.le).lst s2
      refine ⟨a, k, vs, rfl, r2.up.int s2, q1, by omega, by omega, ?_, fun q hq => p2.newL s2 (r.rep _) hq⟩
      rw [r.len, sizeLine_eq]
      have a1 : ds.length * k.toNat ≤ 1000 * 1000 := Nat.mul_le_mul h3 (by omega)
      omega
    · exact p2.elim
  · exact p2.elim
/-- self.f = e in an __init__, f the j-th field -/
def mFldJ (c j : Nat) (m : Ev) : Ms := fun σ B => match σ[(0 : Nat)]? with
  | some (some (true, .inst _ ds)) => if ds.length = j then mFldSet c m σ B else .bad
  | _ => .bad
end
end Hf

set_option Elab.async false
set_option linter.all false
set_option maxRecDepth 100000
set_option maxHeartbeats 4000000
namespace Hf
open PySem PySem.Spec PyProof.Rows L2

/-! ### the head: the law's call, no repr under way -/
/-! ### isinstance's answers from a class's record -/
theorem kit_obj {K : PySem.W.Frag} {C : Addr} {b : String} (h : PySem.W.mroIn K C (.type b) = some false) (hm : PySem.W.kitMeta b = true := by decide +kernel) : PySem.W.kitOne K (.ref C) (.type b) = some false := by
  have e : (Value.ref C == Value.type b) = false := beq_eq_false_iff_ne.mpr (fun z => nomatch z)
  unfold PySem.W.kitOne PySem.W.kitCls
  simp only [e, Bool.false_eq_true, if_false, hm, if_true]
  exact h
theorem kit_self {K : PySem.W.Frag} {C : Addr} : PySem.W.kitOne K (.ref C) (.ref C) = some true := by
  unfold PySem.W.kitOne
  rw [if_pos (beq_self_eq_true _)]
theorem mro_no (C : Addr) : ∀ T ∈ ["NoneType", "int", "bool", "str", "list", "tuple", "dict"], (fastBuiltinMro T).map (·.contains (Value.ref C)) = some false := by
  intro T h
  simp only [List.mem_cons, List.not_mem_nil, or_false] at h
  rcases h with rfl | rfl | rfl | rfl | rfl | rfl | rfl <;> kernel_rfl
theorem kit_own {K : PySem.W.Frag} {C : Addr} {T : String} (hT : T ∈ ["NoneType", "int", "bool", "str", "list", "tuple", "dict"]) (hi : PySem.W.isClsIn K C = true) (ht : PySem.W.typeIn K (.ref C) = some (.type "type")) : PySem.W.kitOne K (.type T) (.ref C) = some false := by
  have e : (Value.type T == Value.ref C) = false := beq_eq_false_iff_ne.mpr (fun z => nomatch z)
  have hc : (PySem.W.clsIn K C).isSome = true := hi
  unfold PySem.W.kitOne PySem.W.kitCls
  simp only [e, Bool.false_eq_true, if_false, hc, ht, beq_self_eq_true, Bool.and_self, if_true]
  exact mro_no C T hT
end Hf

set_option Elab.async false
set_option linter.all false
set_option maxRecDepth 100000
set_option maxHeartbeats 8000000
namespace Hf
open PySem PySem.Spec PyProof.Rows L2

/-! ### a set of whole numbers, made of a list -/
section
variable {P : Program} {w : World} {A : Around}
end
section
variable {g : Gs} {E : XK} {H0 : Hp} {X : Cx}
/-! ### sorted(set(xs)), len(set(xs)) -/
variable {e : Expr} {m : Ev} {b1 : Bool} {p p2 q pos : Pos}
end
/-! ### defs with defaults -/
section
variable {g : Gs} {k : Nat}
end
end Hf

set_option Elab.async false
set_option linter.all false
set_option maxRecDepth 100000
set_option maxHeartbeats 8000000
namespace Hf
open PySem PySem.Spec PyProof.Rows L2
section
variable {g : Gs} {E : XK} {w0 w : Wd} {H0 H : Hp} {X : Cx} {e : Expr} {pos p : Pos} {x : Str} {f : Fn} {lv k : Nat} {dfl : List D} {σI : Sl} {σ : L2.St} {B : Bs} {Q : VK}
end
end Hf

set_option Elab.async false
set_option linter.all false
set_option maxRecDepth 100000
set_option maxHeartbeats 8000000
namespace Hf
open PySem PySem.Spec PyProof.Rows L2
section
variable {g : Gs} {E : XK} {w0 w : Wd} {H0 H : Hp} {X : Cx} {o e a b : Expr} {es : List Expr} {m ma mb mo : Ev} {ms : Evs} {pos p p1 p2 apos cpos : Pos} {x n : Str} {f : Fn} {lv k c : Nat} {dfl : List D} {σI : Sl} {σ : L2.St} {B : Bs} {Q : VK} {b1 b2 bo : Bool} {i : Nat}
/-! ### t.index(x), l.index(x): the first place of an equal one -/
/-! ### x[e], x(e, ..), e in x of an own instance -/
/-- c has the special method n, a def that means f, and is a function of the text -/
def DunF (g : Gs) (k c : Nat) (n : Str) (f : Fn) : Prop := ∃ fa, FnR g.prog g.w g.K g.mg g.base (L2N.CX g.prog g.w) k fa (spF g f) ∧ PySem.W.findIn g.K (.ref (g.cl c)) n = some (some (.ref fa)) ∧ PySem.W.isFn g.K (.ref fa) = true ∧ PySem.W.fnIn g.K fa = true ∧ g.has c = true
/-! ### a, b = x, []: one of both is an own container -/
def mPar2F (i j : Nat) (ma mb : Ev) : Ms := fun σ B => (ma σ B).st fun d B1 => (mb σ B1).st fun e B2 => .next ((σ.set i (some (true, d))).set j (some (false, e))) B2
theorem z_par2F {i j : Nat} {x y : Str} {px py pt : Pos} {kt k2 : Nat} {pt2 : Pos} (c : Ok g X) (hN : X.N.Nodup) (ha : SndF g E H0 X a ma) (hb : Snd g E H0 X false b mb) (hw : swappedStores [.Tuple [.Name x px, .Name y py] kt pt] (.Tuple [a, b] k2 pt2) X.env = pure (some [x, y]) := by rfl)
    (hi : X.N[i]? = some x := by rfl) (hj : X.N[j]? = some y := by rfl) (hij : i ≠ j := by decide) (hx : X.env.scope.names.lookup x = some .local := by rfl) (hy : X.env.scope.names.lookup y = some .local := by rfl)
    (hs : swapsWithSole [.Tuple [.Name x px, .Name y py] kt pt] (.Tuple [a, b] k2 pt2) pos.line X.env = pure false := by rfl) (h1 : starEach [a, b] X.env = (false, eval a X.env) :: starEach [b] X.env := by rfl) (h2 : starEach [b] X.env = (false, eval b X.env) :: starEach [] X.env := by rfl) :
    SndS g E w0 H0 X (.Assign [.Tuple [.Name x px, .Name y py] kt pt] (.Tuple [a, b] k2 pt2) pos) (mPar2F i j ma mb) := by
  refine weakS (ps_par c.calm hN hi hj hij hx hy (pa_cons ha (pa_cons hb pa_nil h2) h1) hw hs) ?_
  rintro D σ H ⟨w, σI, B, s, x0, p⟩
  refine st_goF s x0 p fun e B1 w1 q ob H1 x1 x2 s1 e1 ct n pp io z p1 => ?_
  refine st_go s1 x1 p1 fun d B2 w2 v H2 y1 y2 s2 r p2 => ?_
  refine ⟨.ref q, v, rfl, p2 w2 _ H2 (Le.refl _) ((s2.setO i (y2.keep _ _ e1 io ct.nt.t) (Cont.mono y2.le ct) ?_ ?_ (x0.none0 n) (fun l f hl => s.own_ne hl n) z).set j r) y1⟩
  · cases hp : w2.P q with
    | none => rfl
    | some u =>
      rcases y2.pf _ _ hp with h | h | h
      · rw [pp] at h; cases h
      · rw [e1] at h; cases h
      · have y := s2.rb.sub _ _ hp
        rw [y2.keep _ _ e1 io ct.nt.t] at y; cases y
        exact (ct.nt.px h).elim
  · intro k hk
    rcases y2.iof _ _ hk with h | h
    · exact io k h
    · rw [e1] at h; cases h
end
end Hf

set_option Elab.async false
set_option linter.all false
set_option maxRecDepth 100000
set_option maxHeartbeats 8000000
namespace Hf
open PySem PySem.Spec PyProof.Rows L2

/-! ### calls by the parameters' names -/
/-- the values in the parameters' order: pi tells for each parameter which of the named values it is -/
def permL {α : Type} (pi : List Nat) (ws : List α) : List α := pi.filterMap fun i => ws[i]?
/-- m values by place, then named ones -/
def KwB (K : PySem.W.Frag) (fd : FuncData) (ps ks : List Str) (m : Nat) (pi : List Nat) : Prop := ∀ (s : Shared) (us ws : List Value), K.In s.heap → us.length = m → ws.length = ks.length → BindsTo s fd ⟨us, ks.zip ws⟩ (ps.zip (us ++ permL pi ws))
section
variable {g : Gs} {E : XK} {w0 w : Wd} {H0 H : Hp} {X : Cx} {e o a b : Expr} {es : List Expr} {m ma mb : Ev} {ms : Evs} {pos p apos kpos : Pos} {x : Str} {f : Fn} {lv k c : Nat} {σI : Sl} {σ : L2.St} {B : Bs} {Q : VK} {kws : List Keyword} {ks : List Str} {pi : List Nat} {nm : Option Str}
def named (n : Nat) (pi : List Nat) (f : List D → Bs → Rs D) (ds : List D) (B : Bs) : Rs D := if ds.length = n then f (permL pi ds) B else .bad
/-! ### x.m() -/
/-! ### C.m(k = v, ..), m a class method -/
/-! ### x(k = v, ..), x an own instance -/
end
end Hf

set_option Elab.async false
set_option linter.all false
set_option maxRecDepth 100000
set_option maxHeartbeats 8000000
namespace Hf
open PySem PySem.Spec PyProof.Rows L2

section
variable {g : Gs} {E : XK} {w0 w : Wd} {H0 H : Hp} {X : Cx} {e o a b : Expr} {es : List Expr} {m ma mb : Ev} {ms : Evs} {pos p apos kpos : Pos} {x : Str} {f : Fn} {lv k c : Nat} {σI : Sl} {σ : L2.St} {B : Bs} {Q : VK} {kws : List Keyword} {ks : List Str} {pi : List Nat} {b1 b2 : Bool}
/-! ### a ^ b of numbers -/
/-! ### sorted of a list of data that is in order already -/
theorem toPys_map : ∀ ds : List D, toPys ds = ds.map toPy
  | [] => by simp [toPys]
  | d :: ds => by simp [toPys, toPys_map ds]
theorem dpAll_len {K : PySem.W.Frag} : ∀ {xs : List V} {ds : List PyData}, DpAll K H xs ds → xs.length = ds.length
  | _, _, .nil => rfl
  | _, _, .cons _ h => by simp [dpAll_len h]
/-! ### sum of a tuple of numbers -/
end
end Hf

set_option Elab.async false
set_option linter.all false
set_option maxRecDepth 100000
set_option maxHeartbeats 8000000
namespace Hf
open PySem PySem.Spec PyProof.Rows L2

/-! ### an __init__ with parameters, some with defaults -/
section
variable {g : Gs} {E : XK} {w0 w : Wd} {H0 H : Hp} {X : Cx} {e : Expr} {es : List Expr} {m : Ev} {ms : Evs} {pos p : Pos} {x : Str} {f : Fn} {lv k c : Nat} {σI : Sl} {σ : L2.St} {B : Bs} {Q : VK} {kws : List Keyword} {ks : List Str} {pi : List Nat}
/-! ### C(k = v, ..) -/
end
end Hf

set_option Elab.async false
set_option linter.all false
set_option maxRecDepth 100000
set_option maxHeartbeats 8000000
namespace Hf
open PySem PySem.Spec PyProof.Rows L2

/-! ### defaults and names of an __init__, classes among each other -/
end Hf

set_option Elab.async false
set_option linter.all false
set_option maxRecDepth 100000
set_option maxHeartbeats 8000000
namespace Hf
open PySem PySem.Spec PyProof.Rows L2

/-! ### a box compared by what it holds -/
section
variable {g : Gs} {E : XK} {H0 : Hp} {X : Cx}
end
end Hf

set_option Elab.async false
set_option linter.all false
set_option maxRecDepth 100000
namespace Hf
open PySem PySem.Spec PyProof.Rows L2

/-! ### the meanings, run on plain data -/
@[simp] theorem z_mSkip (σ : Sl) (B : Bs) : mSkip σ B = .next σ B := (rfl)
@[simp] theorem z_mSeq (m1 m2 : Ms) (σ : Sl) (B : Bs) : mSeq m1 m2 σ B = (m1 σ B).seq m2 := (rfl)
@[simp] theorem z_mRet (m : Ev) (σ : Sl) (B : Bs) : mRet m σ B = (m σ B).st fun d B1 => .ret d B1 := (rfl)
@[simp] theorem z_mDo (m : Ev) (σ : Sl) (B : Bs) : mDo m σ B = (m σ B).st fun _ B1 => .next σ B1 := (rfl)
@[simp] theorem z_mIf (t : Et) (m1 m2 : Ms) (σ : Sl) (B : Bs) : mIf t m1 m2 σ B = (t σ B).st fun k B1 => if k then m1 σ B1 else m2 σ B1 := (rfl)
@[simp] theorem z_mSet (i : Nat) (m : Ev) (σ : Sl) (B : Bs) : mSet i m σ B = (m σ B).st fun d B1 => .next (σ.set i (some (false, d))) B1 := (rfl)
@[simp] theorem z_mSetO (i : Nat) (m : Ev) (σ : Sl) (B : Bs) : mSetO i m σ B = (m σ B).st fun d B1 => .next (σ.set i (some (true, d))) B1 := (rfl)
@[simp] theorem z_mFrz (i : Nat) (m : Ms) (σ : Sl) (B : Bs) : mFrz i m σ B = match frz i σ with
  | some σ' => m σ' B
  | Option.none => .bad := (rfl)
@[simp] theorem z_gN (i : Nat) (d : D) (σ : Sl) : gN i d σ = some (σ.set i (some (false, d))) := (rfl)
@[simp] theorem z_gT (t : Tgs) (d : D) (σ : Sl) : gT t d σ = match d with
  | .tup ds => t ds σ
  | .prs ds => t ds σ
  | _ => Option.none := (rfl)
@[simp] theorem z_gs0 (ds : List D) (σ : Sl) : gs0 ds σ = match ds with
  | [] => some σ
  | _ => Option.none := (rfl)
@[simp] theorem z_gsC (t : Tg) (u : Tgs) (ds : List D) (σ : Sl) : gsC t u ds σ = match ds with
  | d :: r => (t d σ).bind fun σ' => u r σ'
  | [] => Option.none := rfl
@[simp] theorem z_mVar (i : Nat) (σI : Sl) (B : Bs) : mVar i σI B = match σI[i]? with
  | some (some (false, d)) => .ok d B
  | _ => .bad := rfl
@[simp] theorem z_mBor (i : Nat) (σI : Sl) (B : Bs) : mBor i σI B = match σI[i]? with
  | some (some (_, d)) => .ok d B
  | _ => .bad := rfl
@[simp] theorem z_mC (d : D) (w0 : Sl) (B : Bs) : mC d w0 B = .ok d B := (rfl)
@[simp] theorem z_mBin (f : D → D → Bs → Rs D) (a b : Ev) (σI : Sl) (B : Bs) : mBin f a b σI B = (a σI B).bind fun x B1 => (b σI B1).bind fun y B2 => f x y B2 := (rfl)
@[simp] theorem z_mCmpT (f : D → D → Bs → Rs D) (ma mb : Ev) (σI : Sl) (B : Bs) : mCmpT f ma mb σI B = (ma σI B).bind fun x B1 => (mb σI B1).bind fun y B2 => toB (f x y B2) := (rfl)
@[simp] theorem z_mChain (f f' : D → D → Bs → Rs D) (ma mb mc : Ev) (σI : Sl) (B : Bs) : mChain f f' ma mb mc σI B = (ma σI B).bind fun x B1 => (mb σI B1).bind fun y B2 => (toB (f x y B2)).bind fun k B3 =>
  if k then (mc σI B3).bind fun z B4 => f' y z B4 else .ok (.bool false) B3 := rfl
@[simp] theorem z_mChainT (f f' : D → D → Bs → Rs D) (ma mb mc : Ev) (σI : Sl) (B : Bs) : mChainT f f' ma mb mc σI B = (ma σI B).bind fun x B1 => (mb σI B1).bind fun y B2 => (toB (f x y B2)).bind fun k B3 =>
  if k then (mc σI B3).bind fun z B4 => toB (f' y z B4) else .ok false B3 := rfl
@[simp] theorem z_mT (m : Ev) (σI : Sl) (B : Bs) : mT m σI B = (m σI B).bind fun d B1 => tru d B1 := (rfl)
@[simp] theorem z_mNotT (t : Et) (σI : Sl) (B : Bs) : mNotT t σI B = (t σI B).bind fun k B1 => .ok (!k) B1 := (rfl)
@[simp] theorem z_mAndT (t u : Et) (σI : Sl) (B : Bs) : mAndT t u σI B = (t σI B).bind fun k B1 => if k then u σI B1 else .ok false B1 := (rfl)
@[simp] theorem z_mOrT (t u : Et) (σI : Sl) (B : Bs) : mOrT t u σI B = (t σI B).bind fun k B1 => if k then .ok true B1 else u σI B1 := (rfl)
@[simp] theorem z_mAnd (ma mb : Ev) (σI : Sl) (B : Bs) : mAnd ma mb σI B = (ma σI B).bind fun d B1 => (tru d B1).bind fun k _ => if k then mb σI B1 else .ok d B1 := (rfl)
@[simp] theorem z_mNot (ma : Ev) (σI : Sl) (B : Bs) : mNot ma σI B = (ma σI B).bind fun d B1 => (tru d B1).bind fun k _ => .ok (.bool (!k)) B1 := (rfl)
@[simp] theorem z_mIte (t : Et) (ma mb : Ev) (σI : Sl) (B : Bs) : mIte t ma mb σI B = (t σI B).bind fun k B1 => if k then ma σI B1 else mb σI B1 := (rfl)
@[simp] theorem z_mNeg (ma : Ev) (σI : Sl) (B : Bs) : mNeg ma σI B = (ma σI B).bind fun d B1 => match d with
  | .int i => .ok (.int (-i)) B1
  | _ => .bad := rfl
@[simp] theorem z_mNil (w0 : Sl) (B : Bs) : mNil w0 B = .ok [] B := (rfl)
@[simp] theorem z_mCons (m : Ev) (ms : Evs) (σI : Sl) (B : Bs) : mCons m ms σI B = (m σI B).bind fun d B1 => (ms σI B1).bind fun ds B2 => .ok (d :: ds) B2 := (rfl)
@[simp] theorem z_mStar (m : Ev) (ms : Evs) (σI : Sl) (B : Bs) : mStar m ms σI B = (m σI B).bind fun d B1 => match seqOf d with
  | some ds => (ms σI B1).bind fun es B2 => .ok (ds ++ es) B2
  | Option.none => .bad := (rfl)
@[simp] theorem z_mTup (ms : Evs) (σI : Sl) (B : Bs) : mTup ms σI B = (ms σI B).bind fun ds B1 => if szL ds then .ok (.tup ds) B1 else .bad := (rfl)
@[simp] theorem z_mLst (ms : Evs) (σI : Sl) (B : Bs) : mLst ms σI B = (ms σI B).bind fun ds B1 => if szL ds then .ok (.lst ds) B1 else .bad := (rfl)
@[simp] theorem z_mSl10 (m ml : Ev) (σI : Sl) (B : Bs) : mSl10 m ml σI B = (m σI B).bind fun d B1 => (ml σI B1).bind fun l B2 => (asI l B2).bind fun i B3 => fSl d (some i) none B3 := (rfl)
@[simp] theorem z_mSl01 (m mh : Ev) (σI : Sl) (B : Bs) : mSl01 m mh σI B = (m σI B).bind fun d B1 => (mh σI B1).bind fun l B2 => (asI l B2).bind fun i B3 => fSl d none (some i) B3 := (rfl)
@[simp] theorem z_m1 (k : D → Bs → Rs D) (m : Ev) (σI : Sl) (B : Bs) : m1 k m σI B = (m σI B).bind k := (rfl)
@[simp] theorem z_mItems (m : Ev) (σ : Sl) (B : Bs) : mItems m σ B = (m σ B).bind fun d B1 => match itemsOf d with
  | some ds => .ok ds B1
  | Option.none => .bad := (rfl)
@[simp] theorem z_mRng1 (m : Ev) (σ : Sl) (B : Bs) : mRng1 m σ B = (m σ B).bind fun d B1 => (asI d B1).bind fun n B2 => if rngB n then .ok (rngD 0 n.toNat) B2 else .bad := (rfl)
@[simp] theorem z_mYes (w0 : Sl) (B : Bs) : mYes w0 B = .ok true B := (rfl)
@[simp] theorem z_mCall (f : Fn) (dfl : List D) (ms : Evs) (σ : Sl) (B : Bs) : mCall f dfl ms σ B = (ms σ B).bind fun ds B1 => f (ds ++ dfl) B1 := (rfl)
@[simp] theorem z_mBad (w0 : Sl) (w1 : Bs) : mBad w0 w1 = .bad := (rfl)
@[simp] theorem z_mFld (c j : Nat) (m : Ev) (σ : Sl) (B : Bs) : mFld c j m σ B = (m σ B).bind fun d B1 => match d with
  | .inst c' ds => if c' = c then okIf ds[j]? B1 else .bad
  | _ => .bad := rfl
@[simp] theorem z_mPrp (c : Nat) (f : Fn) (m : Ev) (σ : Sl) (B : Bs) : mPrp c f m σ B = (m σ B).bind (prpK c f) := (rfl)
@[simp] theorem z_mMakeS (f : Fn) (m : Ev) (σ : Sl) (B : Bs) : mMakeS f m σ B = (m σ B).bind fun d B1 => match d with
  | .tup ds => f ds B1
  | .lst ds => f ds B1
  | _ => .bad := rfl
@[simp] theorem z_bind_ok {α β : Type} (a : α) (B : Bs) (f : α → Bs → Rs β) : (Rs.ok a B).bind f = f a B := (rfl)
@[simp] theorem z_st_ok {α : Type} (a : α) (B : Bs) (f : α → Bs → Ss) : (Rs.ok a B).st f = f a B := (rfl)
@[simp] theorem z_seq_next (σ : Sl) (B : Bs) (k : Ms) : (Ss.next σ B).seq k = k σ B := (rfl)
@[simp] theorem z_seq_ret (d : D) (B : Bs) (k : Ms) : (Ss.ret d B).seq k = .ret d B := (rfl)
@[simp] theorem z_fin_next (σ : Sl) (B : Bs) : (Ss.next σ B).fin = .ok .none B := (rfl)
@[simp] theorem z_fin_ret (d : D) (B : Bs) : (Ss.ret d B).fin = .ok d B := (rfl)
@[simp] theorem z_toB (b : Bool) (B : Bs) : toB (.ok (.bool b) B) = .ok b B := (rfl)
@[simp] theorem z_tru_b (b : Bool) (B : Bs) : tru (.bool b) B = .ok b B := (rfl)
@[simp] theorem z_tru_i (i : Int) (B : Bs) : tru (.int i) B = .ok (i != 0) B := (rfl)
@[simp] theorem z_seq_t (ds : List D) : seqOf (.tup ds) = some ds := (rfl)
@[simp] theorem z_seq_l (ds : List D) : seqOf (.lst ds) = some ds := (rfl)
@[simp] theorem z_okIf (d : D) (B : Bs) : okIf (some d) B = .ok d B := (rfl)
@[simp] theorem z_asI (i : Int) (B : Bs) : asI (.int i) B = .ok i B := (rfl)
@[simp] theorem z_it_t (ds : List D) : itemsOf (.tup ds) = some ds := (rfl)
@[simp] theorem z_it_l (ds : List D) : itemsOf (.lst ds) = some ds := (rfl)
@[simp] theorem z_it_s (ds : List D) : itemsOf (.scr ds) = some ds := (rfl)
@[simp] theorem z_mkFn (n k : Nat) (b : Ms) (ds : List D) (B : Bs) : mkFn n k b ds B = if ds.length = n then (b (ds.map (fun d => some (false, d)) ++ List.replicate (k - n) Option.none) B).fin else .bad := (rfl)
@[simp] theorem z_prpK (c : Nat) (f : Fn) (ds : List D) (B : Bs) : prpK c f (.inst c ds) B = noX (f [.inst c ds] B) := by simp [prpK]
@[simp] theorem z_noX {α : Type} (a : α) (B : Bs) : noX (.ok a B) = .ok a B := (rfl)
@[simp] theorem z_isIi (i : Int) : isB .int (.int i) = some true := (rfl)
@[simp] theorem z_isBi (i : Int) : isB .bool (.int i) = some false := (rfl)
@[simp] theorem z_isTt (ds : List D) : isB .tuple (.tup ds) = some true := (rfl)
@[simp] theorem z_isSs (x : Str) : isB .str (.str x) = some true := (rfl)
@[simp] theorem z_isC (c : Nat) (ds : List D) : isC c (.inst c ds) = some true := by simp [isC, subC]
@[simp] theorem z_mIsB (T : Bt) (m : Ev) (σ : Sl) (B : Bs) : mIsB T m σ B = (m σ B).bind fun d B => match isB T d with
  | some r => .ok (.bool r) B
  | Option.none => .bad := (rfl)
@[simp] theorem z_mIsC (c : Nat) (m : Ev) (σ : Sl) (B : Bs) : mIsC c m σ B = (m σ B).bind fun d B => match isC c d with
  | some r => .ok (.bool r) B
  | Option.none => .bad := (rfl)
@[simp] theorem z_frz (i : Nat) (σ : Sl) : frz i σ = match σ[i]? with
  | some (some (true, .inst _ _)) => Option.none
  | some (some (_, d)) => some (σ.set i (some (false, d)))
  | _ => Option.none := (rfl)
@[simp] theorem z_fSub (i j : Int) (B : Bs) : fSub (.int i) (.int j) B = .ok (.int (i - j)) B := (rfl)
@[simp] theorem z_fAddI (i j : Int) (B : Bs) : fAdd (.int i) (.int j) B = .ok (.int (i + j)) B := (rfl)
theorem z_fMod (i j : Int) (B : Bs) (h : 0 < j) : fMod (.int i) (.int j) B = .ok (.int (i % j)) B := by simp [fMod, fI2, h]
theorem z_fDiv (i j : Int) (B : Bs) (h : 0 < j) (h2 : j < 1073741824) : fDiv (.int i) (.int j) B = .ok (.int (i / j)) B := by simp [fDiv, fI2, h, h2]
theorem z_fMulI (i j : Int) (B : Bs) (h : (wideB i || wideB j) = true) : fMul (.int i) (.int j) B = .ok (.int (i * j)) B := by simp [fMul, h]
theorem wide_of {i : Int} (h : -(2 ^ 64) < i) (h2 : i < 2 ^ 64) : wideB i = true := by simp [wideB]; omega
@[simp] theorem z_fLt (i j : Int) (B : Bs) : fLt (.int i) (.int j) B = .ok (.bool (decide (i < j))) B := (rfl)
@[simp] theorem z_fLe (i j : Int) (B : Bs) : fLe (.int i) (.int j) B = .ok (.bool (decide (i ≤ j))) B := (rfl)
@[simp] theorem z_fGt (i j : Int) (B : Bs) : fGt (.int i) (.int j) B = .ok (.bool (decide (j < i))) B := (rfl)
@[simp] theorem z_fMax2 (i j : Int) (B : Bs) : fMax2 (.int i) (.int j) B = .ok (.int (if j > i then j else i)) B := (rfl)
@[simp] theorem z_fMin2 (i j : Int) (B : Bs) : fMin2 (.int i) (.int j) B = .ok (.int (if j < i then j else i)) B := (rfl)
@[simp] theorem z_lenT (ds : List D) (B : Bs) : fLen (.tup ds) B = .ok (.int ds.length) B := (rfl)
@[simp] theorem z_lenL (ds : List D) (B : Bs) : fLen (.lst ds) B = .ok (.int ds.length) B := (rfl)
@[simp] theorem z_lenS (ds : List D) (B : Bs) : fLen (.scr ds) B = .ok (.int ds.length) B := (rfl)
@[simp] theorem z_tupL (ds : List D) (B : Bs) : fTupO (.lst ds) B = .ok (.tup ds) B := (rfl)
@[simp] theorem z_tupT (ds : List D) (B : Bs) : fTupO (.tup ds) B = .ok (.tup ds) B := (rfl)


/-- a comprehension that changes boxes: what is known of each value and of the boxes is kept -/
theorem lcL_inv {t : Tg} {me : Ev} {σ : Sl} {N : Nat} (I : Bs → List D → Prop) : (ds : List D) → (B : Bs) → (acc : List D) → acc.length + ds.length = N → (h : ∀ d ∈ ds, ∀ B acc, acc.length < N → I B acc → ∃ σ', t d σ = some σ' ∧ ∃ e B', me σ' B = .ok e B' ∧ I B' (acc ++ [e])) → I B acc →
    ∃ es B', lcL t mYes me σ ds B = .ok es B' ∧ I B' (acc ++ es) ∧ es.length = ds.length
  | [], B, acc, _, _, hI => ⟨[], B, rfl, by simpa using hI, rfl⟩
  | d :: ds, B, acc, hN, h, hI => by
    obtain ⟨σ', h1, e, B1, h2, h3⟩ := h d (List.mem_cons_self ..) B acc (by simp at hN; omega) hI
    obtain ⟨es, B2, h4, h5, h6⟩ := lcL_inv (t := t) (me := me) (σ := σ) (N := N) I ds B1 (acc ++ [e]) (by simp at hN ⊢; omega) (fun d hd => h d (List.mem_cons_of_mem _ hd)) h3
    exact ⟨e :: es, B2, by simp [lcL, h1, h2, h4], by simpa using h5, by simp [h6]⟩
theorem mLc_inv {vs : List Nat} {i : Nat} {mi : Ei} {me : Ev} {σ : Sl} {B : Bs} {ds : List D} (I : Bs → List D → Prop) (hi : mi σ B = .ok ds B) (hl : ds.length ≤ sizeLine) (h0 : I B [])
    (h : ∀ d ∈ ds, ∀ B acc, acc.length < ds.length → I B acc → ∃ e B', me ((wipeI σ vs).set i (some (false, d))) B = .ok e B' ∧ I B' (acc ++ [e])) : ∃ es B', mLc vs (gN i) mi mYes me σ B = .ok (.lst es) B' ∧ I B' es ∧ es.length = ds.length := by
  obtain ⟨es, B', h1, h2, h3⟩ := lcL_inv (t := gN i) (me := me) (σ := wipeI σ vs) (N := ds.length) I ds B [] (by simp) (fun d hd B acc hn hI => ⟨_, rfl, h d hd B acc hn hI⟩) h0
  exact ⟨es, B', by simp [mLc, hi, h1, szL, h3, hl], by simpa using h2, h3⟩
theorem forL_inv {t : Tg} {b : Ms} (I : Nat → Sl → Bs → Prop) : (ds : List D) → (n : Nat) → (σ : Sl) → (B : Bs) → (h : ∀ i d σ B, ds[i]? = some d → I (n + i) σ B → ∃ σ', t d σ = some σ' ∧ ∃ σ'' B'', b σ' B = .next σ'' B'' ∧ I (n + i + 1) σ'' B'') → I n σ B →
    ∃ σ' B', forL t b ds σ B = .next σ' B' ∧ I (n + ds.length) σ' B'
  | [], n, σ, B, _, hI => ⟨σ, B, rfl, hI⟩
  | d :: ds, n, σ, B, h, hI => by
    obtain ⟨σ', h1, σ2, B2, h2, h3⟩ := h 0 d σ B rfl hI
    obtain ⟨σ3, B3, h4, h5⟩ := forL_inv (t := t) (b := b) I ds (n + 1) σ2 B2 (fun i d σ B hd hI => by
      have e : n + 1 + i = n + (i + 1) := by omega
      rw [e] at hI ⊢
      exact h (i + 1) d σ B (by simpa using hd) hI) h3
    refine ⟨σ3, B3, by simp [forL, h1, h2, h4], ?_⟩
    have e : n + 1 + ds.length = n + (d :: ds).length := by simp; omega
    rwa [e] at h5
theorem rngD_get {a : Int} {n i : Nat} {d : D} (h : (rngD a n)[i]? = some d) : d = .int (a + (i : Nat)) ∧ i < n := by
  simp only [rngD, List.getElem?_map, Option.map_eq_some_iff] at h
  obtain ⟨j, h1, h2⟩ := h
  obtain ⟨h3, h4⟩ := List.getElem?_eq_some_iff.mp h1
  simp at h3 h4; subst h4; exact ⟨h2.symm, h3⟩
theorem size_big : (1000000 : Nat) ≤ sizeLine := by decide
end Hf

set_option Elab.async false
set_option linter.all false
set_option maxRecDepth 100000
set_option maxHeartbeats 4000000
namespace Hf
open PySem PySem.Spec PyProof.Rows L2

/-! ### own exceptions without fields: raise -/
section
variable {g : Gs} {E : XK} {w0 w : Wd} {H0 H : Hp} {X : Cx} {e o a b : Expr} {es : List Expr} {m ma mb mo : Ev} {pos p p1 p2 pos2 apos cpos : Pos} {x : Str} {lv c : Nat} {b1 b2 : Bool}
end
/-! ### what is told of the exceptions' classes -/
/-! ### where an exception is handled -/
/-! ### l.count(x) -/
section
variable {g : Gs} {R : List Nat} {E : XK} {w0 w : Wd} {H0 H : Hp} {X : Cx} {e o a b : Expr} {es : List Expr} {m ma mb mo : Ev} {pos p p1 p2 pos2 apos cpos : Pos} {x : Str} {lv c d : Nat} {ea : Addr} {b1 b2 : Bool}
end
/-! ### the meaning of _law_word: c the class, a the place -/
end Hf

set_option Elab.async false
set_option linter.all false
set_option maxRecDepth 100000
set_option maxHeartbeats 4000000
namespace Hf
open PySem PySem.Spec PyProof.Rows L2

end Hf

set_option Elab.async false
set_option linter.all false
set_option maxRecDepth 100000
set_option maxHeartbeats 4000000
namespace Hf
open PySem PySem.Spec PyProof.Rows L2

/-! ### _law_word: told of the exception that is handled -/
/-- the dict of an exception, known to the world -/
theorem RB.xd {g : Gs} {w : Wd} {B : Bs} {H : Hp} {dd : Addr} {fs : List (Str × V)} (rb : RB g w B H) (h : H dd = some (.xd fs)) : RB g { w with P := upd w.P dd (.xd fs) } B H ∧ Le w { w with P := upd w.P dd (.xd fs) } ∧ Ext w H { w with P := upd w.P dd (.xd fs) } H := by
  have np : ∀ o, w.P dd = some o → o = .xd fs := fun o e => by
    have z := rb.sub dd o e
    rw [h] at z
    exact (Option.some.inj z).symm
  have l : Le w { w with P := upd w.P dd (.xd fs) } := ⟨fun b o e => by
    show upd w.P dd (.xd fs) b = some o
    by_cases hb : b = dd
    · subst hb
      rw [upd_same, np o e]
    · rw [upd_ne hb]; exact e, fun _ _ e => e⟩
  have hnt : ∀ b ps, upd w.P dd (.xd fs) b ≠ some (.tbl ps) := fun b ps e => by
    by_cases hb : b = dd
    · subst hb; rw [upd_same] at e; cases e
    · rw [upd_ne hb] at e; exact rb.nt b ps e
  have hio : ∀ n a, w.io n = some a → a ≠ dd := fun n a e z => by
    obtain ⟨b, hb⟩ : ∃ b, B[n]? = some b := ⟨_, List.getElem?_eq_getElem (rb.dom n a e)⟩
    obtain ⟨a', o, q1, q2, q3⟩ := rb.get n b hb
    rw [e] at q1
    cases q1
    rw [z, h] at q2
    exact q3.nt.x fs (Option.some.inj q2).symm
  refine ⟨rb.keep l rfl (fun b o e => ?_) (Same.refl _) (fun n a e => ?_) hnt, l, ⟨l, fun _ _ h _ _ => h, fun b o e => ?_, fun _ _ h => .inl h, fun _ h => h, rfl⟩⟩
  · have e : upd w.P dd (.xd fs) b = some o := e
    by_cases hb : b = dd
    · subst hb; rw [upd_same] at e; rw [← e]; exact h
    · rw [upd_ne hb] at e; exact rb.sub b o e
  · show upd w.P dd (.xd fs) a = Option.none
    rw [upd_ne (hio n a e)]
    exact rb.np n a e
  · have e : upd w.P dd (.xd fs) b = some o := e
    by_cases hb : b = dd
    · subst hb; rw [upd_same] at e; cases e; exact .inr (.inr (.inr ⟨_, rfl⟩))
    · rw [upd_ne hb] at e; exact .inl e
end Hf

set_option Elab.async false
set_option linter.all false
set_option maxRecDepth 100000
set_option maxHeartbeats 4000000
namespace Hf
open PySem PySem.Spec PyProof.Rows L2

/-! ### a lambda is made; what was there is there -/
section
variable {X : Cx} {pins : List (Addr × Obj)} {σ : L2.St} {H : Hp} {s : Shared}
theorem lam_mkT {T : List (Addr × Str)} {k0 P : Addr} {prm : Arguments} {bd : Expr} {sc : Scope} {lp : Pos} {Er Q : Value → Shared → Prop} (I : Inv X pins σ H s) (tb : LamX.TabB X.base X.mg k0 P) (hk : X.env.code = .ref k0)
    (mem : (P, X.env.qual ++ "<lambda>") ∈ T) (uni : ∀ p ∈ T, p.1 = P → p.2 = X.env.qual ++ "<lambda>") (tT : LamX.Tabs T H) (hdf : defaultsOf prm X.env = ([], [])) (fre : ∀ y ∈ sc.names, y.2 = .free → ∃ c, X.env.cells.lookup y.1 = some c)
    (go : ∀ (f c' : Addr) (pm ct : Value) (H1 : Hp) (s' : Shared), Inv X pins σ H1 s' → LamX.ExtN H H1 → (∀ b, H b ≠ Option.none → H1 b ≠ Option.none) → LamX.Tabs T H1 →
      s'.heap.get? f = some (PySem.W.kla_obj "<lambda>" (X.env.qual ++ "<lambda>") prm bd sc (cloFrom X.env.cells sc.names []) pm c' ct) → H1 f = Option.none → f ∉ frs X.stack → H1 c' = some (LamX.CodeO c' (X.env.qual ++ "<lambda>")) → Q (.ref f) s') :
    wpAny (model X.prog X.w) X.A (eval (.Lambda prm bd sc lp) X.env) Q Er s := by
  obtain ⟨ps, atP, ht, ha⟩ := tT _ mem
  refine PySem.W.kla_eval hdf ?_
  have bP : s.heap.BuiltinsAt X.mg P := tb.bm.keeps I.bk
  have gP : s.heap.get? P = some { cls := .none, data := .fields ps } := I.hok P _ atP
  have far : ∀ f, s.heap.objs.size ≤ f → f ∉ frs X.stack := fun f hf z => by
    rcases List.mem_cons.mp (I.stkSub _ z) with e | e
    · have q1 := I.lt
      rw [← e] at q1
      exact Nat.lt_irrefl _ (Nat.lt_of_lt_of_le q1 hf)
    · exact I.nofs hf e
  cases am : codeAmong lp ps.toList with
  | none =>
    refine PySem.W.kla_makeFunction (mg := X.mg) (c := k0) (P := P) (ps := ps) (closure_ok fre) I.ok.glob (I.mod.glob.keeps I.bk) hk (tb.code.keeps I.bk) gP ht am tb.gP bP fun c' ct h' tk hx hge hlt hrec htb => ?_
    obtain ⟨c2, oc, vs, t, e2, hoc, hd, hv⟩ := hrec
    cases e2
    have big : s.heap.objs.size ≤ h'.objs.size := Nat.le_trans hge (Nat.le_of_lt hlt)
    have newC : H c' = Option.none := I.hok.fresh hge
    have J := LamX.inv_table (t' := tk) (more := #[rawInt lp.line, rawInt lp.col, .ref c']) (h' := h'.push (PySem.W.kla_obj "<lambda>" (X.env.qual ++ "<lambda>") prm bd sc (cloFrom X.env.cells sc.names []) ((X.mg "__name__").getD .none) c' ct)) I atP
      (fun b o z e => Heap.get?_push_of_some _ (hx b o z e)) (Heap.get?_push_of_some _ htb) hge ⟨oc, vs, t, Heap.get?_push_of_some _ hoc, hd, hv⟩
    have kept : LamX.ExtN H (upd (upd H P (.tbl (ps ++ #[rawInt lp.line, rawInt lp.col, .ref c']))) c' (LamX.CodeO c' (X.env.qual ++ "<lambda>"))) := fun b o e n => by
      rw [upd_ne (ne_of_none e newC), upd_ne fun z => n ps (Option.some.inj (e.symm.trans (by rw [z]; exact atP)))]
      exact e
    have lst : (ps ++ #[rawInt lp.line, rawInt lp.col, .ref c']).toList = ps.toList ++ [rawInt lp.line, rawInt lp.col, .ref c'] := by simp
    refine go h'.objs.size c' ((X.mg "__name__").getD .none) ct _ _ J kept (fun b hb => ?_) (fun p hp => ?_) (Heap.get?_push_size _ rfl) ?_ (far _ big) upd_same
    · by_cases z : b = c'
      · rw [z, upd_same]; simp
      · rw [upd_ne z]
        by_cases z2 : b = P
        · rw [z2, upd_same]; simp
        · rw [upd_ne z2]; exact hb
    · by_cases z : p.1 = P
      · rw [uni p hp z, z]
        refine ⟨_, by rw [upd_ne (ne_of_none atP newC), upd_same], by rw [lst]; exact PySem.TriplesOk_snoc _ _ _ _ ht, fun p' cv hcv => ?_⟩
        rw [lst] at hcv
        rcases LamX.among_app _ ht hcv with z | z
        · obtain ⟨c0, e1, e2⟩ := ha p' cv z
          exact ⟨c0, e1, kept _ _ e2 LamX.codeO_ne⟩
        · exact ⟨c', z, upd_same⟩
      · obtain ⟨ps', a1, a2, a3⟩ := tT p hp
        refine ⟨ps', by rw [upd_ne (ne_of_none a1 newC), upd_ne z]; exact a1, a2, fun p' cv hcv => ?_⟩
        obtain ⟨c0, e1, e2⟩ := a3 p' cv hcv
        exact ⟨c0, e1, kept _ _ e2 LamX.codeO_ne⟩
    · have q1 : h'.objs.size ≠ c' := Nat.ne_of_gt hlt
      have q2 : h'.objs.size ≠ P := Nat.ne_of_gt (Nat.lt_of_lt_of_le (Heap.lt_size gP) big)
      rw [upd_ne q1, upd_ne q2]
      exact I.hok.fresh big
  | some cv =>
    obtain ⟨c', e, hco⟩ := ha lp cv am
    subst e
    refine PySem.W.kla_makeFunctionHit (mg := X.mg) (c := k0) (P := P) (ps := ps) (closure_ok fre) I.ok.glob (I.mod.glob.keeps I.bk) hk (tb.code.keeps I.bk) gP ht am bP fun ct h' tk hx big => ?_
    exact go h'.objs.size c' ((X.mg "__name__").getD .none) ct H _ (I.kept fun b o e => Heap.get?_push_of_some _ (hx b o e)) (LamX.ExtN.refl H) (fun _ z => z) tT (Heap.get?_push_size _ rfl) (I.hok.fresh big) (far _ big) hco
end
end Hf

set_option Elab.async false
set_option linter.all false
set_option maxRecDepth 100000
set_option maxHeartbeats 4000000
namespace Hf
open PySem PySem.Spec PyProof.Rows L2

/-! ### _law_said(lambda: ..) -/
/-- the def that holds lambdas: its code object, its table -/
structure LamK (g : Gs) (X : Cx) (k0 P : Addr) : Prop where
  tb : LamX.TabB g.base g.mg k0 P
  code : X.env.code = .ref k0
  mem : (P, X.env.qual ++ "<lambda>") ∈ g.tabs
  uni : ∀ p ∈ g.tabs, p.1 = P → p.2 = X.env.qual ++ "<lambda>"
theorem un_of {k : Nat} {A : Around} (r : Room k A) : A.units + 100 < cLine := by
  have := r.un
  omega
end Hf

set_option Elab.async false
set_option linter.all false
set_option maxRecDepth 100000
set_option maxHeartbeats 4000000
namespace Hf
open PySem PySem.Spec PyProof.Rows L2

theorem OkG.mono {g : Gs} {E : XK} {lv k : Nat} {X : Cx} (c : OkG g E lv X) (h : k ≤ lv) : OkG g E k X := ⟨⟨c.toOk, c.room.mono h, c.hx⟩, c.gd⟩
/-! ### a def that holds lambdas -/
/-! ### the end: empty tables stand, the script is laid -/
/-- the heap at the law's call: the tables T, the script -/
def topH (T : List Addr) (sc : Option (Addr × HO)) : Hp := fun b => if b ∈ T then some (.tbl #[]) else match sc with
  | some (a, o) => if b = a then some o else Option.none
  | Option.none => Option.none
theorem topH_T {T : List Addr} {sc : Option (Addr × HO)} {b : Addr} (h : b ∈ T) : topH T sc b = some (.tbl #[]) := if_pos h
theorem topH_cases {T : List Addr} {sc : Option (Addr × HO)} {b : Addr} {o : HO} (h : topH T sc b = some o) : (b ∈ T ∧ o = .tbl #[]) ∨ (b ∉ T ∧ sc = some (b, o)) := by
  unfold topH at h
  by_cases hb : b ∈ T
  · rw [if_pos hb] at h; exact .inl ⟨hb, (Option.some.inj h).symm⟩
  · rw [if_neg hb] at h
    refine .inr ⟨hb, ?_⟩
    split at h
    · rename_i a o'
      by_cases e : b = a
      · subst e; rw [if_pos rfl] at h; cases h; rfl
      · rw [if_neg e] at h; cases h
    · cases h
/-- what the law's def is promised -/
def spLT (g : Gs) (T : List Addr) : Sp := fun vs H Q _ => ∃ (a : Addr) (ns : List Int) (sc : Option (Addr × HO)), vs = [.ref a] ∧ H = topH T sc ∧ (∀ b o, sc = some (b, o) → ∃ ob xs, o = .frz ob (.lst xs)) ∧ (∀ b o, sc = some (b, o) → b ∉ T) ∧ SqL g.K (topH T sc) a (ns.map V.int) ∧ ns.length ≤ 63 ∧ ∀ H', Q (.bl true) H'
theorem top_promiseT {P : Program} {w : World} {K : PySem.W.Frag} {mg : Str → Option Value} {base : Heap} {CX : CXT} {k : Nat} {fa : Addr} {fd : FuncData} {x : Str} {g : Gs} {f : Fn} {T : List Addr} (ht : ∀ p ∈ g.tabs, p.1 ∈ T) (F : FnG P w K mg base CX k fa fd [x] (spF g f))
    (hf : ∀ ns : List Int, ns.length ≤ 63 → ∃ B, f [.scr (ns.map D.int)] [] = .ok (.bool true) B) : FnG P w K mg base CX k fa fd [x] (spLT g T) := by
  have imp : ∀ vs H Q E, spLT g T vs H Q E → spF g f vs H Q E := by
    rintro vs H Q E ⟨a, ns, sc, rfl, rfl, hfz, hnT, hS, hl, hq⟩
    obtain ⟨B, hB⟩ := hf ns hl
    have at_ : ∀ b, topH [] sc b ≠ Option.none → topH [] sc b = topH T sc b := fun b hb => by
      cases q : topH [] sc b with
      | none => exact absurd q hb
      | some o =>
        rcases topH_cases q with ⟨z, _⟩ | ⟨_, z⟩
        · cases z
        · subst z
          unfold topH
          rw [if_neg (hnT _ _ rfl)]
          simp
    refine ⟨{ P := topH [] sc, io := fun _ => Option.none }, [.scr (ns.map D.int)], [], ⟨fun b o e => ?_, fun n b e => by simp at e, fun _ _ _ e => (nomatch e), fun _ _ e => (nomatch e), fun _ _ e => (nomatch e), fun p hp => LamX.TabS.nil (topH_T (ht p hp)), fun b ps e => ?_⟩, ?_, ?_⟩
    · have e : topH [] sc b = some o := e
      rw [← at_ b (by rw [e]; simp)]; exact e
    · rcases topH_cases (show topH [] sc b = some (.tbl ps) from e) with ⟨z, _⟩ | ⟨_, z⟩
      · cases z
      · obtain ⟨_, _, z2⟩ := hfz _ _ z
        cases z2
    · simp only [Reps, Rep]
      refine ⟨_, _, rfl, ⟨a, ns.map V.int, rfl, ?_, reps_ints g _ ns⟩, rfl⟩
      have low : ∀ o, topH T sc a = some o → (∀ ps, o ≠ .tbl ps) → topH [] sc a = some o := fun o e n => by
        rcases topH_cases e with ⟨_, z⟩ | ⟨_, z⟩
        · exact absurd z (n _)
        · subst z; unfold topH; simp
      rcases hS with (h | ⟨o, h⟩) | h
      · exact .inl (.inl (low _ h fun ps z => by cases z))
      · exact .inl (.inr ⟨o, low _ h fun ps z => by cases z⟩)
      · exact .inr h
    · rw [hB]
      intro w' v H' _ _ r
      simp only [Rep] at r
      subst r
      exact hq H'
  exact ⟨fun vs H Q E h => F.len vs H Q E (imp _ _ _ _ h), fun A outer s H args us vs Q E hg hr e0 hb r h => F.run A outer s H args us vs Q E hg hr e0 hb r (imp _ _ _ _ h)⟩
/-- the call of the law -/
theorem law_callT {P : Program} {w : World} {K : PySem.W.Frag} {mg mb : Str → Option Value} {CX : CXT} {k : Nat} {fa a : Addr} {cs : List (Addr × Addr)} {fd : FuncData} {x : Str} {s₁ : Shared} {vs : List Value} {ns : List Int}
    (KX : K.In s₁.heap) (gn : s₁.heap.Ns mainGlobals mg) (bn : s₁.heap.Ns builtinsNs mb) (bb : ∀ x : Str, x ≠ "__name__" → mb x = bootBuiltins x) (lm : s₁.heap.NoLimit) (g0 : s₁.gens = #[])
    (tE : ∀ p ∈ cs, s₁.heap.get? p.2 = some { cls := .none, data := .fields #[] }) (tK : ∀ p ∈ cs, K.lookup p.2 = Option.none) (tC : ∀ p ∈ cs, PySem.W.CodeHd s₁.heap p.1 p.2)
    (mod : ∃ (bm : Addr) (ob : Obj), mg "__builtins__" = some (.ref bm) ∧ bm ≠ builtinsNs ∧ s₁.heap.get? bm = some ob ∧ ob.cls = .type "module" ∧ ob.dict = some builtinsNs ∧ ob.data = .plain)
    (ha : s₁.heap.get? a = some { cls := .type "list", data := .seq vs.toArray }) (hi : IntsAre vs ns) (hl : ns.length ≤ 63) (hr : Room k callerA)
    (F : ∀ base : Heap, K.In base → base.Ns mainGlobals mg → (∀ p ∈ cs, LamX.TabB base mg p.1 p.2) → ∃ g : Gs, g.K = K ∧ FnG P w K mg base CX k fa fd [x] (spLT g (cs.map (·.2)))) (hbind : ∀ (s : Shared) (uu : Value), BindsTo s fd ⟨[uu], []⟩ [(x, uu)])
    (hCX : ∀ H e s', CX [] H s₁ (fun _ _ _ => False) e s' → False) :
    codeAny (model P w) callerA (.call (.ref fa) ⟨[.ref a], []⟩) (fun r s' => r = .ok (.ret (.bool true)) ∧ OldK s₁.heap s'.heap ∧ s'.os = s₁.os ∧ AllBare s'.gens) s₁ := by
  have rvs := vals_ints hi
  have lenVs := hi.length
  have l63 : ns.length ≤ sizeLine := Nat.le_trans hl (by decide)
  have tAt : ∀ b ∈ cs.map (·.2), s₁.heap.get? b = some { cls := .none, data := .fields #[] } := fun b hb => by
    obtain ⟨p, hp, rfl⟩ := List.mem_map.mp hb
    exact tE p hp
  have tLk : ∀ b ∈ cs.map (·.2), K.lookup b = Option.none := fun b hb => by
    obtain ⟨p, hp, rfl⟩ := List.mem_map.mp hb
    exact tK p hp
  have aT : a ∉ cs.map (·.2) := fun z => by
    have q := (tAt a z).symm.trans ha
    cases q
  -- the script is tracked, or one of the module's own
  obtain ⟨sc, hsc, hsq, hfz⟩ : ∃ sc : Option (Addr × HO), (∀ b o, sc = some (b, o) → b = a ∧ K.lookup a = Option.none ∧ ObjOk P w (topH (cs.map (·.2)) sc) s₁.heap a o) ∧ SqL K (topH (cs.map (·.2)) sc) a (ns.map V.int) ∧ (∀ b o, sc = some (b, o) → ∃ ob xs, o = .frz ob (.lst xs)) := by
    cases hk : K.lookup a with
    | some o =>
      have e := KX a o hk
      rw [ha] at e
      cases e
      exact ⟨Option.none, fun b o e => (nomatch e), .inr ⟨_, vs.toArray, _, hk, rfl, rfl, rfl, by rw [List.size_toArray, lenVs]; exact l63, by simpa using rvs⟩, fun b o e => (nomatch e)⟩
    | none =>
      refine ⟨some (a, .frz { cls := .type "list", data := .seq vs.toArray } (.lst (ns.map V.int))), fun b o e => ?_, .inl (.inr ⟨{ cls := .type "list", data := .seq vs.toArray }, ?_⟩), fun b o e => ?_⟩
      · cases e
        exact ⟨rfl, rfl, ha, by rw [List.length_map]; exact l63, vs, _, rvs, ha⟩
      · unfold topH; rw [if_neg aT]; simp
      · cases e; exact ⟨_, _, rfl⟩
  have hid : ∀ {b : Addr} {o : Obj}, s₁.heap.get? b = some o → o.data ≠ .fields #[] → (∀ us j, o.data ≠ .seq us j) → topH (cs.map (·.2)) sc b = Option.none := fun {b o} e n1 n2 => by
    cases q : topH (cs.map (·.2)) sc b with
    | none => rfl
    | some u =>
      rcases topH_cases q with ⟨z, _⟩ | ⟨_, z⟩
      · rw [tAt b z] at e; cases e; exact absurd rfl n1
      · obtain ⟨rfl, _⟩ := hsc _ _ z
        rw [ha] at e; cases e; exact absurd rfl (n2 _ _)
  have inB : ∀ {b : Addr} {o : Obj}, s₁.heap.get? b = some o → topH (cs.map (·.2)) sc b = Option.none → (hidT s₁.heap (topH (cs.map (·.2)) sc)).get? b = some o := fun e n => hidT_get e n
  have nsB : ∀ {b : Addr} {m : Str → Option Value}, s₁.heap.Ns b m → (hidT s₁.heap (topH (cs.map (·.2)) sc)).Ns b m := fun {b m} ⟨o, es, ep, e, d, r⟩ => ⟨o, es, ep, inB e (hid e (by rw [d]; exact fun z => (nomatch z)) (by rw [d]; exact fun us j z => (nomatch z))), d, r⟩
  have KB : K.In (hidT s₁.heap (topH (cs.map (·.2)) sc)) := fun b o e => inB (KX b o e) (by
    cases q : topH (cs.map (·.2)) sc b with
    | none => rfl
    | some u =>
      rcases topH_cases q with ⟨z, _⟩ | ⟨_, z⟩
      · rw [tLk b z] at e; cases e
      · obtain ⟨rfl, z2, _⟩ := hsc _ _ z
        rw [z2] at e; cases e)
  have MB : Mod K mg (hidT s₁.heap (topH (cs.map (·.2)) sc)) := ⟨KB, nsB gn, ⟨mb, nsB bn, bb⟩, let ⟨mc, h1, h2⟩ := lm; ⟨mc, nsB h1, h2⟩⟩
  have TB : ∀ p ∈ cs, LamX.TabB (hidT s₁.heap (topH (cs.map (·.2)) sc)) mg p.1 p.2 := fun p hp => by
    refine ⟨?_, ?_, fun z => ?_⟩
    · obtain ⟨o, us, fl, tf, fg, tg, inF, tx, tt, e1, r1, r2, r3, r⟩ := tC p hp
      refine ⟨o, us, fl, tf, fg, tg, inF, tx, tt, inB e1 (hid e1 (fun z => ?_) fun u j z => ?_), r1, r2, r3, r⟩
      · rw [r2] at z; cases z; simp at r3
      · rw [r2] at z; cases z
    · obtain ⟨bm, ob, b1, b2, b3, b4, b5, b6⟩ := mod
      refine ⟨bm, ob, b1, b2, fun q => ?_, fun q => ?_, inB b3 (hid b3 (by rw [b6]; exact fun z => (nomatch z)) (by rw [b6]; exact fun u j z => (nomatch z))), b4, b5, b6⟩
      · obtain ⟨o, es, ep, e, hd, _⟩ := gn
        rw [q, e] at b3; cases b3; rw [hd] at b6; cases b6
      · rw [q, tE p hp] at b3; cases b3; cases b6
    · obtain ⟨o, es, ep, e, hd, _⟩ := gn
      rw [z, tE p hp] at e; cases e; cases hd
  have hHO : HOk P w (topH (cs.map (·.2)) sc) s₁.heap := fun b u e => by
    rcases topH_cases e with ⟨z, rfl⟩ | ⟨_, z⟩
    · exact tAt b z
    · obtain ⟨rfl, _, r⟩ := hsc _ _ z
      exact r
  have env1 : Env0 P w K mg (hidT s₁.heap (topH (cs.map (·.2)) sc)) callerA [] s₁ (topH (cs.map (·.2)) sc) := ⟨rfl, MB, fun b o e => of_hidT e, Nat.le_of_eq (hidT_size _ _), trivial, fun b hb => absurd (show b ∈ ([] : List Addr) from hb) (by simp), hHO, .of_eq g0⟩
  obtain ⟨g, gK, hF⟩ := F _ KB (nsB gn) TB
  refine codeAny_mono (hF.run callerA [] s₁ _ ⟨[.ref a], []⟩ [.ref a] [.ref a] (fun v _ => v = .bl true) (fun _ _ _ => False) rfl hr env1 (hbind s₁ (.ref a)) (.cons rfl .nil) ⟨a, ns, sc, rfl, rfl, hfz, fun b o z => by obtain ⟨rfl, _⟩ := hsc _ _ z; exact aT, gK ▸ hsq, hl, fun _ => rfl⟩) fun r s' h => ?_
  cases r with
  | error e => exact (hCX _ e s' h).elim
  | ok fl =>
    cases fl with
    | next => exact False.elim h
    | brk => exact False.elim h
    | cont => exact False.elim h
    | ret uu =>
      obtain ⟨v, H', os, bar, unn, hHO', rr', qq⟩ := h
      have qq' : v = .bl true := qq
      subst qq'
      obtain rfl : uu = Value.bool true := rr'
      have gr : ∀ p ∈ cs, ∃ mo : Array Value, s'.heap.get? p.2 = some { cls := .none, data := .fields mo } := fun p hp => by
        obtain ⟨mo, z⟩ := unn.tbls p.2 #[] (topH_T (List.mem_map.mpr ⟨p, hp, rfl⟩))
        exact ⟨_, hHO' p.2 _ z⟩
      have stay : ∀ b o, b ∉ cs.map (·.2) → s₁.heap.get? b = some o → s'.heap.get? b = some o := fun b o nb e => by
        cases q : topH (cs.map (·.2)) sc b with
        | none => exact unn.keep b o e q (by intro zz; exact absurd (show b ∈ ([] : List Addr) from zz) (by simp)) (by simp)
        | some u =>
          rcases topH_cases q with ⟨z, _⟩ | ⟨_, z⟩
          · exact absurd z nb
          · obtain ⟨ob, xs, rfl⟩ := hfz _ _ z
            have z2 := unn.frzs b ob _ q
            obtain ⟨ee1, _⟩ := hHO b _ q
            obtain ⟨ee2, _⟩ := hHO' b _ z2
            rw [e] at ee1; cases ee1
            exact ee2
      refine ⟨rfl, ⟨fun b o e => ?_, fun b o e => ?_⟩, os, bar⟩
      · by_cases hb : b ∈ cs.map (·.2)
        · obtain ⟨p, hp, rfl⟩ := List.mem_map.mp hb
          obtain ⟨mo, hm⟩ := gr p hp
          rw [tE p hp] at e; cases e
          exact .inr (.inl ⟨((tC p hp).tab (tE p hp)).isCodeTable, rfl, #[], mo, rfl, by rw [Array.empty_append]; exact hm⟩)
        · exact .inl (stay b o hb e)
      · by_cases hb : b ∈ cs.map (·.2)
        · obtain ⟨p, hp, rfl⟩ := List.mem_map.mp hb
          obtain ⟨mo, hm⟩ := gr p hp
          exact ⟨_, hm⟩
        · exact ⟨o, stay b o hb e⟩
end Hf

set_option Elab.async false
set_option linter.all false
set_option maxRecDepth 100000
set_option maxHeartbeats 4000000
namespace Hf
open PySem PySem.Spec PyProof.Rows L2
@[simp] theorem z_fin_exc (c : Nat) (x : Option D) (B : Bs) : (Ss.exc c x B).fin = .exc c x B := (rfl)
@[simp] theorem z_bind_exc {α β : Type} (c : Nat) (x : Option D) (B : Bs) (f : α → Bs → Rs β) : (Rs.exc c x B : Rs α).bind f = .exc c x B := (rfl)
@[simp] theorem z_st_exc {α : Type} (c : Nat) (x : Option D) (B : Bs) (f : α → Bs → Ss) : (Rs.exc c x B : Rs α).st f = .exc c x B := (rfl)
@[simp] theorem z_seq_exc (c : Nat) (x : Option D) (B : Bs) (k : Ms) : (Ss.exc c x B).seq k = .exc c x B := (rfl)
end Hf

set_option Elab.async false
set_option linter.all false
set_option maxRecDepth 100000
set_option maxHeartbeats 4000000
namespace Hf
open PySem PySem.Spec PyProof.Rows L2

/-! ### f-strings -/
section
variable {g : Gs} {E : XK} {w0 w : Wd} {H0 H : Hp} {X : Cx} {e : Expr} {es : List Expr} {m : Ev} {pos p1 : Pos} {lv k c : Nat} {f : Fn} {σI : Sl} {σ : L2.St} {B : Bs} {Q : VK} {b1 : Bool}
/-! ### repr(x), also of an own instance -/
end
end Hf

set_option Elab.async false
set_option linter.all false
set_option maxRecDepth 100000
set_option maxHeartbeats 4000000
namespace Hf
open PySem PySem.Spec PyProof.Rows L2
section
variable {g : Gs} {E : XK} {H0 : Hp} {X : Cx} {a b : Expr} {ma mb : Ev} {pos p p2 p3 : Pos} {b1 b2 : Bool}
variable {lv k c : Nat} {x : Str} {f : Fn}
end
end Hf

set_option Elab.async false
set_option linter.all false
set_option maxRecDepth 100000
set_option maxHeartbeats 4000000
namespace Hf
open PySem PySem.Spec PyProof.Rows L2
/-! ### data with empty dicts inside, read -/
mutual
def rdB : D → Bool
  | .none => true
  | .bool _ => true
  | .int _ => true
  | .str _ => true
  | .tup ds => rdBs ds
  | .lst ds => rdBs ds
  | .dct ks vs => ks.isEmpty && vs.isEmpty
  | .kd _ _ => true
  | _ => false
def rdBs : List D → Bool
  | [] => true
  | d :: ds => rdB d && rdBs ds
end
mutual
/-- no list inside -/
def noL : D → Bool
  | .lst _ => false
  | .tup ds => noLs ds
  | _ => true
def noLs : List D → Bool
  | [] => true
  | d :: ds => noL d && noLs ds
end
section
variable {g : Gs} {w : Wd} {H : Hp} {X : Cx} {pins : List (Addr × Obj)} {σ : L2.St} {s : Shared}
mutual
theorem Rep.reads (I : Inv X pins σ H s) (hK : X.K = g.K) (hs : Same w.P H) : ∀ (d : D) (v : V) (u : Value), rdB d = true → Rep g w d v → RelV v u → ∃ as, Reads s.heap u (toPy d) as ∧ (noL d = true → sysModules ∉ as)
  | .none, v, u, _, h, r => by simp only [Rep] at h; subst h; cases r; exact ⟨_, .none, fun _ => by simp⟩
  | .bool b, v, u, _, h, r => by simp only [Rep] at h; subst h; cases r; exact ⟨_, .bool b, fun _ => by simp⟩
  | .int b, v, u, _, h, r => by simp only [Rep] at h; subst h; obtain ⟨t, rfl⟩ := r; exact ⟨_, .int b t, fun _ => by simp⟩
  | .str b, v, u, _, h, r => by simp only [Rep] at h; subst h; obtain ⟨t, rfl⟩ := r; exact ⟨_, .str b t, fun _ => by simp⟩
  | .tup ds, v, u, c, h, r => by
    simp only [Rep] at h
    obtain ⟨a, vs, rfl, q, rr⟩ := h
    cases r
    obtain ⟨its, rv, ⟨o, ho, hc, n, hd⟩, _⟩ := I.tuple (hK ▸ sqT_mono hs q.T)
    obtain ⟨as, hr, hn⟩ := Reps.reads I hK hs ds vs its (by simpa only [rdB] using c) rr rv
    exact ⟨_, by simp only [toPy]; exact Reads.tuple ho hc hd hr, fun z => hn (by simpa only [noL] using z)⟩
  | .lst ds, v, u, c, h, r => by
    simp only [Rep] at h
    obtain ⟨a, vs, rfl, q, rr⟩ := h
    cases r
    obtain ⟨its, rv, ⟨o, n, ho, hc, _, hd⟩, _⟩ := I.list (hK ▸ (.inl (.inl (hs _ _ q)) : SqL g.K H a vs))
    obtain ⟨as, hr, hn⟩ := Reps.reads I hK hs ds vs its (by simpa only [rdB] using c) rr rv
    exact ⟨_, by simp only [toPy]; exact Reads.list ho hc hd hr, fun z => by simp only [noL] at z; cases z⟩
  | .dct ks ds, v, u, c, h, r => by
    simp only [rdB, Bool.and_eq_true, List.isEmpty_iff] at c
    obtain ⟨rfl, rfl⟩ := c
    simp only [Rep] at h
    obtain ⟨a, xs, rfl, q, e, _, _⟩ := h
    cases r
    have hx : xs = [] := by
      cases xs with
      | nil => rfl
      | cons _ _ => simp at e
    subst hx
    obtain ⟨⟨hsm, _, _, _, ys, hp, o, es, ep, ho, hx, hd, he⟩, _, _⟩ := I.hok a _ (hs _ _ q)
    cases hp
    have hes : es.toList = [] := he
    exact ⟨_, by simp only [toPy]; exact Reads.dict ho hx.1 hd (by rw [hes]; exact .nil) (by rw [hes]; exact .nil), fun _ z => by
      simp at z
      subst z
      simp at hsm⟩
  | .scr ds, v, u, c, h, r => by cases c
  | .prs ds, v, u, c, h, r => by cases c
  | .inst k ds, v, u, c, h, r => by cases c
  | .box n, v, u, c, h, r => by cases c
  | .cls n, v, u, c, h, r => by cases c
  | .ptr n, v, u, c, h, r => by cases c
  | .fnT n, v, u, c, h, r => by cases c
  | .exo a dd f x, v, u, c, h, r => by cases c
  | .kd k x, v, u, c, h, r => by
    simp only [Rep] at h
    obtain ⟨a, rfl, q⟩ := h
    cases r
    obtain ⟨_, hsm, vs, rv, o, es, ep, ho, hx, hd, hk, hp, _⟩ := dk_of I.hok (hs _ _ q)
    cases rv with
    | @cons p0 q0 ps qs h1 h2 =>
      cases h2
      obtain ⟨kk, vv⟩ := q0
      obtain ⟨h3, h4⟩ := h1
      simp only at h3 h4
      subst h3
      obtain ⟨tv, rfl⟩ := h4
      generalize hes : es.toList = el at hp
      cases hp with
      | cons g1 g2 g3 =>
        cases g3
        rename_i en
        obtain ⟨tk, ek⟩ := Value.isInt_shape (k := k) (v := en.key) g1
        refine ⟨_, by simp only [toPy]; exact Reads.dict ho hx.1 hd (as := [] ++ []) (bs := [] ++ []) (by rw [hes]; simp only [List.map_cons, List.map_nil, ek]; exact .cons (.int k tk) .nil) (by rw [hes]; simp only [List.map_cons, List.map_nil, g2]; exact .cons (.int x tv) .nil), fun _ z => ?_⟩
        simp at z
        subst z
        simp at hsm
theorem Reps.reads (I : Inv X pins σ H s) (hK : X.K = g.K) (hs : Same w.P H) : ∀ (ds : List D) (vs : List V) (us : List Value), rdBs ds = true → Reps g w ds vs → Vals vs us → ∃ as, ReadsAll s.heap us (toPys ds) as ∧ (noLs ds = true → sysModules ∉ as)
  | [], vs, us, _, h, r => by simp only [Reps] at h; subst h; cases r; exact ⟨_, .nil, fun _ => by simp⟩
  | d :: ds, vs, us, c, h, r => by
    simp only [Reps] at h
    obtain ⟨v, vt, rfl, h1, h2⟩ := h
    simp only [rdBs, Bool.and_eq_true] at c
    cases r with
    | cons r1 r2 =>
      obtain ⟨as, q1, n1⟩ := Rep.reads I hK hs d v _ c.1 h1 r1
      obtain ⟨bs, q2, n2⟩ := Reps.reads I hK hs ds vt _ c.2 h2 r2
      exact ⟨_, by simp only [toPys]; exact .cons q1 q2, fun c z => by
        simp only [noLs, Bool.and_eq_true] at c
        exact (List.mem_append.mp z).elim (n1 c.1) (n2 c.2)⟩
end
end
end Hf

set_option Elab.async false
set_option linter.all false
set_option maxRecDepth 100000
set_option maxHeartbeats 4000000
namespace Hf
open PySem PySem.Spec PyProof.Rows L2
/-! ### own == and the != that comes of it -/
section
variable {prog : Program} {w : World} {A : Around} {E : Value → Shared → Prop} {s : Shared} {K : PySem.W.Frag} {x C f : Addr} {ox : Obj} {od : Option Obj} {b tb : Value}
end
end Hf

set_option Elab.async false
set_option linter.all false
set_option maxRecDepth 100000
set_option maxHeartbeats 4000000
namespace Hf
open PySem PySem.Spec PyProof.Rows L2
/-! ### the class of data -/
def tyB (c : Nat) : D → Bool
  | .none => true
  | .bool _ => true
  | .int _ => true
  | .str _ => true
  | .tup _ => true
  | .prs _ => true
  | .lst _ => true
  | .scr _ => true
  | .dct _ _ => true
  | .kd _ _ => true
  | .inst c' _ => c' == c || !subC c' c
  | _ => false
structure EqN (g : Gs) (k c : Nat) (f : Fn) : Prop where
  d : DunF g k c "__eq__" f
  ne : PySem.W.findIn g.K (.ref (g.cl c)) "__ne__" = some (some (.builtin "object.__ne__"))
  oth : ∀ c', g.has c' = true → c' ≠ c → subC c' c = false → PySem.W.mroIn g.K (g.cl c') (.ref (g.cl c)) = some false
  nT : ∀ T ∈ ["NoneType", "int", "bool", "str", "list", "tuple", "dict"], PySem.W.mroIn g.K (g.cl c) (.type T) = some false
theorem nf_T {K : PySem.W.Frag} {C : Addr} {T : String} {l : List Value} (e : fastBuiltinMro T = some l) (h : ∀ x ∈ l, ∃ n, x = .type n) : PySem.W.notFirst K C (.type T) = true := by
  have e2 : PySem.W.subIn K (.type T) (.ref C) = some false := by
    show (fastBuiltinMro T).map (·.contains (.ref C)) = some false
    rw [e]
    have : l.contains (.ref C) = false := by
      cases q : l.contains (Value.ref C) with
      | false => rfl
      | true =>
        obtain ⟨n, z⟩ := h _ (List.contains_iff_mem.mp q)
        cases z
    simp only [Option.map_some, this]
  unfold PySem.W.notFirst
  rw [e2]
  simp
theorem nf_none {K : PySem.W.Frag} {C : Addr} : PySem.W.notFirst K C (.type "NoneType") = true := nf_T (l := [.type "NoneType", .type "object"]) (by decide +kernel) (by simp)
theorem nf_bool {K : PySem.W.Frag} {C : Addr} : PySem.W.notFirst K C (.type "bool") = true := nf_T (l := [.type "bool", .type "int", .type "object"]) (by decide +kernel) (by simp)
theorem nf_int {K : PySem.W.Frag} {C : Addr} : PySem.W.notFirst K C (.type "int") = true := nf_T (l := [.type "int", .type "object"]) (by decide +kernel) (by simp)
theorem nf_str {K : PySem.W.Frag} {C : Addr} : PySem.W.notFirst K C (.type "str") = true := nf_T (l := [.type "str", .type "object"]) (by decide +kernel) (by simp)
theorem nf_tuple {K : PySem.W.Frag} {C : Addr} : PySem.W.notFirst K C (.type "tuple") = true := nf_T (l := [.type "tuple", .type "object"]) (by decide +kernel) (by simp)
theorem nf_list {K : PySem.W.Frag} {C : Addr} : PySem.W.notFirst K C (.type "list") = true := nf_T (l := [.type "list", .type "object"]) (by decide +kernel) (by simp)
theorem nf_dict {K : PySem.W.Frag} {C : Addr} : PySem.W.notFirst K C (.type "dict") = true := nf_T (l := [.type "dict", .type "object"]) (by decide +kernel) (by simp)
section
variable {g : Gs} {w : Wd} {H : Hp} {X : Cx} {pins : List (Addr × Obj)} {σ : L2.St} {s : Shared} {k c lv : Nat} {f : Fn} {E : XK}
theorem Rep.ty (I : Inv X pins σ H s) (hK : X.K = g.K) (hs : Same w.P H) (N : EqN g k c f) : ∀ (d : D) (v : V) (u : Value), tyB c d = true → Rep g w d v → RelV v u → ∃ tb, PySem.W.Looks (model X.prog X.w) s.heap (typeOf u) tb ∧ PySem.W.notFirst X.K (g.cl c) tb = true
  | .none, v, u, _, h, r => by simp only [Rep] at h; subst h; cases r; exact ⟨.type "NoneType", .of_pure rfl, nf_none⟩
  | .bool b, v, u, _, h, r => by simp only [Rep] at h; subst h; cases r; exact ⟨.type "bool", .of_pure rfl, nf_bool⟩
  | .int b, v, u, _, h, r => by simp only [Rep] at h; subst h; obtain ⟨t, rfl⟩ := r; exact ⟨.type "int", .of_pure rfl, nf_int⟩
  | .str b, v, u, _, h, r => by simp only [Rep] at h; subst h; obtain ⟨t, rfl⟩ := r; exact ⟨.type "str", .of_pure rfl, nf_str⟩
  | .tup ds, v, u, _, h, r => by
    simp only [Rep] at h
    obtain ⟨a, vs, rfl, q, rr⟩ := h
    cases r
    obtain ⟨its, rv, ⟨o, ho, hc, n, hd⟩, _⟩ := I.tuple (hK ▸ sqT_mono hs q.T)
    exact ⟨.type "tuple", hc ▸ (PySem.W.Looks.ld ho).andThen .now, nf_tuple⟩
  | .prs ds, v, u, _, h, r => by
    simp only [Rep] at h
    obtain ⟨a, vs, rfl, q, rr⟩ := h
    cases r
    obtain ⟨its, rv, ⟨o, ho, hc, n, hd⟩, _⟩ := I.tuple (hK ▸ sqT_mono hs q)
    exact ⟨.type "tuple", hc ▸ (PySem.W.Looks.ld ho).andThen .now, nf_tuple⟩
  | .lst ds, v, u, _, h, r => by
    simp only [Rep] at h
    obtain ⟨a, vs, rfl, q, rr⟩ := h
    cases r
    obtain ⟨its, rv, ⟨o, n, ho, hc, _, hd⟩, _⟩ := I.list (hK ▸ (.inl (.inl (hs _ _ q)) : SqL g.K H a vs))
    exact ⟨.type "list", hc ▸ (PySem.W.Looks.ld ho).andThen .now, nf_list⟩
  | .scr ds, v, u, _, h, r => by
    simp only [Rep] at h
    obtain ⟨a, vs, rfl, q, rr⟩ := h
    cases r
    obtain ⟨its, rv, ⟨o, n, ho, hc, _, hd⟩, _⟩ := I.list (hK ▸ hs.seq q)
    exact ⟨.type "list", hc ▸ (PySem.W.Looks.ld ho).andThen .now, nf_list⟩
  | .dct ks ds, v, u, _, h, r => by
    simp only [Rep] at h
    obtain ⟨a, xs, rfl, q, e, _, _⟩ := h
    cases r
    obtain ⟨⟨_, _, _, _, ys, hp, o, es, ep, ho, hx, hd, he⟩, _, _⟩ := I.hok a _ (hs _ _ q)
    exact ⟨.type "dict", hx.1 ▸ (PySem.W.Looks.ld ho).andThen .now, nf_dict⟩
  | .inst c' ds, v, u, ht, h, r => by
    simp only [Rep] at h
    obtain ⟨a, dx, vs, rfl, q, _, hh, _⟩ := h
    cases r
    obtain ⟨od, J⟩ := inst_at I (hs _ _ q)
    refine ⟨.ref (g.cl c'), J.type, ?_⟩
    simp only [tyB, Bool.or_eq_true, beq_iff_eq, Bool.not_eq_true'] at ht
    unfold PySem.W.notFirst
    by_cases hc : c' = c
    · subst hc; simp
    · rcases ht with ht | ht
      · exact absurd ht hc
      · rw [hK]
        show (_ || PySem.W.mroIn g.K (g.cl c') (.ref (g.cl c)) == some false) = true
        rw [N.oth c' hh hc ht]
        simp
  | .box n, v, u, h, _, _ => by cases h
  | .cls n, v, u, h, _, _ => by cases h
  | .ptr n, v, u, h, _, _ => by cases h
  | .fnT n, v, u, h, _, _ => by cases h
  | .exo a dd f x, v, u, h, _, _ => by cases h
  | .kd k x, v, u, _, h, r => by
    simp only [Rep] at h
    obtain ⟨a, rfl, q⟩ := h
    cases r
    obtain ⟨_, hsm, vs, rv, o, es, ep, ho, hx, hd, _⟩ := dk_of I.hok (hs _ _ q)
    exact ⟨.type "dict", hx.1 ▸ (PySem.W.Looks.ld ho).andThen .now, nf_dict⟩
variable {H0 : Hp} {ma mb : Ev} {a b : Expr} {pos : Pos}
end
end Hf

set_option Elab.async false
set_option linter.all false
set_option maxRecDepth 100000
set_option maxHeartbeats 4000000
namespace Hf
open PySem PySem.Spec PyProof.Rows L2
section
variable {g : Gs} {E : XK} {H0 : Hp} {X : Cx} {p1 p2 pos : Pos} {j1 j2 : Nat} {k x : Int}
end
end Hf

set_option Elab.async false
set_option linter.all false
set_option maxRecDepth 100000
set_option maxHeartbeats 4000000
namespace Hf
open PySem PySem.Spec PyProof.Rows L2
open Builtin Sem
/-! ### data beside an instance: the built-in == and != decline -/
end Hf

set_option Elab.async false
set_option linter.all false
set_option maxRecDepth 100000
set_option maxHeartbeats 4000000
namespace Hf
open PySem PySem.Spec PyProof.Rows L2 Builtin Sem
/-! ### data == an instance with its own == -/
section
variable {prog : Program} {w : World} {A : Around} {E : Value → Shared → Prop} {s : Shared} {K : PySem.W.Frag} {x C f : Addr} {ox : Obj} {od : Option Obj} {u : Value} {T : String}
end
section
variable {P : Program} {W : World} {K : PySem.W.Frag} {C q : Addr} {s : Shared} {d2 : Option Addr} {sl2 : Array (Option Value)}
end
end Hf

set_option Elab.async false
set_option linter.all false
set_option maxRecDepth 100000
set_option maxHeartbeats 4000000
namespace Hf
open PySem PySem.Spec PyProof.Rows L2
section
variable {g : Gs} {w : Wd} {H : Hp} {X : Cx} {pins : List (Addr × Obj)} {σ : L2.St} {s : Shared} {k c lv : Nat} {f : Fn} {E : XK}
/-- an operation on kept values -/
def OpSemN (g : Gs) (E : XK) (H0 : Hp) (r : R2) (f : D → D → Bs → Rs D) : Prop := ∀ (w : Wd) (σI : Sl) (B : Bs) (σ : L2.St) (H : Hp) (Q : VK) (x y : V) (dx dy : D),
  S0 g H0 w σI B σ H → Rep g w dx x → Rep g w dy y → PostE g E w H σI σ false Q (f dx dy B) → r x y H Q
variable {H0 : Hp} {neg : Bool → Bool} {dflt : D → D → Bs → Rs D} {r2 : R2}
theorem osn_of {fn : D → D → Bs → Rs D} (h : OpSem g E H0 r2 fn) : OpSemN g E H0 r2 fn := fun w σI B σ H Q x y dx dy s rx ry p => h w σI B σ H Q x y dx dy s (.inl rx) (.inl ry) p
variable {ma mb : Ev} {a b : Expr} {pos : Pos} {k2 c2 : Nat} {f2 : Fn}
theorem osn_go {fn : D → D → Bs → Rs D} (h : OpSemN g E H0 r2 fn) (ha : Snd g E H0 X false a ma) (hb : Snd g E H0 X false b mb) : ∀ σ H Q, tI g E H0 false (mBin fn ma mb) σ H Q → tOp r2 (tI g E H0 false ma) (tI g E H0 false mb) σ H Q := by
  rintro σ H Q ⟨w, σI, B, s, p⟩
  refine tI_bind s p fun d B1 w1 v H1 x1 s1 r1 p1 => ?_
  refine tI_bind s1 p1 fun d2 B2 w2 v2 H2 x2 s2 r2 p2 => ?_
  exact h w2 σI B2 σ H2 Q v v2 d d2 s2 (Rep.mono x2.le _ _ r1) r2 p2
end
end Hf

set_option Elab.async false
set_option linter.all false
set_option maxRecDepth 100000
set_option maxHeartbeats 4000000
namespace Hf
open PySem PySem.Spec PyProof.Rows L2 PySem.SeqAt
open AutoSeq1 (wpAny_loadPart')
open MeetsSeq MeetsSeq2 MeetsSeq3 SeqRoads2
/-! ### == of two tuples whose items are compared by running code -/
section
variable {pg : Program} {wd : World} {ar : Around} {Z : Result → Shared → Prop}
end
section
variable {pg : Program} {wd : World} {ar : Around} {E : Value → Shared → Prop} {t : Shared}
end
section
variable {g : Gs} {w : Wd} {H : Hp} {X : Cx} {pins : List (Addr × Obj)} {σ : L2.St} {s : Shared} {k c lv : Nat} {f : Fn} {E : XK}
end
end Hf

set_option Elab.async false
set_option linter.all false
set_option maxRecDepth 100000
set_option maxHeartbeats 4000000
namespace Hf
open PySem PySem.Spec PyProof.Rows L2
section
variable {g : Gs} {w : Wd} {H H0 : Hp} {X : Cx} {σ : L2.St} {k c lv : Nat} {f : Fn} {E : XK}
variable {ma mb : Ev} {a b : Expr} {pos : Pos}
end
end Hf

set_option Elab.async false
set_option linter.all false
set_option maxRecDepth 100000
set_option maxHeartbeats 4000000
namespace Hf
open PySem PySem.Spec PyProof.Rows L2
/-! ### one expression, several classes of what it asks -/
section
variable {g : Gs} {E : XK} {w0 w : Wd} {H0 H : Hp} {X : Cx} {o e : Expr} {m M me mo : Ev} {r : List (Nat × Ev)} {c : Nat} {bo b1 b2 : Bool} {pos apos cpos : Pos}
/-! ### methods of a list in a box, whatever expression the box is -/
end
end Hf

set_option Elab.async false
set_option linter.all false
set_option maxRecDepth 100000
set_option maxHeartbeats 4000000
namespace Hf
open PySem PySem.Spec PyProof.Rows L2
/-! ### a constant of a class, read at an instance -/
section
variable {g : Gs} {E : XK} {w : Wd} {H0 H : Hp} {X : Cx} {e : Expr} {m : Ev} {c lv : Nat} {bo : Bool} {pos : Pos} {n : Str} {d : D}
end
end Hf

set_option Elab.async false
set_option linter.all false
set_option maxRecDepth 100000
set_option maxHeartbeats 4000000
namespace Hf
open PySem PySem.Spec PyProof.Rows L2
/-! ### s.strip(signs) -/
section
variable {g : Gs} {E : XK} {w : Wd} {H0 H : Hp} {X : Cx} {o e : Expr} {mo me : Ev} {b1 b2 : Bool} {apos pos : Pos}
end
end Hf

set_option Elab.async false
set_option linter.all false
set_option maxRecDepth 100000
set_option maxHeartbeats 4000000
namespace Hf
open PySem PySem.Spec PyProof.Rows L2 PySem.Froz
/-! ### len(set(xs)), xs a list of texts -/
section
variable {P : Program} {w : World} {A : Around} {E : Value → Shared → Prop} {s : Shared}
end
/-- the texts of the first i of ks, each once -/
structure Gx (ks : List Str) (i : Nat) (l : List Str) : Prop where
  mem : ∀ k, k ∈ l ↔ k ∈ ks.take i
  nd : l.Nodup
  len : l.length ≤ i
theorem Gx.zero (ks : List Str) : Gx ks 0 [] := ⟨fun k => by simp, List.nodup_nil, Nat.le_refl _⟩
theorem Gx.next {ks l l' : List Str} {i : Nat} {k : Str} (g : Gx ks i l) (h : ks[i]? = some k) (c : (k ∈ l ∧ l' = l) ∨ (k ∉ l ∧ l' = k :: l)) : Gx ks (i + 1) l' := by
  have ht : ks.take (i + 1) = ks.take i ++ [k] := by rw [List.take_succ, h]; rfl
  rcases c with ⟨c, rfl⟩ | ⟨c, rfl⟩
  · refine ⟨fun x => ?_, g.nd, Nat.le_succ_of_le g.len⟩
    rw [ht, List.mem_append, ← g.mem, List.mem_singleton]
    exact ⟨.inl, fun z => z.elim id fun e => e ▸ c⟩
  · refine ⟨fun x => ?_, List.nodup_cons.mpr ⟨c, g.nd⟩, by rw [List.length_cons]; exact Nat.succ_le_succ g.len⟩
    rw [ht, List.mem_append, ← g.mem, List.mem_singleton, List.mem_cons]
    exact or_comm
section
variable {P : Program} {w : World} {A : Around} {E : Value → Shared → Prop} {s : Shared}
end
section
variable {g : Gs} {E : XK} {H0 : Hp} {X : Cx} {e : Expr} {m : Ev} {b1 : Bool} {p p2 q pos : Pos}
end
end Hf

set_option Elab.async false
set_option linter.all false
set_option maxRecDepth 100000
set_option maxHeartbeats 4000000
namespace Hf
open PySem PySem.Spec PyProof.Rows L2
/-! ### a lambda with parameters that captures nothing: a value -/
theorem obE_ok {P : Program} {w : World} {H : Hp} {h : Heap} {a : Addr} {o : Obj} (e : h.get? a = some o) : ObjOk P w H h a (ObE a o) := ⟨e, ⟨o, e⟩, fun _ _ p k => k _ p⟩
theorem obE_at {P : Program} {w : World} {H : Hp} {h : Heap} {a : Addr} {o : Obj} (hok : HOk P w H h) (e : H a = some (ObE a o)) : h.get? a = some o := (hok a _ e).1
theorem clo_nil {cells : List (Str × Addr)} : ∀ (ns : List (Str × NameKind)) (acc : List (Str × Addr)), (∀ y ∈ ns, y.2 ≠ .free) → cloFrom cells ns acc = acc
  | [], acc, _ => rfl
  | (n, k) :: ns, acc, h => by
    have h1 := h (n, k) List.mem_cons_self
    have h2 := clo_nil (cells := cells) ns acc fun y hy => h y (List.mem_cons_of_mem _ hy)
    cases k <;> first | exact absurd rfl h1 | (unfold cloFrom; exact h2)
section
variable {X : Cx} {pins : List (Addr × Obj)} {σ : L2.St} {H : Hp} {s : Shared}
theorem lam_mkF {T : List (Addr × Str)} {k0 P : Addr} {prm : Arguments} {bd : Expr} {sc : Scope} {lp : Pos} {Er Q : Value → Shared → Prop} (I : Inv X pins σ H s) (tb : LamX.TabB X.base X.mg k0 P) (hk : X.env.code = .ref k0)
    (mem : (P, X.env.qual ++ "<lambda>") ∈ T) (uni : ∀ p ∈ T, p.1 = P → p.2 = X.env.qual ++ "<lambda>") (tT : LamX.Tabs T H) (hdf : defaultsOf prm X.env = ([], [])) (fre : ∀ y ∈ sc.names, y.2 = .free → ∃ c, X.env.cells.lookup y.1 = some c)
    (go : ∀ (f c' : Addr) (pm ct : Value) (H1 : Hp) (s' : Shared), Inv X pins σ H1 s' → LamX.ExtN H H1 → (∀ b, H b ≠ Option.none → H1 b ≠ Option.none) → LamX.Tabs T H1 → H f = Option.none → f ≠ c' →
      H1 f = some (ObE f (PySem.W.kla_obj "<lambda>" (X.env.qual ++ "<lambda>") prm bd sc (cloFrom X.env.cells sc.names []) pm c' ct)) → H1 c' = some (LamX.CodeO c' (X.env.qual ++ "<lambda>")) → Q (.ref f) s') :
    wpAny (model X.prog X.w) X.A (eval (.Lambda prm bd sc lp) X.env) Q Er s := by
  obtain ⟨ps, atP, ht, ha⟩ := tT _ mem
  refine PySem.W.kla_eval hdf ?_
  have bP : s.heap.BuiltinsAt X.mg P := tb.bm.keeps I.bk
  have gP : s.heap.get? P = some { cls := .none, data := .fields ps } := I.hok P _ atP
  cases am : codeAmong lp ps.toList with
  | none =>
    refine PySem.W.kla_makeFunction (mg := X.mg) (c := k0) (P := P) (ps := ps) (closure_ok fre) I.ok.glob (I.mod.glob.keeps I.bk) hk (tb.code.keeps I.bk) gP ht am tb.gP bP fun c' ct h' tk hx hge hlt hrec htb => ?_
    obtain ⟨c2, oc, vs, t, e2, hoc, hd, hv⟩ := hrec
    cases e2
    have big : s.heap.objs.size ≤ h'.objs.size := Nat.le_trans hge (Nat.le_of_lt hlt)
    have newC : H c' = Option.none := I.hok.fresh hge
    have newF : H h'.objs.size = Option.none := I.hok.fresh big
    have J0 := LamX.inv_table (t' := tk) (more := #[rawInt lp.line, rawInt lp.col, .ref c']) (h' := h') I atP (fun b o z e => hx b o z e) htb hge ⟨oc, vs, t, hoc, hd, hv⟩
    have fc : h'.objs.size ≠ c' := Nat.ne_of_gt hlt
    have fP : h'.objs.size ≠ P := Nat.ne_of_gt (Nat.lt_of_lt_of_le (Heap.lt_size gP) big)
    have J := J0.laid (t' := tk) (a := h'.objs.size) (o := ObE h'.objs.size (PySem.W.kla_obj "<lambda>" (X.env.qual ++ "<lambda>") prm bd sc (cloFrom X.env.cells sc.names []) ((X.mg "__name__").getD .none) c' ct)) (h' := h'.push (PySem.W.kla_obj "<lambda>" (X.env.qual ++ "<lambda>") prm bd sc (cloFrom X.env.cells sc.names []) ((X.mg "__name__").getD .none) c' ct))
      (fun b o e => Heap.get?_push_of_some _ e) (Nat.le_refl _) (obE_ok (Heap.get?_push_size _ rfl))
    generalize hob : ObE h'.objs.size (PySem.W.kla_obj "<lambda>" (X.env.qual ++ "<lambda>") prm bd sc (cloFrom X.env.cells sc.names []) ((X.mg "__name__").getD .none) c' ct) = ob at J
    have kept : LamX.ExtN H (upd (upd (upd H P (.tbl (ps ++ #[rawInt lp.line, rawInt lp.col, .ref c']))) c' (LamX.CodeO c' (X.env.qual ++ "<lambda>"))) h'.objs.size ob) := fun b o e n => by
      rw [upd_ne (ne_of_none e newF), upd_ne (ne_of_none e newC), upd_ne fun z => n ps (Option.some.inj (e.symm.trans (by rw [z]; exact atP)))]
      exact e
    have lst : (ps ++ #[rawInt lp.line, rawInt lp.col, .ref c']).toList = ps.toList ++ [rawInt lp.line, rawInt lp.col, .ref c'] := by simp
    refine go h'.objs.size c' ((X.mg "__name__").getD .none) ct _ _ J kept (fun b hb => ?_) (tabs_upd (fun p hp => ?_) fun u e => ?_) newF fc (by rw [upd_same, ← hob]) (by rw [upd_ne fc.symm, upd_same])
    · by_cases y : b = h'.objs.size
      · rw [y, upd_same]; simp
      rw [upd_ne y]
      by_cases z : b = c'
      · rw [z, upd_same]; simp
      · rw [upd_ne z]
        by_cases z2 : b = P
        · rw [z2, upd_same]; simp
        · rw [upd_ne z2]; exact hb
    · have kept0 : LamX.ExtN H (upd (upd H P (.tbl (ps ++ #[rawInt lp.line, rawInt lp.col, .ref c']))) c' (LamX.CodeO c' (X.env.qual ++ "<lambda>"))) := fun b o e n => by
        rw [upd_ne (ne_of_none e newC), upd_ne fun z => n ps (Option.some.inj (e.symm.trans (by rw [z]; exact atP)))]
        exact e
      by_cases z : p.1 = P
      · rw [uni p hp z, z]
        refine ⟨_, by rw [upd_ne (ne_of_none atP newC), upd_same], by rw [lst]; exact PySem.TriplesOk_snoc _ _ _ _ ht, fun p' cv hcv => ?_⟩
        rw [lst] at hcv
        rcases LamX.among_app _ ht hcv with z | z
        · obtain ⟨c0, e1, e2⟩ := ha p' cv z
          exact ⟨c0, e1, kept0 _ _ e2 LamX.codeO_ne⟩
        · exact ⟨c', z, upd_same⟩
      · obtain ⟨ps', a1, a2, a3⟩ := tT p hp
        refine ⟨ps', by rw [upd_ne (ne_of_none a1 newC), upd_ne z]; exact a1, a2, fun p' cv hcv => ?_⟩
        obtain ⟨c0, e1, e2⟩ := a3 p' cv hcv
        exact ⟨c0, e1, kept0 _ _ e2 LamX.codeO_ne⟩
    · rw [upd_ne fc, upd_ne fP, newF] at e
      cases e
  | some cv =>
    obtain ⟨c', e, hco⟩ := ha lp cv am
    subst e
    refine PySem.W.kla_makeFunctionHit (mg := X.mg) (c := k0) (P := P) (ps := ps) (closure_ok fre) I.ok.glob (I.mod.glob.keeps I.bk) hk (tb.code.keeps I.bk) gP ht am bP fun ct h' tk hx big => ?_
    have newF : H h'.objs.size = Option.none := I.hok.fresh big
    have J := I.laid (t' := tk) (a := h'.objs.size) (o := ObE h'.objs.size (PySem.W.kla_obj "<lambda>" (X.env.qual ++ "<lambda>") prm bd sc (cloFrom X.env.cells sc.names []) ((X.mg "__name__").getD .none) c' ct)) (h' := h'.push (PySem.W.kla_obj "<lambda>" (X.env.qual ++ "<lambda>") prm bd sc (cloFrom X.env.cells sc.names []) ((X.mg "__name__").getD .none) c' ct))
      (fun b o e => Heap.get?_push_of_some _ (hx b o e)) big (obE_ok (Heap.get?_push_size _ rfl))
    have fc : h'.objs.size ≠ c' := (ne_of_none hco newF).symm
    refine go h'.objs.size c' ((X.mg "__name__").getD .none) ct _ _ J (fun b o e _ => by rw [upd_ne (ne_of_none e newF)]; exact e) (fun b hb => ?_) (tabs_upd tT fun u e => by rw [newF] at e; cases e) newF fc upd_same (by rw [upd_ne fc.symm]; exact hco)
    by_cases y : b = h'.objs.size
    · rw [y, upd_same]; simp
    · rw [upd_ne y]; exact hb
end
/-- the lambda's names: parameters and globals -/
structure LamP (sc : Scope) (ps : List Str) : Prop where
  fs : FnScope ps ps sc
  nc : ∀ y ∈ sc.names, y.2 ≠ .cell
section
variable {g : Gs} {E : XK} {w0 w : Wd} {H0 H : Hp} {X : Cx} {e : Expr} {es : List Expr} {ms : Evs} {pos p p1 p2 lp : Pos} {x : Str} {lv k i : Nat} {k0 P : Addr} {prm : Arguments} {bd : Expr} {sc : Scope} {ps : List Str}
theorem s_lam (c : Ok g X) (lk : LamK g X k0 P) (hl : g.lam k = ⟨X.env.qual ++ "<lambda>", prm, bd, sc⟩) (hv : (g.lmd k).live = false) (L : LamP sc ps) (hdf : defaultsOf prm X.env = ([], []) := by rfl) : Snd g E H0 X false (.Lambda prm bd sc lp) (mC (.fnT k)) := by
  obtain ⟨prog, w', K, mg, base, A, N, s_0, H_0, env, outer, stack, ex, fn, calm, pn, xe⟩ := X
  obtain ⟨h1, h2, h3, h4, h5, h6, h7, hfx⟩ := c
  simp only at h1 h2 h5 h6 h7
  subst h1 h2 h5 h6 h7
  refine ⟨fun pins s σ H Q I h => ?_⟩
  obtain ⟨w, σI, B, s0, post⟩ := h
  refine lam_mkF I lk.tb lk.code lk.mem lk.uni s0.rb.tb hdf (fun y hy e => absurd e (L.fs.nofree y hy)) fun f c' pm ct H1 s' I1 eN tr T1 nf fc hf hc => ?_
  rw [clo_nil _ _ L.fs.nofree] at hf
  simp only at hf hc hl
  let w1 : Wd := { w with P := upd (upd w.P f (ObE f (PySem.W.kla_obj "<lambda>" (env.qual ++ "<lambda>") prm bd sc [] pm c' ct))) c' (LamX.CodeO c' (env.qual ++ "<lambda>")) }
  have nP : w.P f = Option.none := s0.rb.fresh_P nf
  have old : ∀ b u, w.P b = some u → H1 b = some u := fun b u e => eN b u (s0.rb.sub b u e) fun ps z => s0.rb.nt b ps (z ▸ e)
  have l : Le w w1 := ⟨fun b u e => by
    show upd (upd w.P f _) c' _ b = some u
    by_cases hb : b = c'
    · subst hb
      have z := old b u e
      rw [hc] at z
      rw [upd_same]; exact z
    · rw [upd_ne hb, upd_ne (ne_of_none e nP)]; exact e, fun _ _ h => h⟩
  have sb : Same w1.P H1 := fun b u e => by
    have e : upd (upd w.P f _) c' _ b = some u := e
    by_cases hb : b = c'
    · subst hb; rw [upd_same] at e; rw [← e]; exact hc
    · rw [upd_ne hb] at e
      by_cases hb2 : b = f
      · subst hb2; rw [upd_same] at e; rw [← e]; exact hf
      · rw [upd_ne hb2] at e; exact old b u e
  have ioN : ∀ {n : Nat} {a : Addr}, w.io n = some a → a ≠ c' ∧ a ≠ f := fun {n a} e => by
    obtain ⟨b, hb⟩ : ∃ b, B[n]? = some b := ⟨_, List.getElem?_eq_getElem (s0.rb.dom n a e)⟩
    obtain ⟨a', o, q1, q2, q3⟩ := s0.rb.get n b hb
    rw [e] at q1; cases q1
    refine ⟨fun z => ?_, fun z => ?_⟩
    · have y := eN a o q2 q3.nt.t
      rw [z, hc] at y; cases y
      exact q3.nt.c _ _ rfl
    · rw [z, nf] at q2; cases q2
  have rb1 : RB g w1 B H1 := ⟨sb, fun n b e => by
    obtain ⟨a, o, q1, q2, q3⟩ := s0.rb.get n b e
    exact ⟨a, o, q1, eN a o q2 q3.nt.t, q3.mono l⟩, s0.rb.inj, fun n a e => by
      show upd (upd w.P f _) c' _ a = Option.none
      rw [upd_ne (ioN e).1, upd_ne (ioN e).2]
      exact s0.rb.np n a e, s0.rb.dom, T1, fun b ps e => by
      have e : upd (upd w.P f _) c' _ b = some (.tbl ps) := e
      by_cases hb : b = c'
      · subst hb; rw [upd_same] at e; exact LamX.codeO_ne ps (Option.some.inj e)
      · rw [upd_ne hb] at e
        by_cases hb2 : b = f
        · subst hb2; rw [upd_same] at e; unfold ObE at e; cases e
        · rw [upd_ne hb2] at e; exact s0.rb.nt b ps e⟩
  have x1 : Ext w H w1 H1 := ⟨l, fun b o e _ ht => eN b o e ht, fun b o e => by
    have e : upd (upd w.P f _) c' _ b = some o := e
    by_cases hb : b = c'
    · subst hb; rw [upd_same] at e; cases e; exact .inr (.inr (.inl ⟨_, rfl⟩))
    · rw [upd_ne hb] at e
      by_cases hb2 : b = f
      · subst hb2; exact .inr (.inl nf)
      · rw [upd_ne hb2] at e; exact .inl e, fun _ _ h => .inl h, tr, rfl⟩
  refine ⟨.ref f, H1, I1, rfl, ?_⟩
  have post : PostE g E w H σI σ false Q (.ok (.fnT k) B) := post
  refine post w1 _ H1 x1 rb1 ?_
  simp only [RepB, Rep, hl]
  exact .inr ⟨f, c', pm, ct, hv, rfl, by show upd (upd w.P f _) c' _ f = _; rw [upd_ne fc, upd_same], by show upd (upd w.P f _) c' _ c' = _; rw [upd_same]⟩
/-- what a lambda of the text promises -/
def LamF (g : Gs) (lv k : Nat) (f : Fn) : Prop := ∃ (ps : List Str) (m : Ev), (g.lmd k).live = false ∧ LamP (g.lam k).sc ps ∧ (∀ (pm cv ct : Value) (us : List Value), us.length = ps.length → bindArgs (PySem.W.kla_fn "<lambda>" (g.lam k).q (g.lam k).prm (g.lam k).bd (g.lam k).sc [] pm cv ct) ⟨us, []⟩ = pure (ps.zip us)) ∧
  f = (fun ds B => if ds.length = ps.length then m (ds.map fun d => some (false, d)) B else .bad) ∧
  ∀ (E : XK) (H0 : Hp) (X : Cx), OkC g E lv X → X.N = ps → X.env.scope = (g.lam k).sc → Snd g E H0 X false (g.lam k).bd m
/-- the names of a lambda that captures y -/
structure LamPC (sc : Scope) (y : Str) (ps : List Str) : Prop where
  kind : sc.kind = .function
  co : sc.isCoroutine = false
  gen : sc.isGenerator = false
  nc : ∀ z ∈ sc.names, z.2 ≠ .cell
  par : ∀ x ∈ ps, sc.names.lookup x = some .local
  fr : ∀ z ∈ sc.names, z.2 = .free → z.1 = y
  yf : sc.names.lookup y = some .free
  nd : ps.Nodup
/-- what stands of it in the base -/
structure LiveOk (g : Gs) (k : Nat) : Prop where
  fo : g.base.get? (g.lmd k).fa = some (PySem.W.kla_obj "<lambda>" (g.lam k).q (g.lam k).prm (g.lam k).bd (g.lam k).sc [((g.lmd k).y, (g.lmd k).cell)] (g.lmd k).pm (g.lmd k).ca (g.lmd k).ct)
  co : ∃ oc u, g.base.get? (g.lmd k).cell = some oc ∧ oc.data = .cell (some u) ∧ RelV (g.lmd k).v u
  rp : ∀ w, Rep g w (g.lmd k).d (g.lmd k).v
def LamFC (g : Gs) (lv k : Nat) (f : Fn) : Prop := ∃ (ps : List Str) (m : Ev), (g.lmd k).live = true ∧ LamPC (g.lam k).sc (g.lmd k).y ps ∧ LiveOk g k ∧ (∀ (cl : List (Str × Addr)) (pm cv ct : Value) (us : List Value), us.length = ps.length → bindArgs (PySem.W.kla_fn "<lambda>" (g.lam k).q (g.lam k).prm (g.lam k).bd (g.lam k).sc cl pm cv ct) ⟨us, []⟩ = pure (ps.zip us)) ∧
  f = (fun ds B => if ds.length = ps.length then m (some (false, (g.lmd k).d) :: ds.map fun d => some (false, d)) B else .bad) ∧
  ∀ (E : XK) (H0 : Hp) (X : Cx), OkC g E lv X → X.N = (g.lmd k).y :: ps → X.env.scope = (g.lam k).sc → Snd g E H0 X false (g.lam k).bd m
def LamsF (g : Gs) (lv : Nat) (F : Nat → Fn) : Prop := ∀ k, ((g.lmd k).live = false ∧ F k = (fun _ _ => .bad)) ∨ LamF g lv k (F k) ∨ LamFC g lv k (F k)
/-- the context of a lambda that captured y -/
abbrev lamCE (q : Str) (sc : Scope) (L f ca : Addr) (y : Str) (cell : Addr) : Env := PySem.W.envX q sc L f (.ref ca) [(y, cell)]
def lamCC (P : Program) (w : World) (K : PySem.W.Frag) (mg : Str → Option Value) (base : Heap) (N : List Str) (q : Str) (sc : Scope) (f ca : Addr) (y : Str) (cell : Addr) (A : Around) (outer : List Env) (s : Shared) (H : Hp) (E : XK) : Cx where
  prog := P
  w := w
  K := K
  mg := mg
  base := base
  A := A.deeper (lamCE q sc s.heap.objs.size f ca y cell)
  N := N
  s_0 := s
  H_0 := H
  env := lamCE q sc s.heap.objs.size f ca y cell
  outer := outer
  stack := lamCE q sc s.heap.objs.size f ca y cell :: outer
  ex := []
  fn := fun _ => false
  calm := true
  pn := []
  xe := fun e s' => wpAny (model P w) (A.deeper (lamCE q sc s.heap.objs.size f ca y cell)) (leaving (lamCE q sc s.heap.objs.size f ca y cell) e) (fun _ s2 => L2N.CX P w outer H s E e s2) (fun e' s2 => L2N.CX P w outer H s E e' s2) s'
theorem lk_one {y x : Str} {c b : Addr} (h : [(y, c)].lookup x = some b) : x = y ∧ b = c := by
  simp only [List.lookup] at h
  split at h
  · rename_i e
    exact ⟨by simpa using e, (Option.some.inj h).symm⟩
  · cases h
theorem lk_mem {α β : Type} [BEq α] [LawfulBEq α] {a : α} {b : β} : ∀ {l : List (α × β)}, (l.map (·.1)).Nodup → (a, b) ∈ l → l.lookup a = some b
  | [], _, h => by cases h
  | (x, z) :: l, n, h => by
    simp only [List.map_cons] at n
    obtain ⟨n1, n2⟩ := List.nodup_cons.mp n
    rcases List.mem_cons.mp h with h | h
    · cases h; simp [List.lookup]
    · have hne : a ≠ x := fun e => n1 (e ▸ List.mem_map_of_mem h)
      simp only [List.lookup]
      rw [show (a == x) = false from beq_eq_false_iff_ne.mpr hne]
      exact lk_mem n2 h
theorem lamc_start {P : Program} {w : World} {K : PySem.W.Frag} {mg : Str → Option Value} {base : Heap} {ps : List Str} {q y : Str} {sc : Scope} {f ca cell : Addr} {A : Around} {outer : List Env} {s : Shared} {H : Hp} {E : XK} {us : List Value} {vs : List V} {v : V} {u : Value} {oc : Obj} {h₁ : Heap} {tk : Nat}
    (L : LamPC sc y ps) (hd : A.handled = none) (e0 : Env0 P w K mg base A outer s H) (hc : base.get? cell = some oc) (hcd : oc.data = .cell (some u)) (ru : RelV v u) (r : Vals vs us) (hl : vs.length = ps.length)
    (hns : h₁.Ns s.heap.objs.size fun z => (ps.zip us).reverse.lookup z) (kp : ∀ b o, s.heap.get? b = some o → h₁.get? b = some o) :
    Inv (lamCC P w K mg base (y :: ps) q sc f ca y cell A outer s H E) [] (some v :: vs.map some) H { s with heap := h₁, toks := tk } := by
  have noA : ∀ b : Addr, b ∉ (lamCC P w K mg base (y :: ps) q sc f ca y cell A outer s H E).ex := fun b z => absurd (show b ∈ ([] : List Addr) from z) (by simp)
  have hc2 := e0.bs _ _ hc
  refine ⟨⟨e0.mod, L.kind, rfl, rfl, Nat.le_refl _, fun x z c h1 h2 => (lk_one h1).1.trans (lk_one h2).1.symm, fun x hx => ?_, fun x c z _ => absurd z (by show ¬ (false = true); decide), fun _ => hd, Around.frames_deeper e0.frames, .inr ⟨rfl, rfl⟩, fun b z => absurd z (noA b), e0.bs, e0.bsz, fun b _ _ => noA b, fun b z => absurd z (noA b), e0.funs, e0.frf⟩,
    rfl, e0.bare, Un.kept kp, ⟨_, hns, fun i z v' h1 h2 h3 => ?_⟩, fun x c h => ?_, e0.hok.fresh (Nat.le_refl _), fun x c h => ?_, fun p hp => absurd (show p ∈ ([] : List (Addr × Obj)) from hp) (by simp), e0.hok.kept kp, ?_⟩
  · have hx : sc.names.lookup x = some .cell ∨ sc.names.lookup x = some .free := hx
    rcases hx with hx | hx
    · exact absurd rfl (L.nc _ (PySem.mem_of_lookup hx))
    · have e := L.fr _ (PySem.mem_of_lookup hx) rfl
      simp only at e
      subst e
      exact ⟨cell, by show [(x, cell)].lookup x = _; simp [List.lookup]⟩
  · match i, h1, h2 with
    | 0, h1, h2 =>
      cases h1; cases h2
      exact ⟨u, ru, .inr ⟨.inr L.yf, cell, by show [(y, cell)].lookup y = _; simp [List.lookup], oc, kp _ _ hc2.1, hcd⟩⟩
    | j + 1, h1, h2 =>
      have h1 : ps[j]? = some z := h1
      have h2 : (vs.map some)[j]? = some (some v') := h2
      have hv : vs[j]? = some v' := by
        rw [List.getElem?_map] at h2
        cases e : vs[j]? with
        | none => rw [e] at h2; cases h2
        | some a => rw [e] at h2; cases h2; rfl
      obtain ⟨u', hu, rv⟩ := r.get hv
      refine ⟨u', rv, .inl ⟨L.par z (List.mem_of_getElem? h1), ?_⟩⟩
      refine lk_mem ?_ (List.mem_reverse.mpr (List.mem_of_getElem? (i := j) (by rw [List.getElem?_zip_eq_some]; exact ⟨h1, hu⟩)))
      rw [List.map_reverse, List.map_fst_zip (by rw [← hl, Paired.length r]; exact Nat.le_refl _)]
      exact (List.reverse_perm ps).nodup_iff.mpr L.nd
  · obtain ⟨_, rfl⟩ := lk_one h
    exact ⟨_, oc, kp _ _ hc2.1, hcd⟩
  · obtain ⟨_, rfl⟩ := lk_one h
    exact hc2.2
  · show (some v :: vs.map some).length = (y :: ps).length
    simp [hl]
/-- x(..), x a name that holds a lambda -/
def mFit (F : Nat → Fn) (i : Nat) (ms : Evs) : Ev := fun σ B => match σ[i]? with
  | some (some (false, .fnT k)) => (ms σ B).bind (F k)
  | _ => .bad
theorem s_callF {F : Nat → Fn} (c : OkC g E (lv + 1) X) (LB : LamsF g lv F) (ha : Snds g E H0 X (e :: es) ms) (hN : X.N[i]? = some x := by rfl) (hv : Vis X.env.scope x := by first | exact Or.inl rfl | exact Or.inr (Or.inl rfl) | exact Or.inr (Or.inr rfl)) (hd : (x == ("__debug__" : Str)) = false := by decide) (hcd : (x == ("__classdict__" : Str)) = false := by decide)
    (he : starEach (e :: es) X.env = (false, eval e X.env) :: starEach es X.env := by rfl) (hpl : (backTo pos (starEach es X.env)).any (·.1) = false := by rfl) :
    Snd g E H0 X false (.Call (.Name x p) (e :: es) [] pos) (mFit F i ms) := by
  obtain ⟨prog, w', K, mg, base, A, N, s_0, H_0, env, outer, stack, ex, fn, calm, pn, xe⟩ := X
  obtain ⟨⟨h1, h2, h3, h4, h5, h6, h7, hfx⟩, h8, h9⟩ := c
  simp only at h1 h2 h5 h6 h7 h8
  subst h1 h2 h5 h6 h7
  refine ⟨fun pins s σ H Q I h => ?_⟩
  obtain ⟨w, σI, B, s0, post⟩ := h
  unfold mFit at post
  split at post
  rotate_left
  · exact post.elim
  rename_i k hk
  obtain ⟨v0, hv0, rp⟩ := s0.sl _ _ hk
  have go : ∀ f : Addr, v0 = .ref f → (∀ (s' : Shared) (σ' : L2.St) (H' : Hp) (w2 : Wd) (B2 : Bs), Inv { prog := g.prog, w := g.w, K := g.K, mg := g.mg, base := g.base, A := A, N := N, s_0 := s_0, H_0 := H_0, env := env, outer := outer, stack := stack, ex := ex, fn := fn, calm := calm, pn := pn, xe := xe } pins σ' H' s' → RB g w2 B2 H' → Le w w2 → PySem.W.FnAt f s'.heap) →
      (∀ (s2 : Shared) (H2 : Hp) (us : List Value) (vs : List V) (w2 : Wd) (B2 : Bs) (ds : List D), Inv { prog := g.prog, w := g.w, K := g.K, mg := g.mg, base := g.base, A := A, N := N, s_0 := s_0, H_0 := H_0, env := env, outer := outer, stack := stack, ex := ex, fn := fn, calm := calm, pn := pn, xe := xe } pins σ H2 s2 → Vals vs us → Le w w2 → RB g w2 B2 H2 → Reps g w2 ds vs → PostE g E w2 H2 σI σ false Q (F k ds B2) →
        codeAny (model g.prog g.w) A (.call (.ref f) ⟨us, []⟩) (CR (L2N.CX g.prog g.w) stack g.prog g.w H2 s2 Q E) s2) →
      wpAny (model g.prog g.w) A (eval (.Call (.Name x p) (e :: es) [] pos) env) (EP { prog := g.prog, w := g.w, K := g.K, mg := g.mg, base := g.base, A := A, N := N, s_0 := s_0, H_0 := H_0, env := env, outer := outer, stack := stack, ex := ex, fn := fn, calm := calm, pn := pn, xe := xe } pins σ Q) xe s := by
    intro f hvf hat hrun
    subst hvf
    refine wpAny_Call_Name_kw (thn ((pe_var (pos := p) (i := i) hN hv hd hcd).run pins s σ H (fun v H1 => v = .ref f ∧ H1 = H) I ⟨.ref f, hv0, rfl, rfl⟩) fun u s1 ⟨v, H1, I1, r1, q1⟩ => ?_)
    obtain ⟨ev, eH⟩ := q1
    subst ev eH
    obtain rfl : u = Value.ref f := r1
    refine PySem.W.callWith_F (hat _ _ _ _ _ I1 s0.rb (Le.refl _)) (thn (ha.run pos pins s1 σ H1 (fun vs H2 => ∃ w2 B2 ds, Ext w H1 w2 H2 ∧ RB g w2 B2 H2 ∧ Reps g w2 ds vs ∧ PostE g E w2 H2 σI σ false Q (F k ds B2)) I1
      (tIs_bind s0 post fun ds B1 w1 vs H2 x1 s2 r2 p2 => ⟨w1, B1, ds, x1, s2.rb, r2, p2⟩)) fun us s2 ⟨vs, H2, I2, r2, w2, B2, ds, x2, rb2, rd, p2⟩ => ?_) he hpl
    refine ⟨hat _ _ _ _ _ I2 rb2 x2.le, wpAny_call (codeAny_mono (hrun s2 H2 us vs w2 B2 ds I2 r2 x2.le rb2 rd p2) fun r s' hq => ?_)⟩
    cases r with
    | error e => exact h9 pins σ H2 s2 e s' I2 hq
    | ok fl =>
      cases fl with
      | ret u => exact I2.after hq
      | next => exact False.elim hq
      | brk => exact False.elim hq
      | cont => exact False.elim hq
  simp only [Rep] at rp
  rcases rp with ⟨q1, q2, q3⟩ | ⟨f, c', pm, ct, q0, q1, pf, pc⟩
  · rcases LB k with ⟨z, _⟩ | ⟨_, _, z, _⟩ | ⟨ps, m, _, L, lo, bind, fe, hb⟩
    · rw [q1] at z; cases z
    · rw [q1] at z; cases z
    refine go _ q2 (fun s' σ' H' w2 B2 J _ _ => ⟨_, _, _, _, J.bk _ _ lo.fo⟩) fun s2 H2 us vs w2 B2 ds I2 r2 l2 rb2 rd p2 => ?_
    obtain ⟨⟨oc, fs, tq, hoc, hdc, hvc⟩, _, _⟩ := I2.hok _ _ (rb2.sub _ _ (l2.P _ _ q3))
    rw [fe] at p2
    simp only at p2
    split at p2
    rotate_left
    · exact p2.elim
    rename_i hl
    have hlu : us.length = ps.length := by rw [← Paired.length r2, rd.len, hl]
    have hlv : vs.length = ps.length := by rw [rd.len, hl]
    obtain ⟨oc2, u2, hc1, hc2, hc3⟩ := lo.co
    refine PySem.W.kla_callFunE h8.depth (I2.bk _ _ lo.fo) rfl L.co L.gen rfl ⟨_, oc, fs, tq, rfl, hoc, hdc, hvc⟩ ?_
    rw [bind _ _ _ _ us hlu]
    refine wpAny_pure (wpAny_newFunctionEnv (fun y hy => L.nc y hy) (fun ⟨n, z⟩ hy => L.par n (List.of_mem_zip hy).1) (fun h₁ hns hsb => ⟨I2.nolimit.fresh _ hsb, ?_⟩) L.kind)
    have kp : ∀ b o, s2.heap.get? b = some o → h₁.get? b = some o := fun b o e => hsb.extBut b o (Nat.ne_of_lt (Heap.lt_size e)) (Heap.get?_push_of_some _ e)
    show codeAny _ _ (.expr (g.lam k).bd (lamCE (g.lam k).q (g.lam k).sc s2.heap.objs.size (g.lmd k).fa (g.lmd k).ca (g.lmd k).y (g.lmd k).cell)) _ _
    have J := lamc_start (q := (g.lam k).q) (f := (g.lmd k).fa) (ca := (g.lmd k).ca) (E := E) (tk := s2.toks + (ps.zip us).length) L h8.hd I2.env0 hc1 hc2 hc3 r2 hlv hns kp
    have hr' := h8.deeper (lamCE (g.lam k).q (g.lam k).sc s2.heap.objs.size (g.lmd k).fa (g.lmd k).ca (g.lmd k).y (g.lmd k).cell)
    have ok' : OkC g E lv (lamCC g.prog g.w g.K g.mg g.base ((g.lmd k).y :: ps) (g.lam k).q (g.lam k).sc (g.lmd k).fa (g.lmd k).ca (g.lmd k).y (g.lmd k).cell A stack s2 H2 E) :=
      ⟨⟨rfl, rfl, rfl, un_of hr', rfl, rfl, rfl, hfx⟩, hr', L2N.passes_call (L2N.takes_of rfl rfl rfl rfl) (fun _ _ _ _ h => h)⟩
    have st := start_at (N := (g.lmd k).y :: ps) (ds := (g.lmd k).d :: ds) (vs := (g.lmd k).v :: vs) (n := ps.length + 1) rb2 (by simp only [Reps]; exact ⟨_, _, rfl, lo.rp w2, rd⟩) (by simp [hl]) (Nat.le_refl _)
    have e1 : L2.start ((g.lmd k).y :: ps) ((g.lmd k).v :: vs) = some (g.lmd k).v :: vs.map some := by
      unfold L2.start
      simp [hlv]
    rw [e1] at st
    simp only [List.length_cons, Nat.sub_self, List.replicate_zero, List.append_nil, List.map_cons] at st
    have ht : tI g E H2 false m (some (g.lmd k).v :: vs.map some) H2 Q := ⟨w2, _, B2, st, by
      revert p2
      generalize m (some (false, (g.lmd k).d) :: ds.map fun d => some (false, d)) B2 = q
      intro p2
      cases q with
      | ok d B' => exact fun w' v H' x rb r => p2 w' v H' x rb r
      | exc c y B' => exact p2
      | bad => exact p2⟩
    refine PySem.W.kla_codeExpr (wpAny_mono ((hb E H2 _ ok' rfl rfl).run [] _ _ H2 Q J ht) (fun v s' hq => ?_) fun e s' hq => hq)
    obtain ⟨w', H', J', rv, q⟩ := hq
    exact ⟨w', H', J'.os, J'.bare, J'.base, J'.hok, rv, q⟩
  · refine go f q1 (fun s' σ' H' w2 B2 J rb l => ⟨_, _, _, _, obE_at J.hok (rb.sub _ _ (l.P _ _ pf))⟩) fun s2 H2 us vs w2 B2 ds I2 r2 l2 rb2 rd p2 => ?_
    have of2 := obE_at I2.hok (rb2.sub _ _ (l2.P _ _ pf))
    obtain ⟨⟨oc, fs, tq, hoc, hdc, hvc⟩, _, _⟩ := I2.hok c' _ (rb2.sub _ _ (l2.P _ _ pc))
    rcases LB k with ⟨_, fb⟩ | ⟨ps, m, _, L, bind, fe, hb⟩ | ⟨_, _, z, _⟩
    · rw [fb] at p2
      exact p2.elim
    rotate_left
    · rw [q0] at z; cases z
    rw [fe] at p2
    simp only at p2
    split at p2
    rotate_left
    · exact p2.elim
    rename_i hl
    have hlu : us.length = ps.length := by rw [← Paired.length r2, rd.len, hl]
    have hlv : vs.length = ps.length := by rw [rd.len, hl]
    refine PySem.W.kla_callFunE h8.depth of2 rfl L.fs.co L.fs.gen rfl ⟨c', oc, fs, tq, rfl, hoc, hdc, hvc⟩ ?_
    rw [bind _ _ _ us hlu]
    refine wpAny_pure (wpAny_newFunctionEnv_cells L.fs.kind (fun ⟨n, z⟩ hy => .inl ((L.fs.par n (List.of_mem_zip hy).1).resolve_right fun q => L.nc _ (PySem.mem_of_lookup q) rfl)) fun env' he' s3 x => ?_)
    subst he'
    have J := inv_start (CX := L2N.CX g.prog g.w) (E := E) (qual := (g.lam k).q) (f := f) (cd := .ref c') L.fs h8.hd I2.env0 hlv r2 x
    refine ⟨I2.nolimit.keeps x.toInCall.keep, PySem.W.kla_codeExpr ?_⟩
    have hr' := h8.deeper (envOfC (g.lam k).q (g.lam k).sc s2.heap.objs.size f (.ref c'))
    have ok' : OkC g E lv (cxOf (L2N.CX g.prog g.w) g.prog g.w g.K g.mg g.base ps (g.lam k).q (g.lam k).sc f (.ref c') A stack s2 H2 E) :=
      ⟨⟨rfl, rfl, rfl, un_of hr', rfl, rfl, rfl, hfx⟩, hr', L2N.passes_call (L2N.takes_of rfl rfl rfl rfl) (fun _ _ _ _ h => h)⟩
    have st := start_at (N := ps) rb2 rd hl (Nat.le_refl _)
    rw [Nat.sub_self] at st
    simp only [List.replicate_zero, List.append_nil] at st
    have ht : tI g E H2 false m (L2.start ps vs) H2 Q := ⟨w2, _, B2, st, by
      revert p2
      generalize m (ds.map fun d => some (false, d)) B2 = q
      intro p2
      cases q with
      | ok d B' => exact fun w' v H' x rb r => p2 w' v H' x rb r
      | exc c y B' => exact p2
      | bad => exact p2⟩
    refine wpAny_mono ((hb E H2 _ ok' rfl rfl).run [] s3 _ H2 Q J ht) (fun v s' hq => ?_) fun e s' hq => hq
    obtain ⟨w', H', J', rv, q⟩ := hq
    exact ⟨w', H', J'.os, J'.bare, J'.base, J'.hok, rv, q⟩
end
end Hf

set_option Elab.async false
set_option linter.all false
set_option maxRecDepth 100000
set_option maxHeartbeats 4000000
namespace Hf
open PySem PySem.Spec PyProof.Rows L2
/-! ### sorted of rows of numbers -/
def ltR : List Int → List Int → Bool
  | [], [] => false
  | [], _ :: _ => true
  | _ :: _, [] => false
  | a :: as, b :: bs => if a = b then ltR as bs else decide (a < b)
def leR (x y : List Int) : Bool := !ltR y x
theorem ltR_eq : ∀ x y : List Int, ltR x y = decide (x < y)
  | [], [] => by simp [ltR]
  | [], _ :: _ => by simp [ltR]
  | _ :: _, [] => by simp [ltR]
  | a :: as, b :: bs => by
    unfold ltR
    by_cases h : a = b
    · rw [if_pos h, ltR_eq as bs]
      simp [h, List.cons_lt_cons_iff]
    · rw [if_neg h]
      simp [h, List.cons_lt_cons_iff]
theorem ltR_trans : ∀ x y z : List Int, leR x y = true → leR y z = true → leR x z = true
  | [], [], _, _, h => h
  | [], _ :: _, [], _, h => by simp [leR, ltR] at h
  | [], _ :: _, _ :: _, _, _ => by simp [leR, ltR]
  | _ :: _, [], _, h, _ => by simp [leR, ltR] at h
  | _ :: _, _ :: _, [], _, h => by simp [leR, ltR] at h
  | a :: as, b :: bs, c :: cs, h1, h2 => by
    have ih := ltR_trans as bs cs
    simp only [leR, ltR, Bool.not_eq_true', Bool.not_eq_eq_eq_not, Bool.not_true] at h1 h2 ih ⊢
    by_cases h : b = a
    · rw [if_pos h] at h1
      subst h
      by_cases k : c = b
      · rw [if_pos k] at h2 ⊢
        exact ih h1 h2
      · rw [if_neg k] at h2 ⊢
        exact h2
    · rw [if_neg h] at h1
      have h1 := of_decide_eq_false h1
      by_cases k : c = b
      · subst k
        rw [if_neg h]
        exact decide_eq_false h1
      · rw [if_neg k] at h2
        have h2 := of_decide_eq_false h2
        rw [if_neg (by omega)]
        exact decide_eq_false (by omega)
theorem leR_total : ∀ x y : List Int, (leR x y || leR y x) = true
  | [], [] => rfl
  | [], _ :: _ => rfl
  | _ :: _, [] => rfl
  | a :: as, b :: bs => by
    have ih := leR_total as bs
    simp only [leR, ltR, Bool.or_eq_true, Bool.not_eq_true'] at ih ⊢
    by_cases h : a = b
    · subst h; simpa using ih
    · rw [if_neg h, if_neg (Ne.symm h)]
      rcases Int.lt_trichotomy a b with z | z | z
      · exact .inl (decide_eq_false (by omega))
      · exact absurd z h
      · exact .inr (decide_eq_false (by omega))
theorem leR_anti : ∀ x y : List Int, leR x y = true → leR y x = true → x = y
  | [], [], _, _ => rfl
  | [], _ :: _, _, h => by simp [leR, ltR] at h
  | _ :: _, [], h, _ => by simp [leR, ltR] at h
  | a :: as, b :: bs, h1, h2 => by
    have ih := leR_anti as bs
    simp only [leR, ltR, Bool.not_eq_true'] at h1 h2 ih
    by_cases h : a = b
    · subst h
      simp only [if_true] at h1 h2
      rw [ih h1 h2]
    · rw [if_neg (Ne.symm h)] at h1
      rw [if_neg h] at h2
      have h1 := of_decide_eq_false h1
      have h2 := of_decide_eq_false h2
      omega
def insR (x : List Int) : List (List Int) → List (List Int)
  | [] => [x]
  | y :: ys => if leR x y then x :: y :: ys else y :: insR x ys
def isR : List (List Int) → List (List Int)
  | [] => []
  | x :: xs => insR x (isR xs)
theorem insR_perm (x : List Int) : ∀ l, (insR x l).Perm (x :: l)
  | [] => .refl _
  | y :: ys => by
    unfold insR
    split
    · exact .refl _
    · exact ((insR_perm x ys).cons y).trans (.swap _ _ _)
theorem isR_perm : ∀ l, (isR l).Perm l
  | [] => .refl _
  | x :: xs => (insR_perm x (isR xs)).trans ((isR_perm xs).cons x)
theorem insR_pw (x : List Int) : ∀ l : List (List Int), l.Pairwise (fun a b => leR a b = true) → (insR x l).Pairwise (fun a b => leR a b = true)
  | [], _ => .cons (by simp) .nil
  | y :: ys, h => by
    obtain ⟨h1, h2⟩ := List.pairwise_cons.mp h
    unfold insR
    split
    · rename_i hxy
      refine .cons (fun z hz => ?_) h
      rcases List.mem_cons.mp hz with rfl | hz
      · exact hxy
      · exact ltR_trans _ _ _ hxy (h1 z hz)
    · rename_i hxy
      refine .cons (fun z hz => ?_) (insR_pw x ys h2)
      rcases List.mem_cons.mp ((insR_perm x ys).mem_iff.mp hz) with rfl | hz
      · have := leR_total z y
        simp only [Bool.or_eq_true] at this
        exact this.resolve_left hxy
      · exact h1 z hz
theorem isR_pw : ∀ l, (isR l).Pairwise (fun a b => leR a b = true)
  | [] => .nil
  | x :: xs => insR_pw x _ (isR_pw xs)
theorem pw_unique : ∀ (a b : List (List Int)), a.Perm b → a.Pairwise (fun x y => leR x y = true) → b.Pairwise (fun x y => leR x y = true) → a = b
  | [], b, p, _, _ => (List.nil_perm.mp p).symm
  | x :: xs, b, p, h1, h2 => by
    cases b with
    | nil => exact absurd p.length_eq (by simp)
    | cons y ys =>
      obtain ⟨a1, a2⟩ := List.pairwise_cons.mp h1
      obtain ⟨b1, b2⟩ := List.pairwise_cons.mp h2
      have e : x = y := by
        rcases List.mem_cons.mp (p.mem_iff.mp (List.mem_cons_self ..)) with q | q
        · exact q
        · rcases List.mem_cons.mp (p.mem_iff.mpr (List.mem_cons_self ..)) with r | r
          · exact r.symm
          · exact leR_anti _ _ (a1 y r) (b1 x q)
      subst e
      rw [pw_unique xs ys (List.perm_cons _ |>.mp p) a2 b2]
theorem ms_isR (l : List (List Int)) : l.mergeSort leR = isR l :=
  pw_unique _ _ ((List.mergeSort_perm l leR).trans (isR_perm l).symm) (List.pairwise_mergeSort ltR_trans leR_total l) (isR_pw l)
abbrev wT (r : List Int) : D := .tup (r.map D.int)
theorem toPys_int : ∀ r : List Int, toPys (r.map D.int) = r.map PyData.int
  | [] => by simp [toPys]
  | i :: r => by simp [toPys, toPy, toPys_int r]
theorem toPy_wT (r : List Int) : toPy (wT r) = .tuple (r.map .int) := by
  simp only [toPy, toPys_int]
theorem le_wT (x y : List Int) : PySem.W.dataLe false (fun r : List Int => toPy (wT r)) x y = leR x y := by
  show (!PySem.W.dataLt (toPy (wT y)) (toPy (wT x))) = _
  rw [toPy_wT, toPy_wT, PySem.W.dataLt_tuple]
  show (!PySem.W.rowLt (y.map .int) (x.map .int)) = _
  rw [PySem.W.dataLt_ints, leR, ltR_eq]
theorem intsA_is : ∀ {ds : List D} {r : List Int}, intsA ds = some r → ds = r.map D.int
  | [], r, h => by simp [intsA] at h; subst h; rfl
  | d :: ds, r, h => by
    unfold intsA at h
    split at h
    · rename_i k ks h1 h2
      cases h
      cases d <;> simp [intA] at h1
      subst h1
      rw [intsA_is h2]; rfl
    · cases h
theorem tupsA_is : ∀ {ds : List D} {rs : List (List Int)}, tupsA ds = some rs → ds = rs.map wT
  | [], r, h => by simp [tupsA] at h; subst h; rfl
  | d :: ds, r, h => by
    unfold tupsA at h
    split at h
    · rename_i k ks h1 h2
      cases h
      cases d <;> simp [tupA] at h1
      rw [intsA_is h1, tupsA_is h2]; rfl
    · cases h
def rSrtR (K : PySem.W.Frag) : List V → Hp → VK → Prop := fun vs H Q => ∃ (q : Addr) (xs : List V) (rs : List (List Int)), vs = [V.ref q] ∧ SqL K H q xs ∧ DpAll K H xs (toPys (rs.map wT)) ∧ rs.length ≤ 1000 ∧ (∀ r ∈ rs, r ≠ []) ∧
  ∀ ps : List (V × List Int), (∀ x ∈ ps, x ∈ xs.zip rs) → ps.map (·.2) = isR rs → ∀ p, H p = none → Q (.ref p) (upd H p (.lst (ps.map (·.1))))
section
variable {X : Cx} {pins : List (Addr × Obj)} {σ : L2.St} {H : Hp} {s : Shared}
theorem zip_sndR : ∀ {xs : List V} {rs : List (List Int)}, xs.length = rs.length → (xs.zip rs).map (·.2) = rs
  | [], [], _ => rfl
  | x :: xs, d :: ds, h => by simp [zip_sndR (xs := xs) (rs := ds) (by simpa using h)]
theorem each_zipR : ∀ {xs : List V} {us : List Value} {rs : List (List Int)}, Vals xs us → xs.length = rs.length → PySem.W.EachIs (fun u (p : V × List Int) => RelV p.1 u) us (xs.zip rs)
  | [], _, rs, r, hl => by
    cases r
    match rs, hl with
    | [], _ => exact .nil
  | x :: xs, _, rs, r, hl => by
    cases r with
    | cons r1 r2 => match rs, hl with
      | d :: ds, hl => exact .cons r1 (each_zipR r2 (by simpa using hl))
theorem vals_eachR : ∀ {us : List Value} {ps : List (V × List Int)}, PySem.W.EachIs (fun u (p : V × List Int) => RelV p.1 u) us ps → Vals (ps.map (·.1)) us
  | _, _, .nil => .nil
  | _, _, .cons h1 h2 => .cons h1 (vals_eachR h2)
theorem each_readsR (I : Inv X pins σ H s) : ∀ {xs : List V} {us : List Value} {rs : List (List Int)}, Vals xs us → DpAll X.K H xs (toPys (rs.map wT)) → PySem.W.EachIs (fun u (p : V × List Int) => ∃ as, Reads s.heap u (toPy (wT p.2)) as) us (xs.zip rs)
  | [], _, rs, r, h => by
    cases r
    cases rs with
    | nil => exact .nil
    | cons d ds => simp only [List.map_cons, toPys] at h; cases h
  | x :: xs, _, rs, r, h => by
    cases r with
    | cons r1 r2 => cases rs with
      | nil => simp only [List.map_nil, toPys] at h; cases h
      | cons d ds =>
        simp only [List.map_cons, toPys] at h
        cases h with
        | cons h1 h2 => exact .cons (Dp.reads I _ _ _ h1 r1) (each_readsR I r2 h2)
theorem cr_srtR (hu : X.A.units + 100 < cLine) : CallR X (.builtin "sorted") (rSrtR X.K) := by
  intro pins s σ H vs us Q I r h
  obtain ⟨q, xs, rs, rfl, hs, hd, g1, g2, hq⟩ := h
  rw [Vals.ref1 r]
  obtain ⟨its, rv, pl, hz⟩ := I.list hs
  have hl : xs.length = rs.length := by rw [dpAll_len hd, toPys_map]; simp
  have hz2 : rs.length ≤ sizeLine := by rw [sizeLine_eq]; omega
  refine PySem.W.sorted_data (enc := fun p : V × List Int => toPy (wT p.2)) (R := fun u (p : V × List Int) => RelV p.1 u) pl.isList (each_zipR rv hl) (each_readsR I rv hd) (PySem.W.AllAlike.of fun a b => by
    rw [toPy_wT, toPy_wT]
    show PySem.W.alikeAll _ _ = true
    exact PySem.W.alike_ints _ _) (.inl fun d hd => by
    obtain ⟨p, hp, rfl⟩ := List.mem_map.mp hd
    have := g2 p.2 (by rw [← zip_sndR hl]; exact List.mem_map_of_mem hp)
    rw [toPy_wT]
    cases h : p.2 with
    | nil => exact absurd h this
    | cons a b => exact ⟨_, _, rfl⟩) (by simp [hl, hz2]) (fun p hp => by
      have : (toPy (wT p.2)).depth ≤ 1 := by
        rw [toPy_wT]
        have : ∀ l : List Int, PyData.depthAll (l.map PyData.int) = 0 := fun l => by
          induction l with
          | nil => simp [PyData.depthAll]
          | cons a b ih => simp [PyData.depthAll, PyData.depth, ih]
        simp [PyData.depth, this]
      omega) fun out h1 h2 => ?_
  have rv2 := vals_eachR h2
  have e2 : ((xs.zip rs).mergeSort (PySem.W.dataLe false fun p : V × List Int => toPy (wT p.2))).map (·.2) = isR rs := by
    rw [List.map_mergeSort (s := leR) (fun a _ b _ => le_wT a.2 b.2), zip_sndR hl, ms_isR]
  have e3 : ∀ x ∈ (xs.zip rs).mergeSort (PySem.W.dataLe false fun p : V × List Int => toPy (wT p.2)), x ∈ xs.zip rs := fun x hx => List.mem_mergeSort.mp hx
  have hlen : ((xs.zip rs).mergeSort (PySem.W.dataLe false fun p : V × List Int => toPy (wT p.2))).length ≤ sizeLine := by rw [List.length_mergeSort]; simp [hl, hz2]
  obtain ⟨ep, he⟩ := PyProof.Rows.sortedAll_at s.heap its out.toArray
  have he' : (PyProof.Rows.sortedAll s.heap its out.toArray).get? (s.heap.objs.size + 1) = some (seqObj "list" out.toArray ep) := he
  exact ⟨.ref _, upd H (s.heap.objs.size + 1) (.lst (((xs.zip rs).mergeSort (PySem.W.dataLe false fun p : V × List Int => toPy (wT p.2))).map (·.1))), I.laid (t' := s.toks) (o := .lst (((xs.zip rs).mergeSort (PySem.W.dataLe false fun p : V × List Int => toPy (wT p.2))).map (·.1))) (fun _ _ => PyProof.Rows.sortedAll_old) (Nat.le_succ _) ⟨by rw [List.length_map]; exact hlen, out, ep, rv2, he'⟩, rfl, hq _ e3 e2 _ (I.hok.fresh (Nat.le_succ _))⟩
end
def fSrtR : D → Bs → Rs D
  | .lst ds, B => match tupsA ds with
    | some rs => if decide (rs.length ≤ 1000) && rs.all (fun r => !r.isEmpty) then .ok (.lst ((isR rs).map wT)) B else .bad
    | Option.none => .bad
  | _, _ => .bad
theorem reps_zip {g : Gs} {w : Wd} : ∀ {rs : List (List Int)} {vs : List V}, Reps g w (rs.map wT) vs → ∀ x ∈ vs.zip rs, Rep g w (wT x.2) x.1
  | [], vs, h, x, hx => by simp at hx
  | r :: rs, vs, h, x, hx => by
    simp only [List.map_cons, Reps] at h
    obtain ⟨v, us, rfl, r1, r2⟩ := h
    rw [List.zip_cons_cons] at hx
    rcases List.mem_cons.mp hx with rfl | hx
    · exact r1
    · exact reps_zip r2 x hx
theorem reps_pairs {g : Gs} {w : Wd} : ∀ {ps : List (V × List Int)}, (∀ x ∈ ps, Rep g w (wT x.2) x.1) → Reps g w ((ps.map (·.2)).map wT) (ps.map (·.1))
  | [], _ => by simp only [List.map_nil, Reps]
  | p :: ps, h => by
    simp only [List.map_cons, Reps]
    exact ⟨_, _, rfl, h p List.mem_cons_self, reps_pairs fun x hx => h x (List.mem_cons_of_mem _ hx)⟩
section
variable {g : Gs} {E : XK} {w0 w : Wd} {H0 H : Hp} {X : Cx} {e : Expr} {m : Ev} {pos p1 : Pos} {bo b1 : Bool}
theorem o_sortedR (c : Ok g X) : OneF g E H0 X (.builtin "sorted") fSrtR := ⟨_, cr_srtR c.un, fun w σI B σ H Q x d s r p => by
  unfold fSrtR at p
  split at p
  · rename_i ds
    split at p
    · rename_i rs hr
      split at p
      · rename_i hc
        simp only [Bool.and_eq_true, decide_eq_true_eq, List.all_eq_true, Bool.not_eq_true', List.isEmpty_eq_false_iff] at hc
        obtain rfl := tupsA_is hr
        obtain ⟨q, vs, rfl, hq, rr⟩ := r.lst s
        have cl : PyData.canLayAll0 (toPys (rs.map wT)) = true := by
          have h1 : ∀ l : List Int, PyData.canLayAll0 (l.map PyData.int) = true := fun l => by
            induction l with
            | nil => simp [PyData.canLayAll0]
            | cons a b ih => simp [PyData.canLayAll0, PyData.canLay0, ih]
          clear hc hr rr p r hq
          induction rs with
          | nil => simp [toPys, PyData.canLayAll0]
          | cons a b ih => simp only [List.map_cons, toPys, PyData.canLayAll0, ih, toPy_wT, PyData.canLay0, h1, Bool.and_self]
        exact ⟨q, vs, rs, rfl, .inl (.inl hq), c.K ▸ Reps.dp s.rb.sub _ vs rr cl, hc.1, hc.2, fun ps h1 h2 l hl => p.newL s (by
          rw [← h2]
          exact reps_pairs fun x hx => reps_zip rr x (h1 x hx)) hl⟩
      · exact p.elim
    · exact p.elim
  · exact p.elim⟩
theorem q_sortedR (c : Ok g X) (he : Snd g E H0 X b1 e m) (hg : Gl X "sorted" := by rfl) (h1 : starEach (e :: []) X.env = (false, eval e X.env) :: starEach [] X.env := by rfl) : SndF g E H0 X (.Call (.Name "sorted" p1) [e] [] pos) (m1 fSrtR m) := f_b1 (o_sortedR c) bt_sorted (nbs c) he hg (by decide) (by decide) h1
end
/-! ### x = n.pop(), n a name's own list -/
def mPopO (i j : Nat) : Ms := fun σ B => match σ[j]? with
  | some (some (true, .lst ds)) => match ds[ds.length - 1]? with
    | some d => .next ((σ.set j (some (true, .lst ds.dropLast))).set i (some (false, d))) B
    | Option.none => .bad
  | _ => .bad
section
variable {g : Gs} {E : XK} {w0 : Wd} {H0 : Hp} {X : Cx} {pos p1 p2 apos cpos : Pos} {x y : Str} {i j : Nat}
theorem z_popO (hn : X.N.Nodup) (hi : X.N[i]? = some x := by rfl) (hx : Loc X.env.scope x := by first | exact .inl rfl | exact .inr rfl) (hj : X.N[j]? = some y := by rfl) (hv : Vis X.env.scope y := by first | exact Or.inl rfl | exact Or.inr (Or.inl rfl) | exact Or.inr (Or.inr rfl)) (hd : (y == ("__debug__" : Str)) = false := by decide) (hcd : (y == ("__classdict__" : Str)) = false := by decide)
    (hbase : attributeBase (.Name y p2) "pop" X.env (eval (.Name y p2) X.env) = eval (.Name y p2) X.env := by rfl) (hline : (apos.endLine == cpos.line) = true := by rfl)
    (hs : swapsWith (.Call (.Attribute (.Name y p2) "pop" apos) [] [] cpos) (some (.Name x p1)) pos.line X.env = pure false := by rfl) (hf : X.fn x = true := by rfl) :
    SndS g E w0 H0 X (.Assign [.Name x p1] (.Call (.Attribute (.Name y p2) "pop" apos) [] [] cpos) pos) (mPopO i j) := by
  refine weakS (ps_set hn hi hx (pe_bm0 PySem.F.plainAttrs_list PySem.F.slot_list_pop PySem.F.type_list_pop mt_pop (pe_var hj hv hd hcd) hbase hline) hs (.inl hf)) ?_
  rintro D σ H ⟨w, σI, B, s, x0, p⟩
  unfold mPopO at p
  split at p
  · rename_i ds hjs
    split at p
    · rename_i d hd'
      obtain ⟨a, o, e1, ha, c, np, nb, n0⟩ := s.ow j _ hjs
      simp only [Cont] at c
      obtain ⟨vs, rfl, r⟩ := c
      obtain ⟨u, e2, ru⟩ := Reps.get r hd'
      refine ⟨.ref a, e1, tyL ha, a, vs, u, rfl, rfl, ha, by rw [r.len]; exact e2, ?_⟩
      exact p w _ _ (Le.refl _) ((s.mut hjs e1 (by simp only [Cont]; exact ⟨_, rfl, r.dropLast⟩) (by intro _ _ z; cases z)).set i ru) (x0.mut n0)
    · exact p.elim
  · exact p.elim
end
/-! ### a, b = [..], [..]: both are own containers -/
def mPar2O (i j : Nat) (ma mb : Ev) : Ms := fun σ B => (ma σ B).st fun d B1 => (mb σ B1).st fun e B2 => .next ((σ.set i (some (true, d))).set j (some (true, e))) B2
section
variable {g : Gs} {E : XK} {w0 : Wd} {H0 : Hp} {X : Cx} {a b : Expr} {ma mb : Ev} {pos : Pos} {lv k : Nat}
theorem z_par2O {i j : Nat} {x y : Str} {px py pt : Pos} {kt k2 : Nat} {pt2 : Pos} (c : Ok g X) (hN : X.N.Nodup) (ha : SndF g E H0 X a ma) (hb : SndF g E H0 X b mb) (hw : swappedStores [.Tuple [.Name x px, .Name y py] kt pt] (.Tuple [a, b] k2 pt2) X.env = pure (some [x, y]) := by rfl)
    (hi : X.N[i]? = some x := by rfl) (hj : X.N[j]? = some y := by rfl) (hij : i ≠ j := by decide) (hx : X.env.scope.names.lookup x = some .local := by rfl) (hy : X.env.scope.names.lookup y = some .local := by rfl)
    (hs : swapsWithSole [.Tuple [.Name x px, .Name y py] kt pt] (.Tuple [a, b] k2 pt2) pos.line X.env = pure false := by rfl) (h1 : starEach [a, b] X.env = (false, eval a X.env) :: starEach [b] X.env := by rfl) (h2 : starEach [b] X.env = (false, eval b X.env) :: starEach [] X.env := by rfl) :
    SndS g E w0 H0 X (.Assign [.Tuple [.Name x px, .Name y py] kt pt] (.Tuple [a, b] k2 pt2) pos) (mPar2O i j ma mb) := by
  refine weakS (ps_par c.calm hN hi hj hij hx hy (pa_cons ha (pa_cons hb pa_nil h2) h1) hw hs) ?_
  rintro D σ H ⟨w, σI, B, s, x0, p⟩
  refine st_goF s x0 p fun e B1 w1 q ob H1 x1 x2 s1 e1 ct n pp io z p1 => ?_
  refine st_goF s1 x1 p1 fun e' B2 w2 q' ob' H2 y1 y2 s2 e2 ct' n' pp' io' z' p2 => ?_
  have hq : q ≠ q' := ne_of_none e1 n'
  refine ⟨.ref q, .ref q', rfl, p2 w2 _ H2 (Le.refl _) ((s2.setO i (y2.keep _ _ e1 io ct.nt.t) (Cont.mono y2.le ct) ?_ ?_ (x0.none0 n) (fun l f hl => s.own_ne hl n) z).setO j e2 ct' pp' io' (x1.none0 n') (fun l f hl => ?_) z') y1⟩
  · cases hp : w2.P q with
    | none => rfl
    | some u =>
      rcases y2.pf _ _ hp with h | h | h
      · rw [pp] at h; cases h
      · rw [e1] at h; cases h
      · have y := s2.rb.sub _ _ hp
        rw [y2.keep _ _ e1 io ct.nt.t] at y; cases y
        exact (ct.nt.px h).elim
  · intro k hk
    rcases y2.iof _ _ hk with h | h
    · exact io k h
    · rw [e1] at h; cases h
  · by_cases hli : l = i
    · subst hli
      intro q2
      have hl' : l < σ.length := by
        have := (List.getElem?_eq_some_iff.mp q2).1
        simpa using this
      rw [List.getElem?_set_self hl'] at q2
      exact hq (by cases q2; rfl)
    · rw [List.getElem?_set_ne (Ne.symm hli)] at hl ⊢
      exact s1.own_ne hl n'
theorem OkC.mono (c : OkC g E lv X) (h : k ≤ lv) : OkC g E k X := ⟨c.toOk, c.room.mono h, c.hx⟩
end
/-! ### where the lambdas of a text stand -/
def noE : Expr := .Constant .none 0 ⟨0, 0, 0, 0⟩
def retE : Stmt → Expr
  | .Return (some e) _ => e
  | .Assign _ e _ => e
  | _ => noE
def argE (n : Nat) : Expr → Expr
  | .Call _ es _ _ => es.getD n noE
  | _ => noE
def lmP : Expr → Arguments
  | .Lambda p _ _ _ => p
  | _ => ⟨[], [], Option.none, [], [], Option.none, []⟩
def lmB : Expr → Expr
  | .Lambda _ b _ _ => b
  | e => e
def lmS (d : Scope) : Expr → Scope
  | .Lambda _ _ s _ => s
  | _ => d
/-! ### a def that holds lambdas, no repr asked -/
theorem def_okLC {g : Gs} {x qual : Str} {st : Stmt} {fa : Addr} {fd : FuncData} {N ps : List Str} {n k : Nat} {b : Ms} {k0 P : Addr} (F : L2.Fun g.K x qual st fa fd) (S : FnScope N ps (defScope st)) (hn : ps.length = n) (hN : n ≤ N.length)
    (fx : Fx g) (co : fd.code = .ref k0) (tb : LamX.TabB g.base g.mg k0 P) (mem : (P, (qual ++ ".<locals>.") ++ "<lambda>") ∈ g.tabs) (uni : ∀ p ∈ g.tabs, p.1 = P → p.2 = (qual ++ ".<locals>.") ++ "<lambda>")
    (hb : ∀ (E : XK) (w0 : Wd) (H0 : Hp) (X : Cx), OkC g E k X → LamK g X k0 P → PassesOwn (model X.prog X.w) X.A X.env X.xe → L2N.Takes X (fun cls d _ H => E cls d H) → X.N = N → X.env.scope = defScope st → X.fn = (fun _ => true) → SndB g E w0 H0 X (defBody st) b) :
    FnOk g.prog g.w g.K g.mg g.base (L2N.CX g.prog g.w) (k + 1) fa fd ps (spF g (mkFn n N.length b)) := by
  obtain ⟨oc, od, kV, doc, pm, an, cdv, ct, osl, rfl, lk, hcd⟩ := F.ex
  have len : ∀ vs H Q E, spF g (mkFn n N.length b) vs H Q E → vs.length = ps.length := fun vs H Q E h => by
    obtain ⟨w, ds, B, rb, r, p⟩ := h
    unfold mkFn at p
    split at p
    · rename_i e; rw [r.len, e, hn]
    · exact p.elim
  refine ⟨len, fun A outer s H args us vs Q E hr e0 hbd r h => ?_⟩
  refine LamX.run_ofS lk hcd S hr e0 hbd r (len _ _ _ _ h) fun hr' => ?_
  obtain ⟨w, ds, B, rb, r, p⟩ := h
  unfold mkFn at p
  split at p
  · rename_i e
    refine ⟨_, hb E w H _ ⟨⟨rfl, rfl, rfl, un_of hr', rfl, rfl, rfl, fx⟩, hr', L2N.passes_call (L2N.takes_of rfl rfl rfl rfl) (fun _ _ _ _ h => h)⟩ (by exact ⟨tb, co, mem, uni⟩) (passes_of rfl) (L2N.takes_of rfl rfl rfl rfl) rfl rfl rfl, ?_⟩
    refine ⟨w, _, B, start_at rb r e hN, Ext.refl _ _, ?_⟩
    revert p
    generalize b _ B = q
    intro p
    cases q with
    | next σI' B' => exact fun w' σ H' _ s x => p w' .non H' x s.rb (rep_none g w')
    | ret d B' => exact fun w' v H' rb x r => p w' v H' x rb r
    | exc c y B' => exact fun w' cls dd H' rb x r => p w' cls dd H' x rb r
    | bad => exact p
  · exact p.elim
end Hf

set_option Elab.async false
set_option linter.all false
set_option maxRecDepth 100000
set_option maxHeartbeats 4000000
namespace Hf
open PySem PySem.Spec PyProof.Rows L2
/-! ### a lambda that captures one name, handed to a def: f(a, b, lambda ..: ..) -/
mutual
def noF : D → Bool
  | .tup ds => noFs ds
  | .lst ds => noFs ds
  | .scr ds => noFs ds
  | .prs ds => noFs ds
  | .dct ks vs => noFs ks && noFs vs
  | .inst _ ds => noFs ds
  | .fnT _ => false
  | .exo _ _ _ x => noF x
  | _ => true
def noFs : List D → Bool
  | [] => true
  | d :: ds => noF d && noFs ds
end
abbrev gC (g : Gs) (b : Heap) (l : Nat → LamD) : Gs := { g with base := b, lmd := l }
section
variable {g : Gs} {b : Heap} {l : Nat → LamD} {w : Wd}
mutual
theorem Rep.gC : ∀ (d : D) (v : V), noF d = true → (Rep (gC g b l) w d v ↔ Rep g w d v)
  | .none, v, _ => by simp only [Rep]
  | .bool _, v, _ => by simp only [Rep]
  | .int _, v, _ => by simp only [Rep]
  | .str _, v, _ => by simp only [Rep]
  | .tup ds, v, h => by
    simp only [noF] at h
    simp only [Rep]
    exact ⟨fun ⟨a, vs, e, q, r⟩ => ⟨a, vs, e, q, (Reps.gC ds vs h).mp r⟩, fun ⟨a, vs, e, q, r⟩ => ⟨a, vs, e, q, (Reps.gC ds vs h).mpr r⟩⟩
  | .prs ds, v, h => by
    simp only [noF] at h
    simp only [Rep]
    exact ⟨fun ⟨a, vs, e, q, r⟩ => ⟨a, vs, e, q, (Reps.gC ds vs h).mp r⟩, fun ⟨a, vs, e, q, r⟩ => ⟨a, vs, e, q, (Reps.gC ds vs h).mpr r⟩⟩
  | .lst ds, v, h => by
    simp only [noF] at h
    simp only [Rep]
    exact ⟨fun ⟨a, vs, e, q, r⟩ => ⟨a, vs, e, q, (Reps.gC ds vs h).mp r⟩, fun ⟨a, vs, e, q, r⟩ => ⟨a, vs, e, q, (Reps.gC ds vs h).mpr r⟩⟩
  | .scr ds, v, h => by
    simp only [noF] at h
    simp only [Rep]
    exact ⟨fun ⟨a, vs, e, q, r⟩ => ⟨a, vs, e, q, (Reps.gC ds vs h).mp r⟩, fun ⟨a, vs, e, q, r⟩ => ⟨a, vs, e, q, (Reps.gC ds vs h).mpr r⟩⟩
  | .dct ks ds, v, h => by
    simp only [noF, Bool.and_eq_true] at h
    simp only [Rep]
    exact ⟨fun ⟨a, xs, e, q, q2, r1, r⟩ => ⟨a, xs, e, q, q2, (Reps.gC ks _ h.1).mp r1, (Reps.gC ds _ h.2).mp r⟩, fun ⟨a, xs, e, q, q2, r1, r⟩ => ⟨a, xs, e, q, q2, (Reps.gC ks _ h.1).mpr r1, (Reps.gC ds _ h.2).mpr r⟩⟩
  | .inst c ds, v, h => by
    simp only [noF] at h
    simp only [Rep]
    exact ⟨fun ⟨a, dx, vs, e, q, q1, q2, r⟩ => ⟨a, dx, vs, e, q, q1, q2, (Reps.gC ds vs h).mp r⟩, fun ⟨a, dx, vs, e, q, q1, q2, r⟩ => ⟨a, dx, vs, e, q, q1, q2, (Reps.gC ds vs h).mpr r⟩⟩
  | .box _, v, _ => by simp only [Rep]
  | .cls _, v, _ => by simp only [Rep]
  | .ptr _, v, _ => by simp only [Rep]
  | .kd _ _, v, _ => by simp only [Rep]
  | .exo a dd f x, v, h => by
    simp only [noF] at h
    simp only [Rep]
    exact ⟨fun ⟨e, y, q, r⟩ => ⟨e, y, q, (Rep.gC x y h).mp r⟩, fun ⟨e, y, q, r⟩ => ⟨e, y, q, (Rep.gC x y h).mpr r⟩⟩
  | .fnT _, v, h => by simp [noF] at h
theorem Reps.gC : ∀ (ds : List D) (vs : List V), noFs ds = true → (Reps (gC g b l) w ds vs ↔ Reps g w ds vs)
  | [], vs, _ => by simp only [Reps]
  | d :: ds, vs, h => by
    simp only [noFs, Bool.and_eq_true] at h
    simp only [Reps]
    exact ⟨fun ⟨v, us, e, r, rs⟩ => ⟨v, us, e, (Rep.gC d v h.1).mp r, (Reps.gC ds us h.2).mp rs⟩, fun ⟨v, us, e, r, rs⟩ => ⟨v, us, e, (Rep.gC d v h.1).mpr r, (Reps.gC ds us h.2).mpr rs⟩⟩
end
theorem Cont.gC : ∀ {d : D} {a : Addr} {o : HO}, noF d = true → (Cont (gC g b l) w d a o ↔ Cont g w d a o) := by
  intro d a o h
  cases d <;> simp only [Cont]
  · rename_i ds
    simp only [noF] at h
    exact ⟨fun ⟨vs, e, r⟩ => ⟨vs, e, (Reps.gC ds vs h).mp r⟩, fun ⟨vs, e, r⟩ => ⟨vs, e, (Reps.gC ds vs h).mpr r⟩⟩
  · rename_i ks ds
    simp only [noF, Bool.and_eq_true] at h
    exact ⟨fun ⟨xs, e, q2, r1, r⟩ => ⟨xs, e, q2, (Reps.gC ks _ h.1).mp r1, (Reps.gC ds _ h.2).mp r⟩, fun ⟨xs, e, q2, r1, r⟩ => ⟨xs, e, q2, (Reps.gC ks _ h.1).mpr r1, (Reps.gC ds _ h.2).mpr r⟩⟩
  · rename_i c ds
    simp only [noF] at h
    exact ⟨fun ⟨dx, vs, e, q, q2, r⟩ => ⟨dx, vs, e, q, q2, (Reps.gC ds vs h).mp r⟩, fun ⟨dx, vs, e, q, q2, r⟩ => ⟨dx, vs, e, q, q2, (Reps.gC ds vs h).mpr r⟩⟩
theorem RB.toC {B : Bs} {H : Hp} (rb : RB g w B H) (h : B.all noF = true) : RB (gC g b l) w B H := ⟨rb.sub, fun n d e => by
  obtain ⟨a, o, q1, q2, q3⟩ := rb.get n d e
  exact ⟨a, o, q1, q2, (Cont.gC (List.all_eq_true.mp h d (List.mem_of_getElem? e))).mpr q3⟩, rb.inj, rb.np, rb.dom, rb.tb, rb.nt⟩
theorem RB.ofC {B : Bs} {H : Hp} (rb : RB (gC g b l) w B H) (h : B.all noF = true) : RB g w B H := ⟨rb.sub, fun n d e => by
  obtain ⟨a, o, q1, q2, q3⟩ := rb.get n d e
  exact ⟨a, o, q1, q2, (Cont.gC (List.all_eq_true.mp h d (List.mem_of_getElem? e))).mp q3⟩, rb.inj, rb.np, rb.dom, rb.tb, rb.nt⟩
end
/-- a part of a heap -/
def cutH (h : Heap) (p : Addr → Bool) : Heap := ⟨h.objs.mapIdx fun i o => if p i = true then o else { o with data := .freed }, h.life⟩
theorem cutH_get (h : Heap) (p : Addr → Bool) (b : Addr) : (cutH h p).get? b = if p b = true then h.get? b else Option.none := by
  unfold Heap.get? cutH
  simp only [Array.getElem?_mapIdx]
  by_cases hp : p b = true
  · rw [if_pos hp]
    cases h.objs[b]? with
    | none => rfl
    | some o => simp only [Option.map_some, if_pos hp]
  · rw [if_neg hp]
    cases h.objs[b]? with
    | none => rfl
    | some o => simp only [Option.map_some, if_neg hp]
theorem cutH_size (h : Heap) (p : Addr → Bool) : (cutH h p).objs.size = h.objs.size := by simp [cutH]
def chkF : Rs D → Rs D
  | .ok d B => if noF d && B.all noF then .ok d B else .bad
  | .exc c Option.none B => if B.all noF then .exc c Option.none B else .bad
  | _ => .bad
def scalB : D → Bool
  | .none => true
  | .bool _ => true
  | .int _ => true
  | .str _ => true
  | _ => false
theorem scal_rep {g : Gs} {w : Wd} {d : D} {v : V} (h : scalB d = true) (r : Rep g w d v) : ∀ (g' : Gs) (w' : Wd), Rep g' w' d v := by
  intro g' w'
  cases d <;> first | (simp [scalB] at h; done) | (simp only [Rep] at r ⊢; exact r)
def mCallB (f : (Nat → Fn) → Fn) (F : D → Nat → Fn) (k j : Nat) (ma mb : Ev) : Ev := fun σ B => (ma σ B).bind fun a B1 => (mb σ B1).bind fun b B2 => match σ[j]? with
  | some (some (false, d)) => if scalB d && noF a && noF b && B2.all noF then chkF (f (F d) [a, b, .fnT k] B2) else .bad
  | _ => .bad
section
variable {g : Gs} {E : XK} {w0 w : Wd} {H0 H : Hp} {X : Cx} {a b : Expr} {ma mb : Ev} {pos p lp : Pos} {x y : Str} {lv k j kk : Nat} {k0 P : Addr} {prm : Arguments} {bd : Expr} {sc : Scope} {f : (Nat → Fn) → Fn} {F : D → Nat → Fn}
theorem s_callB (c : OkC g E lv X) (lk : LamK g X k0 P) (hl : g.lam k = ⟨X.env.qual ++ "<lambda>", prm, bd, sc⟩) (dm : ∃ fa0, g.mg x = some (.ref fa0) ∧ PySem.W.keepIn g.K (.ref fa0) = true)
    (DB : ∀ (base' : Heap) (ld : LamD), (∀ b o, g.base.get? b = some o → base'.get? b = some o) → ld.live = true → ld.y = y → LiveOk (gC g base' fun n => if n = k then ld else {}) k → Def (gC g base' fun n => if n = k then ld else {}) kk x [] (f (F ld.d)))
    (hk : kk ≤ lv) (ha : Snd g E H0 X false a ma) (hb : Snd g E H0 X false b mb) (hclo : ∀ (cells : List (Str × Addr)) (c : Addr), cells.lookup y = some c → cloFrom cells sc.names [] = [(y, c)]) (hfree : ∀ z ∈ sc.names, z.2 = .free → z.1 = y)
    (hj : X.N[j]? = some y := by rfl) (hyc : X.env.scope.names.lookup y = some .cell := by rfl) (hfn : X.fn y = true := by rfl) (hdf : defaultsOf prm X.env = ([], []) := by rfl) (hg : Gl X x := by rfl) (hdb : (x == ("__debug__" : Str)) = false := by decide)
    (he1 : starEach [a, b, .Lambda prm bd sc lp] X.env = (false, eval a X.env) :: starEach [b, .Lambda prm bd sc lp] X.env := by rfl) (he2 : starEach [b, .Lambda prm bd sc lp] X.env = (false, eval b X.env) :: starEach [.Lambda prm bd sc lp] X.env := by rfl) :
    Snd g E H0 X false (.Call (.Name x p) [a, b, .Lambda prm bd sc lp] [] pos) (mCallB f F k j ma mb) := by
  obtain ⟨fa0, hm, kp⟩ := dm
  obtain ⟨prog, w', K, mg, base, A, N, s_0, H_0, env, outer, stack, ex, fn, calm, pn, xe⟩ := X
  obtain ⟨⟨h1, h2, h3, h4, h5, h6, h7, hfx⟩, h8, h9⟩ := c
  simp only at h1 h2 h5 h6 h7 h8 hj hyc hfn hl
  subst h1 h2 h5 h6 h7
  refine ⟨fun pins s σ H Q I h => ?_⟩
  obtain ⟨w, σI, B, s0, post⟩ := h
  refine wpAny_Call_Name_kw (ld_glob I hg hm ?_ hdb)
  refine PySem.W.callWith_K (h₀ := g.base) I.ok.mod.kin kp ?_ he1 (by
    rw [he2]; rfl)
  rw [he1, he2]
  show wpAny _ _ (spliced [(false, eval a env), (false, eval b env), (false, eval (.Lambda prm bd sc lp) env)]) _ _ s
  refine Calls.spliced_cons (thn (ha.run pins s σ H (fun va H1 => ∃ w1 B1 da, Ext w H w1 H1 ∧ S0 g H0 w1 σI B1 σ H1 ∧ Rep g w1 da va ∧ PostE g E w1 H1 σI σ false Q ((mb σI B1).bind fun b B2 => match σI[j]? with
    | some (some (false, d)) => if scalB d && noF da && noF b && B2.all noF then chkF (f (F d) [da, b, .fnT k] B2) else .bad
    | _ => .bad)) I (tI_bind s0 post fun da B1 w1 va H1 x1 s1 r1 p1 => ⟨w1, B1, da, x1, s1, r1, p1⟩)) fun ua s1 ⟨va, H1, I1, ra, w1, B1, da, x1, t1, r1, p1⟩ => ?_)
  refine Calls.spliced_cons (thn (hb.run pins s1 σ H1 (fun vb H2 => ∃ w2 B2 db, Ext w1 H1 w2 H2 ∧ S0 g H0 w2 σI B2 σ H2 ∧ Rep g w2 db vb ∧ PostE g E w2 H2 σI σ false Q (match σI[j]? with
    | some (some (false, d)) => if scalB d && noF da && noF db && B2.all noF then chkF (f (F d) [da, db, .fnT k] B2) else .bad
    | _ => .bad)) I1 (tI_bind t1 p1 fun db B2 w2 vb H2 x2 s2 r2 p2 => ⟨w2, B2, db, x2, s2, r2, p2⟩)) fun ub s2 ⟨vb, H2, I2, rb, w2, B2, db, x2, t2, r2, p2⟩ => ?_)
  split at p2
  rotate_left
  · exact p2.elim
  rename_i d hd
  split at p2
  rotate_left
  · exact p2.elim
  rename_i hc
  simp only [Bool.and_eq_true] at hc
  obtain ⟨⟨⟨hs, hna⟩, hnb⟩, hB⟩ := hc
  obtain ⟨v, hv, rv⟩ := t2.sl j d hd
  refine Calls.spliced_cons (lam_mkT I2 lk.tb lk.code lk.mem lk.uni t2.rb.tb hdf (fun z hz e => by rw [hfree z hz e]; exact I2.ok.has y (.inl hyc)) fun f' c' pm ct H3 s3 I3 eN tr T3 hf nf hfr hco => ?_)
  refine Calls.spliced_nil ⟨I3.kIn, ?_⟩
  -- the captured name's cell
  obtain ⟨cell, hcell, oc, u, hoc, hocd, ru⟩ : ∃ cell, env.cells.lookup y = some cell ∧ ∃ oc u, s3.heap.get? cell = some oc ∧ oc.data = .cell (some u) ∧ RelV v u := by
    obtain ⟨m, _, hL⟩ := I3.loc
    obtain ⟨u, r, q⟩ := hL j y v hj hv (.inr (.inl hyc))
    rcases q with ⟨q, _⟩ | ⟨_, cell, q1, oc, q2, q3⟩
    · have q : env.scope.names.lookup y = some .local := q
      rw [hyc] at q; cases q
    · exact ⟨cell, q1, oc, u, q2, q3, r⟩
  rw [hclo _ _ hcell] at hf
  -- the base, wider
  have bget := cutH_get s3.heap fun b => (g.base.get? b).isSome || b == f' || b == cell
  generalize hbase : (cutH s3.heap fun b => (g.base.get? b).isSome || b == f' || b == cell) = base' at bget
  have hb' : ∀ b o, g.base.get? b = some o → base'.get? b = some o := fun b o e => by
    rw [bget, if_pos (by rw [e]; rfl)]
    exact I3.bk b o e
  have bF : base'.get? f' = s3.heap.get? f' := by rw [bget, if_pos (by simp)]
  have bC : base'.get? cell = s3.heap.get? cell := by rw [bget, if_pos (by simp)]
  have lo : LiveOk (gC g base' fun n => if n = k then { live := true, fa := f', ca := c', cell := cell, y := y, pm := pm, ct := ct, d := d, v := v } else {}) k := by
    refine ⟨?_, ?_, fun w => ?_⟩
    · simp only [if_true, hl]
      rw [bF]; exact hf
    · simp only [if_true]
      exact ⟨oc, u, bC.trans hoc, hocd, ru⟩
    · simp only [if_true]
      exact scal_rep hs rv _ _
  obtain ⟨fa', fd, ps, dvs, ds0, Fk, hm', kp', bnd, hdv, hr'⟩ := DB base' { live := true, fa := f', ca := c', cell := cell, y := y, pm := pm, ct := ct, d := d, v := v } hb' rfl rfl lo
  have hm' : g.mg x = some (.ref fa') := hm'
  rw [hm] at hm'
  cases hm'
  have dv0 : dvs = [] := by
    have z := hr' w
    simpa only [Reps] using z
  subst dv0
  cases hdv
  have e0 := I3.env0
  have frN : ∀ L ∈ frs stack, base'.get? L = Option.none := fun L hL => by
    obtain ⟨n1, o, ho, hdat⟩ := e0.funs.mem hL
    rw [bget]
    have nF : L ≠ f' := fun z => hfr (z ▸ hL)
    have nC : L ≠ cell := fun z => by
      subst z
      rcases List.mem_cons.mp (I3.stkSub _ hL) with z | z
      · exact I3.cne y L hcell z
      · obtain ⟨_, o', ho', _⟩ := I3.ok.funs.mem z
        exact absurd (Nat.lt_of_lt_of_le (Heap.lt_size ho') (I3.ok.cab y L hfn hcell)) (Nat.lt_irrefl _)
    rw [if_neg]
    simp [n1, nF, nC]
  have bs' : ∀ b o, base'.get? b = some o → s3.heap.get? b = some o ∧ H3 b = Option.none := fun b o e => by
    rw [bget] at e
    split at e
    · rename_i hp
      refine ⟨e, ?_⟩
      simp only [Bool.or_eq_true, beq_iff_eq] at hp
      rcases hp with (hp | rfl) | rfl
      · obtain ⟨o', e'⟩ := Option.isSome_iff_exists.mp hp
        exact (I3.bs b o' e').2
      · exact nf
      · exact I3.freeC y b hcell
    · cases e
  have bz' : base'.objs.size ≤ s3.heap.objs.size := by rw [← hbase, cutH_size]; exact Nat.le_refl _
  have blt' : ∃ mb, base'.Ns builtinsNs mb ∧ ∀ x : Str, x ≠ "__name__" → mb x = bootBuiltins x := by
    obtain ⟨mb, q1, q2⟩ := e0.mod.blt
    exact ⟨mb, q1.keeps hb', q2⟩
  have e0' : Env0 g.prog g.w g.K g.mg base' A stack s3 H3 := ⟨e0.frames, ⟨e0.mod.kin.keeps hb', e0.mod.glob.keeps hb', blt', e0.mod.nolimit.keeps hb'⟩, bs', bz', funFrames_none e0.funs frN, e0.frf, e0.hok, e0.bare⟩
  -- the world, with the code object
  let w3 : Wd := { w2 with P := upd w2.P c' (LamX.CodeO c' (env.qual ++ "<lambda>")) }
  have old : ∀ b u, w2.P b = some u → H3 b = some u := fun b u e => eN b u (t2.rb.sub b u e) fun ps z => t2.rb.nt b ps (z ▸ e)
  have le3 : Le w2 w3 := ⟨fun b u e => by
    show upd w2.P c' _ b = some u
    by_cases hb : b = c'
    · subst hb
      have z := old b u e
      rw [hco] at z
      rw [upd_same]; exact z
    · rw [upd_ne hb]; exact e, fun _ _ h => h⟩
  have sb3 : Same w3.P H3 := fun b u e => by
    have e : upd w2.P c' _ b = some u := e
    by_cases hb : b = c'
    · subst hb; rw [upd_same] at e; rw [← e]; exact hco
    · rw [upd_ne hb] at e; exact old b u e
  have ioN : ∀ {n : Nat} {q : Addr}, w2.io n = some q → q ≠ c' := fun {n q} e => by
    obtain ⟨bb, hb⟩ : ∃ b, B2[n]? = some b := ⟨_, List.getElem?_eq_getElem (t2.rb.dom n q e)⟩
    obtain ⟨a', o, q1, q2, q3⟩ := t2.rb.get n bb hb
    rw [e] at q1; cases q1
    intro z
    have yy := eN q o q2 q3.nt.t
    rw [z, hco] at yy; cases yy
    exact q3.nt.c _ _ rfl
  have rb3 : RB g w3 B2 H3 := ⟨sb3, fun n q e => by
    obtain ⟨a, o, q1, q2, q3⟩ := t2.rb.get n q e
    exact ⟨a, o, q1, eN a o q2 q3.nt.t, q3.mono le3⟩, t2.rb.inj, fun n q e => by
      show upd w2.P c' _ q = Option.none
      rw [upd_ne (ioN e)]
      exact t2.rb.np n q e, t2.rb.dom, T3, fun b ps e => by
      have e : upd w2.P c' _ b = some (.tbl ps) := e
      by_cases hb : b = c'
      · subst hb; rw [upd_same] at e; exact LamX.codeO_ne ps (Option.some.inj e)
      · rw [upd_ne hb] at e; exact t2.rb.nt b ps e⟩
  have x3 : Ext w2 H2 w3 H3 := ⟨le3, fun b o e _ ht => eN b o e ht, fun b o e => by
    have e : upd w2.P c' _ b = some o := e
    by_cases hb : b = c'
    · subst hb; rw [upd_same] at e; cases e; exact .inr (.inr (.inl ⟨_, rfl⟩))
    · rw [upd_ne hb] at e; exact .inl e, fun _ _ h => .inl h, tr, rfl⟩
  have p3 := PostE.ext x3 p2
  have sp : spF (gC g base' fun n => if n = k then { live := true, fa := f', ca := c', cell := cell, y := y, pm := pm, ct := ct, d := d, v := v } else {}) (f (F d)) [va, vb, .ref f'] H3 Q E := by
    refine ⟨w3, [da, db, .fnT k], B2, rb3.toC hB, ?_, ?_⟩
    · simp only [Reps]
      refine ⟨_, _, rfl, (Rep.gC da va hna).mpr (Rep.mono (x2.le.trans le3) _ _ r1), _, _, rfl, (Rep.gC db vb hnb).mpr (Rep.mono le3 _ _ r2), _, _, rfl, ?_, rfl⟩
      simp only [Rep, if_true, hl]
      exact .inl ⟨trivial, trivial, upd_same⟩
    · revert p3
      generalize f (F d) [da, db, .fnT k] B2 = r
      intro p3
      cases r with
      | ok d' B' =>
        rw [show chkF (.ok d' B') = if noF d' && B'.all noF then .ok d' B' else .bad from rfl] at p3
        by_cases hc2 : (noF d' && B'.all noF) = true
        · rw [if_pos hc2] at p3
          simp only [Bool.and_eq_true] at hc2
          exact fun w' v' H' xx rr r' => p3 w' v' H' xx (rr.ofC hc2.2) ((Rep.gC d' v' hc2.1).mp r')
        · rw [if_neg hc2] at p3
          exact p3.elim
      | exc cc xx B' =>
        cases xx with
        | some _ => exact p3.elim
        | none =>
          rw [show chkF (.exc cc Option.none B') = if B'.all noF then .exc cc Option.none B' else .bad from rfl] at p3
          by_cases hc2 : B'.all noF = true
          · rw [if_pos hc2] at p3
            exact fun w' cls dd H' xx rr r' => p3 w' cls dd H' xx (rr.ofC hc2) r'
          · rw [if_neg hc2] at p3
            exact p3.elim
      | bad => exact p3.elim
  have vals : Vals [va, vb, .ref f'] [ua, ub, .ref f'] := .cons ra (.cons rb (.cons rfl .nil))
  have hlen : ([ua, ub, .ref f'] ++ ([] : List Value)).length = ps.length := by
    rw [← Fk.len _ _ _ _ sp]; rfl
  refine wpAny_call (codeAny_mono (Fk.run A stack s3 H3 ⟨[ua, ub, .ref f'], []⟩ [ua, ub, .ref f'] _ Q E (h8.mono hk) e0' (bnd s3 [ua, ub, .ref f'] I3.kIn hlen) vals sp) fun r s' hq => ?_)
  cases r with
  | error e => exact h9 pins σ H3 s3 e s' I3 hq
  | ok fl =>
    cases fl with
    | ret u => exact I3.after hq
    | next => exact False.elim hq
    | brk => exact False.elim hq
    | cont => exact False.elim hq
end
end Hf

set_option Elab.async false
set_option linter.all false
set_option maxRecDepth 100000
set_option maxHeartbeats 4000000
namespace Hf
open PySem PySem.Spec PyProof.Rows L2
/-! ### zip of three -/
section
variable {X : Cx} {e e2 e3 : Expr} {ta tb tc : TE} {p pos tpos : Pos} {elts : List Expr} {kk : Nat}
end
section
variable {g : Gs} {E : XK} {H0 : Hp} {w : Wd} {X : Cx} {a b c : Expr} {ma mb mc : Ev} {p pos tpos : Pos} {elts : List Expr} {kk : Nat}
end
/-! ### where the lambdas of a text stand (more) -/
def whileB : Stmt → List Stmt
  | .While _ b _ _ => b
  | _ => []
theorem clo_one {cells : List (Str × Addr)} : ∀ (ns : List (Str × NameKind)) (acc : List (Str × Addr)), cloFrom cells ns acc = ((ns.filter fun p => p.2 == .free).map fun p => (p.1, (cells.lookup p.1).getD 0)).reverse ++ acc
  | [], acc => by simp [cloFrom]
  | (n, k) :: ns, acc => by
    unfold cloFrom
    by_cases h : (k == NameKind.free) = true
    · rw [if_pos h, clo_one ns]
      simp [List.filter_cons, h]
    · rw [if_neg h, clo_one ns]
      simp [List.filter_cons, h]
theorem clo_is {ns : List (Str × NameKind)} {y : Str} (h : (ns.filter fun p => p.2 == .free) = [(y, .free)]) : ∀ (cells : List (Str × Addr)) (c : Addr), cells.lookup y = some c → cloFrom cells ns [] = [(y, c)] := fun cells c hc => by
  rw [clo_one, h]
  simp [hc]
end Hf

set_option Elab.async false
set_option linter.all false
set_option maxRecDepth 100000
namespace Hf
open PySem PySem.Spec PyProof.Rows L2

/-! ### d > e, d >= e of tuples that are alike -/
/-! ### own == and != as tests -/
theorem mCmpT_eq (f : D → D → Bs → Rs D) (ma mb : Ev) (σ : Sl) (B : Bs) : mCmpT f ma mb σ B = toB (mBin f ma mb σ B) := by
  unfold mCmpT mBin toB
  cases ma σ B with
  | ok d B1 =>
    show Rs.bind (mb σ B1) _ = Rs.bind (Rs.bind (mb σ B1) _) _
    cases mb σ B1 <;> rfl
  | _ => rfl
theorem toB_end {g : Gs} {E : XK} {w : Wd} {H : Hp} {σI : Sl} {σ : L2.St} {Q : Bool → Hp → Prop} {m : Rs D} (p : PostT g E w H Q (toB m)) : PostE g E w H σI σ false (fun x H' => ∃ k, x = .bl k ∧ Q k H') m := by
  cases m with
  | ok d B' =>
    cases d with
    | bool b =>
      intro w' v H' x rb r
      simp only [RepB, Rep] at r
      exact ⟨b, r, p w' H' x rb⟩
    | _ => exact p.elim
  | exc c x B => exact p
  | bad => exact p.elim
section
variable {g : Gs} {E : XK} {H0 : Hp} {X : Cx} {a b : Expr} {ma mb : Ev} {pos : Pos} {lv k c : Nat} {f : Fn}
end
end Hf

set_option Elab.async false
set_option linter.all false
set_option maxRecDepth 100000
set_option maxHeartbeats 4000000
namespace Hf
open PySem PySem.Spec PyProof.Rows L2

/-! ### an own exception's __init__: super().__init__('..'); self.f = p -/
end Hf

set_option Elab.async false
set_option linter.all false
set_option maxRecDepth 100000
set_option maxHeartbeats 4000000
namespace Hf
open PySem PySem.Spec PyProof.Rows L2

/-! ### raise C(e), C with an own __init__ that stores e -/
section
variable {g : Gs} {E : XK} {w0 w : Wd} {H0 H : Hp} {X : Cx} {e : Expr} {m : Ev} {pos p pos2 : Pos} {x : Str} {lv c k : Nat}
end
end Hf

set_option Elab.async false
set_option linter.all false
set_option maxRecDepth 100000
set_option maxHeartbeats 4000000
namespace Hf
open PySem PySem.Spec PyProof.Rows L2

/-! ### max(t, default = d) of a tuple of numbers -/
section
variable {g : Gs} {E : XK} {H0 : Hp} {X : Cx} {e de : Expr} {m md : Ev} {pos p kp : Pos} {b1 : Bool}
end
end Hf

set_option Elab.async false
set_option linter.all false
set_option maxRecDepth 100000
set_option maxHeartbeats 4000000
namespace Hf
open PySem PySem.Spec PyProof.Rows L2

/-! ### def m(self, *v) and its calls -/
section
variable {g : Gs} {E : XK} {H0 : Hp} {X : Cx} {o e : Expr} {es : List Expr} {m : Ev} {ms : Evs} {pos apos : Pos} {lv k c : Nat} {f : Fn}
end
end Hf

set_option Elab.async false
set_option linter.all false
set_option maxRecDepth 100000
set_option maxHeartbeats 4000000
namespace Hf
open PySem PySem.Spec PyProof.Rows L2

/-! ### range(a, b, -1) -/
section
variable {g : Gs} {E : XK} {H0 : Hp} {w : Wd} {H : Hp} {X : Cx} {σI : Sl} {σ : L2.St} {B : Bs} {tg a b d : Expr} {ma mb mc : Ev} {p1 pos : Pos} {b1 b2 b3 : Bool}
end
end Hf

set_option Elab.async false
set_option linter.all false
set_option maxRecDepth 100000
set_option maxHeartbeats 4000000
namespace Hf
open PySem PySem.Spec PyProof.Rows L2

/-! ### an __init__ that is called by super: the instance stays the caller's -/
section
variable {g : Gs} {E : XK} {w : Wd} {H : Hp} {Q : VK} {c k : Nat}
end
/-! ### a thing is taken out of the view -/
theorem tabs_del {T : List (Addr × Str)} {H : Hp} {a : Addr} (t : LamX.Tabs T H) (h : ∀ u, H a = some u → Nt u) : LamX.Tabs T (del H a) := fun p hp => by
  obtain ⟨ps, h1, h2, h3⟩ := t p hp
  have na : ∀ b u, H b = some u → ¬ Nt u → b ≠ a := fun b u e n z => n (h u (z ▸ e))
  refine ⟨ps, by rw [del_ne (na _ _ h1 fun z => z.t ps rfl)]; exact h1, h2, fun pos cv hc => ?_⟩
  obtain ⟨c, e1, e2⟩ := h3 pos cv hc
  exact ⟨c, e1, by rw [del_ne (na _ _ e2 fun z => z.c _ _ rfl)]; exact e2⟩
section
variable {g : Gs} {E : XK} {w w1 : Wd} {H H1 H2 : Hp} {B : Bs}
theorem RB.cut {a : Addr} (rb : RB g w B H) (np : w.P a = Option.none) (ni : ∀ n, w.io n ≠ some a) (hn : ∀ u, H a = some u → Nt u) : RB g w B (del H a) where
  sub := fun b u e => by
    rw [del_ne (fun z => by subst z; rw [np] at e; cases e)]; exact rb.sub b u e
  get := fun n b e => by
    obtain ⟨p, o, q1, q2, q3⟩ := rb.get n b e
    exact ⟨p, o, q1, by rw [del_ne (fun z => ni n (by rw [← z]; exact q1))]; exact q2, q3⟩
  inj := rb.inj
  np := rb.np
  dom := rb.dom
  tb := tabs_del rb.tb hn
  nt := rb.nt
/-- what is taken out on both sides -/
theorem Ext.cut {a : Addr} (x : Ext w H w1 H1) : Ext w (del H a) w1 (del H1 a) where
  le := x.le
  keep := fun b o h hn ht => by
    have e : b ≠ a := fun z => by rw [z, del_same] at h; cases h
    rw [del_ne e] at h ⊢
    exact x.keep b o h hn ht
  pf := fun b o h => by
    by_cases e : b = a
    · subst e; exact .inr (.inl del_same)
    · rw [del_ne e]; exact x.pf b o h
  iof := fun n b h => by
    by_cases e : b = a
    · subst e; exact .inr del_same
    · rw [del_ne e]; exact x.iof n b h
  there := fun b h => by
    have e : b ≠ a := fun z => by rw [z, del_same] at h; exact h rfl
    rw [del_ne e] at h ⊢
    exact x.there b h
  me := x.me
end
/-! ### def __init__(self, bridge, limit): need_bridge(bridge); need_limit(limit); super().__init__(bridge); self.limit = limit -/
section
variable {g : Gs} {c k k1 k2 : Nat} {st : Stmt} {qual file : Str} {D0 fI cc fa2 ca x dx : Addr} {fd : FuncData} {f1 f2 fU : Fn}
end
end Hf

set_option Elab.async false
set_option linter.all false
set_option maxRecDepth 100000
set_option maxHeartbeats 4000000
namespace Hf
open PySem PySem.Spec PyProof.Rows L2
/-! ### the end over the head by one run -/
theorem walkQ {l : PySem.W.OpenLaw} {k : Nat} {q : Program} {loose : List Str} {XP : (Str → Option Value) → Heap → Prop} {d : DefRec} {CX : World → CXT} {x : Str} {n : Hq.Stg} {fn : List Hq.DfE} {tp : Hq.Fr → List Addr} {ex : Hq.Fr → Bool}
    (hn : l.most = some 63) (hdf : d.params.defaults = []) (hr : Room k callerA) (hname : d.name = ("law" : Str))
    (F : ∀ (w : World) (mg : Str → Option Value) (fa : Addr) (h : Heap) (K : PySem.W.Frag), K.In h → Hq.SaysE fn tp ex h K → h.Ns mainGlobals mg → mg "law" = some (.ref fa) →
      ∃ (fd : FuncData) (cs : List (Addr × Addr)), (∀ p ∈ cs, h.get? p.2 = some { cls := .none, data := .fields #[] }) ∧ (∀ p ∈ cs, K.lookup p.2 = Option.none) ∧ (∀ p ∈ cs, PySem.W.CodeHd h p.1 p.2) ∧ (∀ (s : Shared) (u : Value), BindsTo s fd ⟨[u], []⟩ [(x, u)]) ∧
        ∀ base : Heap, K.In base → base.Ns mainGlobals mg → (∀ p ∈ cs, LamX.TabB base mg p.1 p.2) → ∃ g : Gs, g.K = K ∧ FnG l.prog w K mg base (CX w) k fa fd [x] (spLT g (cs.map (·.2))))
    (hCX : ∀ (w : World) (H : Hp) (s : Shared) (e : Value) (s' : Shared), CX w [] H s (fun _ _ _ => False) e s' → False) : PySem.W.WalkO q loose XP (Hq.hookF n fn tp ex).says l.row.toRowW d [] (fun f vs => PySem.call f vs) := by
  refine Att.attach_callB hn hdf fun w s₀ s₁ mg mb fa o pm cd doc a vs ns G Y ho hd hcd hmg hobj hints hlen hbits hg => ?_
  obtain ⟨K, KX, c⟩ := Y
  rw [hname] at hmg
  obtain ⟨fd, cs, t1, t2, t3, hb, hF⟩ := F w mg fa _ K KX c G.T.g hmg
  exact law_callT KX G.T.g G.T.b G.T.builtins G.T.nolimit hg t1 t2 t3 G.T.bmain hobj hints hlen hr hF hb fun H e s' => hCX w H s₁ e s'
end Hf

set_option Elab.async false
set_option linter.all false
set_option maxRecDepth 100000
set_option maxHeartbeats 4000000
namespace Hf
open PySem PySem.Spec PyProof.Rows L2
/-! ### an instance of one of several classes -/
section
variable {g : Gs} {E : XK} {H0 : Hp} {X : Cx} {e : Expr} {m : Ev} {M : Nat → Ev} {cs : List Nat} {bo b1 : Bool} {pos : Pos}
end
end Hf
namespace Hf
open PySem PySem.Spec PyProof.Rows L2
end Hf

set_option Elab.async false
set_option linter.all false
set_option maxRecDepth 100000
set_option maxHeartbeats 4000000
namespace Hf
open PySem PySem.Spec PyProof.Rows L2
/-! ### x != y where y's class is a subclass of x's: y is asked first -/
section
variable {prog : Program} {w : World} {A : Around} {E : Value → Shared → Prop} {s : Shared} {K : PySem.W.Frag} {x y C C' f : Addr} {ox oy : Obj} {od od' : Option Obj}
end
section
variable {g : Gs} {w : Wd} {H : Hp} {X : Cx} {pins : List (Addr × Obj)} {σ : L2.St} {s : Shared} {k c c' lv : Nat} {f : Fn} {E : XK}
variable {H0 : Hp} {ma mb : Ev} {a b : Expr} {pos : Pos}
end
end Hf

set_option Elab.async false
set_option linter.all false
set_option maxRecDepth 100000
set_option maxHeartbeats 4000000
namespace Hf
open PySem PySem.Spec PyProof.Rows L2
/-! ### l.count(x), outside an except suite -/
section
variable {g : Gs} {E : XK} {H0 : Hp} {w : Wd} {H : Hp} {X : Cx} {σI : Sl} {σ : L2.St} {B : Bs} {e o : Expr} {mo m : Ev} {apos cpos : Pos} {b1 : Bool} {lv : Nat}
end
end Hf

set_option Elab.async false
set_option linter.all false
set_option maxRecDepth 100000
set_option maxHeartbeats 4000000
namespace Hf
open PySem PySem.Spec PyProof.Rows L2

/-! ### o.m(k = v, ..), some left to their defaults -/
def KwD (K : PySem.W.Frag) (fd : FuncData) (ps ks : List Str) (m : Nat) (pi : List Nat) (ds : List Value) : Prop := ∀ (s : Shared) (us ws : List Value), K.In s.heap → us.length = m → ws.length = ks.length → BindsTo s fd ⟨us, ks.zip ws⟩ (ps.zip (us ++ (permL pi ws ++ ds)))
theorem KwB.d {K : PySem.W.Frag} {fd : FuncData} {ps ks : List Str} {m : Nat} {pi : List Nat} (h : KwB K fd ps ks m pi) : KwD K fd ps ks m pi [] := fun s us ws X l1 l2 => by rw [List.append_nil]; exact h s us ws X l1 l2
section
variable {g : Gs} {E : XK} {w0 w : Wd} {H0 H : Hp} {X : Cx} {o : Expr} {m : Ev} {ms : Evs} {pos apos : Pos} {f : Fn} {lv k c : Nat} {kws : List Keyword} {ks : List Str} {pi : List Nat} {dfl : List D} {Q : VK} {σ : L2.St}
end
/-! ### try: s1; s2; return e / finally: .., where nothing is raised -/
section
variable {g : Gs} {E : XK} {w0 w : Wd} {H0 H : Hp} {X : Cx} {lv : Nat} {S1 S2 f0 : Stmt} {fs : List Stmt} {e : Expr} {rp pos : Pos} {m1 m2 mf : Ms} {me : Ev} {D : Ends}
end
/-! ### where a lambda stands in a def -/
end Hf

set_option Elab.async false
set_option linter.all false
set_option maxRecDepth 100000
set_option maxHeartbeats 4000000
namespace Hf
open PySem PySem.Spec PyProof.Rows L2 PySem.SeqAt
open AutoSeq1 (wpAny_loadPart')
open MeetsSeq MeetsSeq2 MeetsSeq3 SeqRoads2
/-! ### a, b = n.pop() -/
def mPopT (t : Tg) (j : Nat) : Ms := fun σ B => match σ[j]? with
  | some (some (true, .lst ds)) => match ds[ds.length - 1]? with
    | some d => match t d (σ.set j (some (true, .lst ds.dropLast))) with
      | some σ' => .next σ' B
      | Option.none => .bad
    | Option.none => .bad
  | _ => .bad
section
variable {g : Gs} {E : XK} {w0 : Wd} {H0 : Hp} {X : Cx} {pos p2 apos cpos : Pos} {y : Str} {j : Nat} {tg : Expr} {t : Tg} {l : List Nat}
theorem z_popT (hg : SndG g H0 X tg t l) (hj : X.N[j]? = some y := by rfl) (hv : Vis X.env.scope y := by first | exact Or.inl rfl | exact Or.inr (Or.inl rfl) | exact Or.inr (Or.inr rfl)) (hd : (y == ("__debug__" : Str)) = false := by decide) (hcd : (y == ("__classdict__" : Str)) = false := by decide)
    (hbase : attributeBase (.Name y p2) "pop" X.env (eval (.Name y p2) X.env) = eval (.Name y p2) X.env := by rfl) (hline : (apos.endLine == cpos.line) = true := by rfl)
    (hs : swapsWithSole [tg] (.Call (.Attribute (.Name y p2) "pop" apos) [] [] cpos) pos.line X.env = pure false := by rfl) (hw : swappedStores [tg] (.Call (.Attribute (.Name y p2) "pop" apos) [] [] cpos) X.env = pure none := by rfl)
    (h1 : (assignEach [tg] X.env).map (·.2) = [assign tg X.env] := by rfl) :
    SndS g E w0 H0 X (.Assign [tg] (.Call (.Attribute (.Name y p2) "pop" apos) [] [] cpos) pos) (mPopT t j) := by
  refine weakS (ps_asg (pe_bm0 PySem.F.plainAttrs_list PySem.F.slot_list_pop PySem.F.type_list_pop mt_pop (pe_var hj hv hd hcd) hbase hline) hg hs hw h1) ?_
  rintro D σ H ⟨w, σI, B, s, x0, p⟩
  unfold mPopT at p
  split at p
  · rename_i ds hjs
    split at p
    · rename_i d hd'
      split at p
      · rename_i σ' et
        obtain ⟨a, o, e1, ha, c, np, nb, n0⟩ := s.ow j _ hjs
        simp only [Cont] at c
        obtain ⟨vs, rfl, r⟩ := c
        obtain ⟨u, e2, ru⟩ := Reps.get r hd'
        refine ⟨.ref a, e1, tyL ha, a, vs, u, rfl, rfl, ha, by rw [r.len]; exact e2, ?_⟩
        exact ⟨w, d, _, B, σ', s.mut hjs e1 (by simp only [Cont]; exact ⟨_, rfl, r.dropLast⟩) (by intro _ _ z; cases z), ru, et, fun σ2 s2 _ _ => p w σ2 _ (Le.refl _) s2 (x0.mut n0)⟩
      · exact p.elim
    · exact p.elim
  · exact p.elim
end
/-! ### None in [own instances], each of which is unequal to None by running code -/
section
variable {pg : Program} {wd : World} {ar : Around}
theorem loop_hot {Z : Result → Shared → Prop} {l : Addr} {its : Array Value} {x : Value} (J : Shared → Prop)
    (here : ∀ t, J t → ∃ n dd sl, t.heap.get? l = some { cls := .type "list", dict := dd, data := .seq its n, slots := sl })
    (each : ∀ y, y ∈ its → ∀ t, J t → wpAny (model pg wd) ar.in1 (eqBool y x) (fun r t' => r = false ∧ J t') (fun e t' => Z (.error e) t') t)
    (done : ∀ t, J t → Z (.ok (.ret (.bool false))) t) (m : Nat) : ∀ i : Nat, its.size - i = m → ∀ t, J t →
      wpAny (model pg wd) ar.in1 (Builtin.«list.__contains__.loop» ⟨[.ref l, x, rawInt i], []⟩) (GQ.FinOf pg wd ar Z) (fun e t' => Z (.error e) t') t := by
  induction m with
  | zero =>
    intro i hm t hJ
    obtain ⟨n, dd, sl, at_l⟩ := here t hJ
    have hZ := done t hJ
    obtain ⟨hp, g, d, tk, os⟩ := t
    wp_walk using wpAny_loadPart' at_l
    have gone : its[((i : Nat) : Int).toNat]? = none := by simp; omega
    rw [gone]
    wp_walk
    exact hZ
  | succ m ih =>
    intro i hm t hJ
    obtain ⟨n, dd, sl, at_l⟩ := here t hJ
    have lt : i < its.size := by omega
    have one := each _ (Array.getElem_mem lt) t hJ
    obtain ⟨hp, g, d, tk, os⟩ := t
    wp_walk using wpAny_loadPart' at_l
    have is : its[((i : Nat) : Int).toNat]? = some its[i] := by simp [lt]
    rw [is]
    refine wpAny_bind (wpAny_mono one (fun r t2 z => ?_) fun _ _ z => z)
    obtain ⟨rfl, J2⟩ := z
    have nxt := ih (i + 1) (by omega) t2 J2
    obtain ⟨hp2, g2, d2, tk2, os2⟩ := t2
    wp_walk
    rw [show ((i : Int) + 1) = ((i + 1 : Nat) : Int) from by omega]
    refine ⟨plainId_quiet plain_contains_loop _, codeAny_builtin entry_contains_loop ?_⟩
    rw [Around.under_plainId plain_contains_loop _]
    exact nxt
theorem in_hot {E : Value → Shared → Prop} {t : Shared} {l : Addr} {its : Array Value} {x : Value} {Q : Value → Shared → Prop} (J : Shared → Prop)
    (here : ∀ t, J t → ∃ n dd sl, t.heap.get? l = some { cls := .type "list", dict := dd, data := .seq its n, slots := sl })
    (each : ∀ y, y ∈ its → ∀ t, J t → wpAny (model pg wd) ar.in1 (eqBool y x) (fun r t' => r = false ∧ J t') E t)
    (done : ∀ t, J t → Q (.bool false) t) (h : J t) : wpAny (model pg wd) ar (compareOp .In x (.ref l)) Q E t := by
  obtain ⟨n, dd, sl, at_l⟩ := here t h
  have hT : t.TypeIs (.ref l) "list" := ⟨_, at_l, rfl⟩
  show wpAny _ ar (do return .bool (← contains (.ref l) x)) Q E t
  refine wpAny_bind (wpAny_contains_slot hT F.slot_list_contains (wpAny_mono (GQ.call_here (Q := fun v s' => ∃ b, v = .bool b ∧ Q (.bool b) s') F.slot_list_contains hT F.entry_list_contains (F.args_list_contains_2 _ _) ?_) (fun v s' hv => ?_) fun _ _ e => e))
  · have turns := loop_hot (Z := wants (fun v s' => ∃ b, v = .bool b ∧ Q (.bool b) s') E) J here each (fun t' J' => ⟨false, rfl, done t' J'⟩) _ 0 rfl t h
    obtain ⟨hp, g, d, tk, os⟩ := t
    wp_walk using wpAny_loadPart' at_l
    refine ⟨plainId_quiet plain_contains_loop _, codeAny_builtin entry_contains_loop ?_⟩
    rw [Around.under_plainId plain_contains_loop _]
    exact turns
  · obtain ⟨b, rfl, hq⟩ := hv
    exact wpAny_truthy_bool (wpAny_pure hq)
theorem eqBool_non {E : Value → Shared → Prop} {t : Shared} {l : Addr} {Q : Bool → Shared → Prop} (h : wpAny (model pg wd) ar (richCompare .Eq (.ref l) .none) (fun v s' => ∃ r, v = .bool r ∧ Q r s') E t) : wpAny (model pg wd) ar (eqBool (.ref l) .none) Q E t := by
  unfold eqBool
  refine wpAny_holding (wpAny_ite_split (fun z => ?_) fun _ => ?_)
  · exact absurd (eq_of_beq z) (fun h => by cases h)
  · refine wpAny_bind (wpAny_mono h (fun v s' hv => ?_) fun _ _ z => z)
    obtain ⟨r, rfl, q⟩ := hv
    exact wpAny_truthy_bool q
end
/-- all are own instances of class c -/
def insL (c : Nat) : List D → Bool
  | [] => true
  | .inst c' _ :: ds => c' == c && insL c ds
  | _ :: _ => false
theorem insL_mem {c : Nat} : ∀ {ds : List D}, insL c ds = true → ∀ d ∈ ds, ∃ es, d = .inst c es
  | [], _, d, h => by cases h
  | x :: ds, h, d, hd => by
    cases x <;> simp only [insL, Bool.false_eq_true, Bool.and_eq_true, beq_iff_eq] at h
    obtain ⟨rfl, h⟩ := h
    rcases List.mem_cons.mp hd with rfl | hd
    · exact ⟨_, rfl⟩
    · exact insL_mem h d hd
theorem reps_mem {g : Gs} {w : Wd} : ∀ {ds : List D} {vs : List V}, Reps g w ds vs → ∀ v ∈ vs, ∃ d ∈ ds, Rep g w d v
  | [], vs, h, v, hv => by simp only [Reps] at h; subst h; cases hv
  | d :: ds, vs, h, v, hv => by
    simp only [Reps] at h
    obtain ⟨u, us, rfl, r, rs⟩ := h
    rcases List.mem_cons.mp hv with rfl | hv
    · exact ⟨d, List.mem_cons_self, r⟩
    · obtain ⟨d', h1, h2⟩ := reps_mem rs v hv
      exact ⟨d', List.mem_cons_of_mem _ h1, h2⟩
theorem vals_same : ∀ {vs : List V} {us us' : List Value}, (∀ v ∈ vs, ∃ a, v = .ref a) → Vals vs us → Vals vs us' → us = us'
  | [], _, _, _, .nil, .nil => rfl
  | v :: vs, _, _, h, .cons r rs, .cons r' rs' => by
    obtain ⟨a, rfl⟩ := h v List.mem_cons_self
    cases r
    cases r'
    rw [vals_same (fun u hu => h u (List.mem_cons_of_mem _ hu)) rs rs']
theorem vals_mem : ∀ {vs : List V} {us : List Value}, Vals vs us → ∀ u ∈ us, ∃ v ∈ vs, RelV v u
  | _, _, .cons r rs, u, h => by
    rcases List.mem_cons.mp h with rfl | h
    · exact ⟨_, List.mem_cons_self, r⟩
    · obtain ⟨v, h1, h2⟩ := vals_mem rs u h
      exact ⟨v, List.mem_cons_of_mem _ h1, h2⟩
section
variable {g : Gs} {H0 : Hp} {X : Cx} {k c lv : Nat} {f : Fn} {E : XK}
def rInN (g : Gs) (c : Nat) : R2 := fun x y H Q => ∃ l ds w B, x = .non ∧ y = .ref l ∧ RB g w B H ∧ Rep g w (.lst ds) (.ref l) ∧ insL c ds = true ∧ (∀ w' H', Ext w H w' H' → RB g w' B H' → Q (.bl false) H')
theorem op_inN (ok : OkC g E lv X) (N : EqN g k c f) (hk : k + 1 ≤ lv) (hf : ∀ es B, f [.inst c es, .none] B = .ok (.bool false) B) : OpR X (compareOp .In) (rInN g c) := by
  intro pins s σ H x y v u Q I rx ry h
  obtain ⟨l, ds, w, B, rfl, rfl, rb, hr, hd, q⟩ := h
  cases rx
  cases ry
  have hr' := hr
  simp only [Rep] at hr'
  obtain ⟨_, vs, e, hp, rr⟩ := hr'
  cases e
  have allref : ∀ v ∈ vs, ∃ a, v = .ref a := fun v hv => by
    obtain ⟨d, h1, h2⟩ := reps_mem rr v hv
    obtain ⟨es, rfl⟩ := insL_mem hd d h1
    simp only [Rep] at h2
    obtain ⟨a, _, _, rfl, _⟩ := h2
    exact ⟨a, rfl⟩
  have hK : X.K = g.K := ok.K
  obtain ⟨its, rv, _, _⟩ := I.list (hK ▸ (.inl (.inl (rb.sub _ _ hp)) : SqL g.K H l vs))
  have ty := fun (H' : Hp) (s' : Shared) (I' : Inv X pins σ H' s') (w' : Wd) (hs : Same w'.P H') (d : D) (v : V) (u : Value) (h1 : tyB c d = true) (h2 : Rep g w' d v) (h3 : RelV v u) => Rep.ty I' hK hs N d v u h1 h2 h3
  obtain ⟨fa, F, hff, hfn, hfi, hc⟩ := N.d
  obtain ⟨prog, w', K, mg, base, A, N', s_0, H_0, env, outer, stack, ex, fn, calm, pn, xe⟩ := X
  obtain ⟨⟨h1, h2, h3, h4, h5, h6, h7, hfx⟩, h8, h9⟩ := ok
  simp only at h1 h2 h4 h5 h6 h7
  subst h1 h2 h5 h6 h7
  have hr2 := (h8.mono hk).in1
  have hu : A.in1.units < cLine := by have z : A.units + 100 < cLine := h4; simp only [Around.in1]; omega
  refine in_hot (its := its.toArray) (fun t => ∃ w' H', Inv ⟨g.prog, g.w, g.K, g.mg, g.base, A, N', s_0, H_0, env, outer, stack, ex, fn, calm, pn, xe⟩ pins σ H' t ∧ Ext w H w' H' ∧ RB g w' B H') (fun t J => ?_) (fun y hy t J => ?_) (fun t J => ?_) ⟨w, H, I, Ext.refl _ _, rb⟩
  · obtain ⟨w2, H2, I2, x2, rb2⟩ := J
    obtain ⟨its2, rv2, ⟨o, n, ho, hcl, _, hdd⟩, _⟩ := I2.list (.inl (.inl (rb2.sub _ _ (x2.le.P _ _ hp))) : SqL g.K H2 l vs)
    obtain rfl := vals_same allref rv rv2
    obtain ⟨c1, d1, da, sl⟩ := o
    simp only at hcl hdd
    subst hcl hdd
    exact ⟨_, _, _, ho⟩
  · obtain ⟨w2, H2, I2, x2, rb2⟩ := J
    obtain ⟨v, hv, rvv⟩ := vals_mem rv y (by simpa using hy)
    obtain ⟨d, h1, h2⟩ := reps_mem rr v hv
    obtain ⟨es, rfl⟩ := insL_mem hd d h1
    have h2' := Rep.mono x2.le _ _ h2
    have h2'' := h2'
    simp only [Rep] at h2''
    obtain ⟨a, dx, fs, rfl, hi, _, _, _⟩ := h2''
    cases rvv
    obtain ⟨tb, lk, nf⟩ := ty H2 t I2 w2 rb2.sub .none .non .none rfl (by simp only [Rep]) rfl
    obtain ⟨od, J⟩ := inst_at I2 (rb2.sub _ _ hi)
    obtain ⟨mf, Fm⟩ := I2.fr
    refine eqBool_non ?_
    refine PySem.W.cmp_K (op := .Eq) (tb := tb) hu Fm I2.ok.mod.kin J lk nf hff hfn (wpAny_mono (run_nox (E' := _) (us := [.ref a, .none]) (vs := [.ref a, .non]) (Q := fun r H' => r = .bl false ∧ ∃ w', Ext w H w' H' ∧ RB g w' B H') F hr2 I2.env0.in1 I2 (.cons rfl (.cons rfl .nil)) ⟨w2, [.inst c es, .none], B, rb2, by simp only [Reps]; exact ⟨_, _, rfl, h2', _, _, rfl, by simp only [Rep], rfl⟩, ?_⟩) (fun r s1 hr => ?_) fun _ _ z => z)
    · rw [hf]
      intro w3 v3 H3 x3 rb3 r3
      simp only [Rep] at r3
      exact ⟨r3, w3, x2.trans x3, rb3⟩
    · obtain ⟨z, H3, I3, rz, rfl, w3, x3, rb3⟩ := hr
      obtain rfl : r = .bool false := rz
      exact ⟨false, rfl, rfl, w3, H3, I3, x3, rb3⟩
  · obtain ⟨w2, H2, I2, x2, rb2⟩ := J
    exact ⟨.bl false, H2, I2, rfl, q w2 H2 x2 rb2⟩
/-- x in a list; None in own instances -/
def fInN (c : Nat) (dflt : D → D → Bs → Rs D) : D → D → Bs → Rs D := fun d e B => match d, e with
  | .none, .lst ds => if insL c ds = true then .ok (.bool false) B else dflt d e B
  | _, _ => dflt d e B
theorem osn_inN {r2 : R2} {dflt : D → D → Bs → Rs D} (h : OpSemN g E H0 r2 dflt) : OpSemN g E H0 (fun x y H Q => rInN g c x y H Q ∨ r2 x y H Q) (fInN c dflt) := by
  intro w σI B σ H Q x y dx dy s rx ry p
  unfold fInN at p
  split at p
  · rename_i ds
    split at p
    · rename_i hc
      simp only [Rep] at rx
      subst rx
      have ry' := ry
      simp only [Rep] at ry'
      obtain ⟨l, vs, rfl, _⟩ := ry'
      exact .inl ⟨l, ds, w, B, rfl, rfl, s.rb, ry, hc, fun w' H' x rb => p w' (.bl false) H' x rb (rep_bool g w' _)⟩
    · exact .inr (h w σI B σ H Q x y _ _ s rx ry p)
  · exact .inr (h w σI B σ H Q x y dx dy s rx ry p)
variable {ma mb : Ev} {a b : Expr} {pos : Pos}
theorem t_inN (ok : OkC g E lv X) (N : EqN g k c f) (hk : k + 1 ≤ lv) (hf : ∀ es B, f [.inst c es, .none] B = .ok (.bool false) B) (ha : Snd g E H0 X false a ma) (hb : Snd g E H0 X false b mb) (hm : behindInMarks .In b = false := by rfl) : SndT g E H0 X (.Compare a [.In] [b] pos) (mCmpT (fInN c fIn) ma mb) := by
  refine weakT (pt_cmpR ((op_inN ok N hk hf).or (ok.K ▸ ((op_inD (by have := ok.un; omega)).or (op_inT (by have := ok.un; omega))))) ha hb hm) ?_
  rintro σ H Q ⟨w, σI, B, s, p⟩
  rw [mCmpT_eq] at p
  exact osn_go (osn_inN (osn_of os_in)) ha hb σ H _ ⟨w, σI, B, s, toB_end p⟩
end
end Hf

set_option Elab.async false
set_option linter.all false
set_option maxRecDepth 100000
set_option maxHeartbeats 4000000
namespace Hk
open PySem PySem.Spec PyProof.Rows L2 Hf
theorem nbg {g : Gs} {X : Cx} (ok : Ok g X) (x : String) (h : x ∈ ["len", "range", "isinstance", "tuple", "list", "all", "any", "max", "min", "set", "sorted", "enumerate", "zip", "repr", "str", "int", "sum", "dict", "bool"] := by decide) : g.mg (Str.ofString x) = Option.none := ok.fx.nb x h
/-! ### place_of -/
abbrev n_place_of : List Str := ["word", "other", "place", "bit"]
def m_place_of : Ms := (mRet (mBin fIx (mLc [2, 3] (gT (gsC (gN 2) (gsC (gN 3) gs0))) (mEnum (mVar 0)) (mCmpT fNe (mVar 3) (mBin fIx (mVar 1) (mVar 2))) (mVar 2)) (mC (.int 0))))
def f_place_of : Fn := mkFn 2 4 m_place_of
theorem b_place_of {g : Gs}  : ∀ (E : XK) (w0 : Wd) (H0 : Hp) (X : Cx), OkC g E 0 X → PassesOwn (model X.prog X.w) X.A X.env X.xe → L2N.Takes X (fun cls d _ H => E cls d H) → X.N = n_place_of → X.env.scope = defScope (t_place_of) → X.fn = (fun _ => true) → SndB g E w0 H0 X (defBody (t_place_of)) m_place_of := by
  intro E w0 H0 X c po tk hN hs hf
  obtain ⟨prog, w', K, mg, base, A, N, s_0, H_0, ⟨e1, e2, e3, e4, e5, e6, e7, e8, e9⟩, outer, stack, ex, fn, calm, pn, xe⟩ := X
  simp only at hN hs hf
  subst hN hs hf
  have nd : (n_place_of).Nodup := by decide +kernel
  exact (b_one (z_ret (s_ix c.toOk (f_val (f_lc (own := [("place", 2), ("bit", 3)]) c.toOk nd (i_enum c.toOk (s_var (i := 0))) (by first | exact L2.blkOk_by (by decide +kernel) | exact L2.blkOk_by (by kernel_rfl)) (by decide) (fun _ _ _ _ _ => (fun (cb : OkC g E0 0 _) => (g_tup cb.toOk (gs_cons (g_name (i := 2) nd) (gs_cons (g_name (i := 3) nd) gs_nil)) (n_cons (n_cons n_nil)))) (c.blk _ _ _ _ _)) (fun _ _ _ _ _ => (fun (cb : OkC g E0 0 _) => (ts_one (t_cmp (c_ne cb.toOk) (s_var (i := 3)) (s_ix cb.toOk (s_var (i := 1)) (s_var (i := 2)))))) (c.blk _ _ _ _ _)) (fun _ _ _ _ _ => (s_var (i := 2))))) s_int)))
/-! ### most_changes -/
abbrev n_most_changes : List Str := ["words", "found", "word", "later", "place"]
def m_most_changes : Ms := (mSeq (mSetO 1 (mBin fMulL (mLst (mCons (mC (.int 0)) mNil)) (m1 fLen (mBin fIx (mVar 0) (mC (.int 0))))))
  (mSeq (mFor (gT (gsC (gN 2) (gsC (gN 3) gs0))) (mZip2 (mVar 0) (mSl10 (mVar 0) (mC (.int 1)))) (mSeq (mSet 4 (mCall f_place_of [] (mCons (mVar 2) (mCons (mVar 3) mNil))))
  (mSetOwn 1 (mVar 4) (mBin fAdd (mBin fIx (mBor 1) (mVar 4)) (mC (.int 1))))))
  (mRet (m1 fMax1 (mBor 1)))))
def f_most_changes : Fn := mkFn 1 5 m_most_changes
theorem b_most_changes {g : Gs}  (d_place_of : Def g 1 "place_of" [] f_place_of) : ∀ (E : XK) (w0 : Wd) (H0 : Hp) (X : Cx), OkC g E 1 X → PassesOwn (model X.prog X.w) X.A X.env X.xe → L2N.Takes X (fun cls d _ H => E cls d H) → X.N = n_most_changes → X.env.scope = defScope (t_most_changes) → X.fn = (fun _ => true) → SndB g E w0 H0 X (defBody (t_most_changes)) m_most_changes := by
  intro E w0 H0 X c po tk hN hs hf
  obtain ⟨prog, w', K, mg, base, A, N, s_0, H_0, ⟨e1, e2, e3, e4, e5, e6, e7, e8, e9⟩, outer, stack, ex, fn, calm, pn, xe⟩ := X
  simp only at hN hs hf
  subst hN hs hf
  have nd : (n_most_changes).Nodup := by decide +kernel
  exact (b_cons (z_setO (i := 1) nd (f_mul (f_val (f_lst (a_cons s_int a_nil))) (q_len c.toOk (s_ix c.toOk (s_var (i := 0)) s_int))))
  (b_cons (z_for c.toOk po (i_zip2 c.toOk (s_var (i := 0)) (s_sl10 c.toOk (s_var (i := 0)) s_int)) (g_tup c.toOk (gs_cons (g_name (i := 2) nd) (gs_cons (g_name (i := 3) nd) gs_nil)) (n_cons (n_cons n_nil))) (b_cons (z_set (i := 4) nd (s_call c d_place_of (by decide) (a_cons (s_var (i := 2)) (a_cons (s_var (i := 3)) a_nil))))
  (b_one (z_setOwn (i := 1) (s_add c.toOk (s_ix c.toOk (s_bor (i := 1)) (s_var (i := 4))) s_int) (s_var (i := 4))))))
  (b_one (z_ret (q_max1 c.toOk (s_bor (i := 1)))))))
/-! ### is_even -/
abbrev n_is_even : List Str := ["words", "whole", "most"]
def m_is_even : Ms := (mRet (mBin fLe (mCall f_most_changes [] (mCons (mIte (mT (mVar 1)) (mLst (mStar (mVar 0) (mCons (mBin fIx (mVar 0) (mC (.int 0))) mNil))) (mVar 0)) mNil)) (mVar 2)))
def f_is_even : Fn := mkFn 3 3 m_is_even
theorem b_is_even {g : Gs}  (d_most_changes : Def g 2 "most_changes" [] f_most_changes) : ∀ (E : XK) (w0 : Wd) (H0 : Hp) (X : Cx), OkC g E 2 X → PassesOwn (model X.prog X.w) X.A X.env X.xe → L2N.Takes X (fun cls d _ H => E cls d H) → X.N = n_is_even → X.env.scope = defScope (t_is_even) → X.fn = (fun _ => true) → SndB g E w0 H0 X (defBody (t_is_even)) m_is_even := by
  intro E w0 H0 X c po tk hN hs hf
  obtain ⟨prog, w', K, mg, base, A, N, s_0, H_0, ⟨e1, e2, e3, e4, e5, e6, e7, e8, e9⟩, outer, stack, ex, fn, calm, pn, xe⟩ := X
  simp only at hN hs hf
  subst hN hs hf
  have nd : (n_is_even).Nodup := by decide +kernel
  exact (b_one (z_ret (s_cmp c_le (s_call c d_most_changes (by decide) (a_cons (s_ite (t_val c.toOk (s_var (i := 1))) (f_val (f_lst (a_star c.toOk (s_var (i := 0)) (a_cons (s_ix c.toOk (s_var (i := 0)) s_int) a_nil)))) (s_var (i := 0))) a_nil)) (s_var (i := 2)))))
/-! ### _law_pen -/
abbrev n__law_pen : List Str := ["_law_cell"]
def m__law_pen : Ms := (mRet (mBox (mLst (mCons (mBin fMax2 (mC (.int 0)) (mBin fSub (mVar 0) (mBin fPow (mC (.int 10)) (mC (.int 18))))) (mCons (mBin fAdd (mBin fMod (mVar 0) (mC (.int 2147483629))) (mC (.int 1))) (mCons (mC (.int 0)) mNil))))))
def f__law_pen : Fn := mkFn 1 1 m__law_pen
theorem b__law_pen {g : Gs}  : ∀ (E : XK) (w0 : Wd) (H0 : Hp) (X : Cx), OkC g E 0 X → PassesOwn (model X.prog X.w) X.A X.env X.xe → L2N.Takes X (fun cls d _ H => E cls d H) → X.N = n__law_pen → X.env.scope = defScope (t__law_pen) → X.fn = (fun _ => true) → SndB g E w0 H0 X (defBody (t__law_pen)) m__law_pen := by
  intro E w0 H0 X c po tk hN hs hf
  obtain ⟨prog, w', K, mg, base, A, N, s_0, H_0, ⟨e1, e2, e3, e4, e5, e6, e7, e8, e9⟩, outer, stack, ex, fn, calm, pn, xe⟩ := X
  simp only at hN hs hf
  subst hN hs hf
  have nd : (n__law_pen).Nodup := by decide +kernel
  exact (b_one (z_ret (s_box (f_lst (a_cons (q_max2 c.toOk s_int (s_sub (s_var (i := 0)) (s_pow s_int s_int))) (a_cons (s_add c.toOk (s_mod (s_var (i := 0)) s_int) s_int) (a_cons s_int a_nil)))))))
/-! ### _law_cell_at -/
abbrev n__law_cell_at : List Str := ["_law_script", "_law_k"]
def m__law_cell_at : Ms := (mSeq (mIf (mCmpT fLt (mVar 1) (m1 fLen (mVar 0))) (mRet (mBin fIx (mVar 0) (mVar 1))) mSkip)
  (mRet (mC (.int 0))))
def f__law_cell_at : Fn := mkFn 2 2 m__law_cell_at
theorem b__law_cell_at {g : Gs}  : ∀ (E : XK) (w0 : Wd) (H0 : Hp) (X : Cx), OkC g E 0 X → PassesOwn (model X.prog X.w) X.A X.env X.xe → L2N.Takes X (fun cls d _ H => E cls d H) → X.N = n__law_cell_at → X.env.scope = defScope (t__law_cell_at) → X.fn = (fun _ => true) → SndB g E w0 H0 X (defBody (t__law_cell_at)) m__law_cell_at := by
  intro E w0 H0 X c po tk hN hs hf
  obtain ⟨prog, w', K, mg, base, A, N, s_0, H_0, ⟨e1, e2, e3, e4, e5, e6, e7, e8, e9⟩, outer, stack, ex, fn, calm, pn, xe⟩ := X
  simp only at hN hs hf
  subst hN hs hf
  have nd : (n__law_cell_at).Nodup := by decide +kernel
  exact (b_cons (z_if (t_cmp c_lt (s_var (i := 1)) (q_len c.toOk (s_var (i := 0)))) (b_one (z_ret (s_ix c.toOk (s_var (i := 0)) (s_var (i := 1))))) b_nil)
  (b_one (z_ret s_int)))
/-! ### _law_near -/
abbrev n__law_near : List Str := ["_law_row", "_law_at"]
def m__law_near : Ms := (mRet (m1 fSrtR (mLc [1] (gN 1) (mRng1 (m1 fLen (mVar 0))) mYes (mBin fAdd (mBin fAdd (mSl01 (mVar 0) (mVar 1)) (mTup (mCons (mBin fSub (mC (.int 1)) (mBin fIx (mVar 0) (mVar 1))) mNil))) (mSl10 (mVar 0) (mBin fAdd (mVar 1) (mC (.int 1))))))))
def f__law_near : Fn := mkFn 1 2 m__law_near
theorem b__law_near {g : Gs}  : ∀ (E : XK) (w0 : Wd) (H0 : Hp) (X : Cx), OkC g E 0 X → PassesOwn (model X.prog X.w) X.A X.env X.xe → L2N.Takes X (fun cls d _ H => E cls d H) → X.N = n__law_near → X.env.scope = defScope (t__law_near) → X.fn = (fun _ => true) → SndB g E w0 H0 X (defBody (t__law_near)) m__law_near := by
  intro E w0 H0 X c po tk hN hs hf
  obtain ⟨prog, w', K, mg, base, A, N, s_0, H_0, ⟨e1, e2, e3, e4, e5, e6, e7, e8, e9⟩, outer, stack, ex, fn, calm, pn, xe⟩ := X
  simp only at hN hs hf
  subst hN hs hf
  have nd : (n__law_near).Nodup := by decide +kernel
  exact (b_one (z_ret (f_val (q_sortedR c.toOk (f_val (f_lc (own := [("_law_at", 1)]) c.toOk nd (i_rng1 c.toOk (nbg c.toOk "range") (q_len c.toOk (s_var (i := 0)))) (by first | exact L2.blkOk_by (by decide +kernel) | exact L2.blkOk_by (by kernel_rfl)) (by decide) (fun _ _ _ _ _ => (g_name (i := 1) nd)) (fun _ _ _ _ _ => ts_nil) (fun _ _ _ _ _ => (fun (cb : OkC g E0 0 _) => (s_add cb.toOk (s_add cb.toOk (s_sl01 cb.toOk (s_var (i := 0)) (s_var (i := 1))) (s_tup (a_cons (s_sub s_int (s_ix cb.toOk (s_var (i := 0)) (s_var (i := 1)))) a_nil))) (s_sl10 cb.toOk (s_var (i := 0)) (s_add cb.toOk (s_var (i := 1)) s_int)))) (c.blk _ _ _ _ _))))))))
/-! ### _law_apart -/
abbrev n__law_apart : List Str := ["_law_row", "_law_other", "_law_at"]
def m__law_apart : Ms := (mRet (mLc [2] (gN 2) (mRng1 (m1 fLen (mVar 0))) (mCmpT fNe (mBin fIx (mVar 0) (mVar 2)) (mBin fIx (mVar 1) (mVar 2))) (mVar 2)))
def f__law_apart : Fn := mkFn 2 3 m__law_apart
theorem b__law_apart {g : Gs}  : ∀ (E : XK) (w0 : Wd) (H0 : Hp) (X : Cx), OkC g E 0 X → PassesOwn (model X.prog X.w) X.A X.env X.xe → L2N.Takes X (fun cls d _ H => E cls d H) → X.N = n__law_apart → X.env.scope = defScope (t__law_apart) → X.fn = (fun _ => true) → SndB g E w0 H0 X (defBody (t__law_apart)) m__law_apart := by
  intro E w0 H0 X c po tk hN hs hf
  obtain ⟨prog, w', K, mg, base, A, N, s_0, H_0, ⟨e1, e2, e3, e4, e5, e6, e7, e8, e9⟩, outer, stack, ex, fn, calm, pn, xe⟩ := X
  simp only at hN hs hf
  subst hN hs hf
  have nd : (n__law_apart).Nodup := by decide +kernel
  exact (b_one (z_ret (f_val (f_lc (own := [("_law_at", 2)]) c.toOk nd (i_rng1 c.toOk (nbg c.toOk "range") (q_len c.toOk (s_var (i := 0)))) (by first | exact L2.blkOk_by (by decide +kernel) | exact L2.blkOk_by (by kernel_rfl)) (by decide) (fun _ _ _ _ _ => (g_name (i := 2) nd)) (fun _ _ _ _ _ => (fun (cb : OkC g E0 0 _) => (ts_one (t_cmp (c_ne cb.toOk) (s_ix cb.toOk (s_var (i := 0)) (s_var (i := 2))) (s_ix cb.toOk (s_var (i := 1)) (s_var (i := 2)))))) (c.blk _ _ _ _ _)) (fun _ _ _ _ _ => (s_var (i := 2)))))))
/-! ### _law_rings -/
abbrev n__law_rings : List Str := ["_law_many", "_law_wide", "_law_limit", "_law_found", "_law_waiting", "_law_rows", "_law_left", "_law_row"]
def m__law_rings : Ms := (mSeq (mPar2O 3 4 (mLst mNil) (mLst (mCons (mLst (mCons (mBin fMul (mTup (mCons (mC (.int 0)) mNil)) (mVar 1)) mNil)) mNil)))
  (mSeq (whileL (mAndT (mCmpT fNe (mBor 4) (mLst mNil)) (mCmpT fLt (m1 fLen (mBor 3)) (mVar 2))) (mSeq (mPopO 5 4)
  (mSeq (mSet 6 (mBin fSub (mVar 0) (m1 fLen (mVar 5))))
  (mSeq (mIf (mCmpT fEq (mVar 6) (mC (.int 0))) (mApp 3 (m1 fTupO (mVar 5))) mSkip)
  (mFor (gN 7) (mItems (mBin fMulL (m1 fRev (mCall f__law_near [] (mCons (mBin fIx (mVar 5) (mNeg (mC (.int 1)))) mNil))) (m1 fInt (mBin fGt (mVar 6) (mC (.int 0)))))) (mIf (mAndT (mCmpT (fInD fun b => !b) (mVar 7) (mVar 5)) (mCmpT fLe (m1 fLen (mCall f__law_apart [] (mCons (mVar 7) (mCons (mBin fIx (mVar 5) (mC (.int 0))) mNil)))) (mVar 6))) (mApp 4 (mBin fAdd (mVar 5) (mLst (mCons (mVar 7) mNil)))) mSkip))))) 4000)
  (mFrz 3 (mRet (mVar 3)))))
def f__law_rings : Fn := mkFn 3 8 m__law_rings
theorem b__law_rings {g : Gs}  (d__law_near : Def g 1 "_law_near" [] f__law_near) (d__law_apart : Def g 1 "_law_apart" [] f__law_apart) : ∀ (E : XK) (w0 : Wd) (H0 : Hp) (X : Cx), OkC g E 1 X → PassesOwn (model X.prog X.w) X.A X.env X.xe → L2N.Takes X (fun cls d _ H => E cls d H) → X.N = n__law_rings → X.env.scope = defScope (t__law_rings) → X.fn = (fun _ => true) → SndB g E w0 H0 X (defBody (t__law_rings)) m__law_rings := by
  intro E w0 H0 X c po tk hN hs hf
  obtain ⟨prog, w', K, mg, base, A, N, s_0, H_0, ⟨e1, e2, e3, e4, e5, e6, e7, e8, e9⟩, outer, stack, ex, fn, calm, pn, xe⟩ := X
  simp only at hN hs hf
  subst hN hs hf
  have nd : (n__law_rings).Nodup := by decide +kernel
  exact (b_cons (z_par2O (i := 3) (j := 4) c.toOk nd (f_lst a_nil) (f_lst (a_cons (f_val (f_lst (a_cons (s_mul c.toOk (s_tup (a_cons s_int a_nil)) (s_var (i := 1))) a_nil))) a_nil)))
  (b_cons (z_while 4000 po (t_w (w_and (t_cmp (c_ne c.toOk) (s_bor (i := 4)) (f_val (f_lst a_nil))) (w_and1 (t_cmp c_lt (q_len c.toOk (s_bor (i := 3))) (s_var (i := 2)))))) (b_cons (z_popO (i := 5) (j := 4) nd)
  (b_cons (z_set (i := 6) nd (s_sub (s_var (i := 0)) (q_len c.toOk (s_var (i := 5)))))
  (b_cons (z_if (t_cmp (c_eq c.toOk) (s_var (i := 6)) s_int) (b_one (z_app (i := 3) (q_tuple c.toOk (s_var (i := 5))))) b_nil)
  (b_one (z_for c.toOk po (i_seq c.toOk (f_val (f_mul (s_rev c.toOk (s_call c d__law_near (by decide) (a_cons (s_ix c.toOk (s_var (i := 5)) (s_neg s_int)) a_nil))) (q_int c.toOk (s_cmp c_gt (s_var (i := 6)) s_int))))) (g_name (i := 7) nd) (b_one (z_if (t_w (w_and (t_cmp (c_notinA c.toOk) (s_var (i := 7)) (s_var (i := 5))) (w_and1 (t_cmp c_le (q_len c.toOk (s_call c d__law_apart (by decide) (a_cons (s_var (i := 7)) (a_cons (s_ix c.toOk (s_var (i := 5)) s_int) a_nil)))) (s_var (i := 6)))))) (b_one (z_app (i := 4) (s_add c.toOk (s_var (i := 5)) (f_val (f_lst (a_cons (s_var (i := 7)) a_nil)))))) b_nil))))))))
  (b_one (s_frz (i := 3) (z_ret (s_var (i := 3)))))))
/-! ### _law_all -/
abbrev n__law_all : List Str := ["_law_many", "_law_found", "_law_turn", "_law_longer", "_law_row"]
def m__law_all : Ms := (mSeq (mSet 1 (mLst (mCons (mTup mNil) mNil)))
  (mSeq (mFor (gN 2) (mRng1 (mVar 0)) (mSeq (mSetO 3 (mLst mNil))
  (mSeq (mFor (gN 4) (mItems (mVar 1)) (mExt 3 (mLst (mCons (mBin fAdd (mVar 4) (mTup (mCons (mC (.int 0)) mNil))) (mCons (mBin fAdd (mVar 4) (mTup (mCons (mC (.int 1)) mNil))) mNil)))))
  (mFrz 3 (mSet 1 (mVar 3))))))
  (mRet (mVar 1))))
def f__law_all : Fn := mkFn 1 5 m__law_all
theorem b__law_all {g : Gs}  : ∀ (E : XK) (w0 : Wd) (H0 : Hp) (X : Cx), OkC g E 0 X → PassesOwn (model X.prog X.w) X.A X.env X.xe → L2N.Takes X (fun cls d _ H => E cls d H) → X.N = n__law_all → X.env.scope = defScope (t__law_all) → X.fn = (fun _ => true) → SndB g E w0 H0 X (defBody (t__law_all)) m__law_all := by
  intro E w0 H0 X c po tk hN hs hf
  obtain ⟨prog, w', K, mg, base, A, N, s_0, H_0, ⟨e1, e2, e3, e4, e5, e6, e7, e8, e9⟩, outer, stack, ex, fn, calm, pn, xe⟩ := X
  simp only at hN hs hf
  subst hN hs hf
  have nd : (n__law_all).Nodup := by decide +kernel
  exact (b_cons (z_set (i := 1) nd (f_val (f_lst (a_cons (s_tup a_nil) a_nil))))
  (b_cons (z_for c.toOk po (i_rng1 c.toOk (nbg c.toOk "range") (s_var (i := 0))) (g_name (i := 2) nd) (b_cons (z_setO (i := 3) nd (f_lst a_nil))
  (b_cons (z_for c.toOk po (i_seq c.toOk (s_var (i := 1))) (g_name (i := 4) nd) (b_one (z_ext (i := 3) (f_val (f_lst (a_cons (s_add c.toOk (s_var (i := 4)) (s_tup (a_cons s_int a_nil))) (a_cons (s_add c.toOk (s_var (i := 4)) (s_tup (a_cons s_int a_nil))) a_nil)))))))
  (b_one (s_frz (i := 3) (z_set (i := 1) nd (s_var (i := 3))))))))
  (b_one (z_ret (s_var (i := 1))))))
/-! ### _law_counts -/
abbrev n__law_counts : List Str := ["_law_words", "_law_found", "_law_row", "_law_other", "_law_at"]
def m__law_counts : Ms := (mSeq (mSetO 1 (mBin fMulL (mLst (mCons (mC (.int 0)) mNil)) (m1 fLen (mBin fIx (mVar 0) (mC (.int 0))))))
  (mSeq (mFor (gT (gsC (gN 2) (gsC (gN 3) gs0))) (mZip2 (mVar 0) (mBin fAdd (mSl10 (mVar 0) (mC (.int 1))) (mSl01 (mVar 0) (mC (.int 1))))) (mFor (gN 4) (mItems (mCall f__law_apart [] (mCons (mVar 2) (mCons (mVar 3) mNil)))) (mSetOwn 1 (mVar 4) (mBin fAdd (mBin fIx (mBor 1) (mVar 4)) (mC (.int 1))))))
  (mFrz 1 (mRet (mVar 1)))))
def f__law_counts : Fn := mkFn 1 5 m__law_counts
theorem b__law_counts {g : Gs}  (d__law_apart : Def g 1 "_law_apart" [] f__law_apart) : ∀ (E : XK) (w0 : Wd) (H0 : Hp) (X : Cx), OkC g E 1 X → PassesOwn (model X.prog X.w) X.A X.env X.xe → L2N.Takes X (fun cls d _ H => E cls d H) → X.N = n__law_counts → X.env.scope = defScope (t__law_counts) → X.fn = (fun _ => true) → SndB g E w0 H0 X (defBody (t__law_counts)) m__law_counts := by
  intro E w0 H0 X c po tk hN hs hf
  obtain ⟨prog, w', K, mg, base, A, N, s_0, H_0, ⟨e1, e2, e3, e4, e5, e6, e7, e8, e9⟩, outer, stack, ex, fn, calm, pn, xe⟩ := X
  simp only at hN hs hf
  subst hN hs hf
  have nd : (n__law_counts).Nodup := by decide +kernel
  exact (b_cons (z_setO (i := 1) nd (f_mul (f_val (f_lst (a_cons s_int a_nil))) (q_len c.toOk (s_ix c.toOk (s_var (i := 0)) s_int))))
  (b_cons (z_for c.toOk po (i_zip2 c.toOk (s_var (i := 0)) (s_add c.toOk (s_sl10 c.toOk (s_var (i := 0)) s_int) (s_sl01 c.toOk (s_var (i := 0)) s_int))) (g_tup c.toOk (gs_cons (g_name (i := 2) nd) (gs_cons (g_name (i := 3) nd) gs_nil)) (n_cons (n_cons n_nil))) (b_one (z_for c.toOk po (i_seq c.toOk (s_call c d__law_apart (by decide) (a_cons (s_var (i := 2)) (a_cons (s_var (i := 3)) a_nil)))) (g_name (i := 4) nd) (b_one (z_setOwn (i := 1) (s_add c.toOk (s_ix c.toOk (s_bor (i := 1)) (s_var (i := 4))) s_int) (s_var (i := 4)))))))
  (b_one (s_frz (i := 1) (z_ret (s_var (i := 1)))))))
/-! ### _law_due -/
abbrev n__law_due : List Str := ["_law_many", "_law_wide", "_law_rings_here", "_law_best", "_law_words"]
def m__law_due : Ms := (mSeq (mSet 2 (mIte (mAndT (mCmpT fEq (mBin fMod (mVar 0) (mC (.int 2))) (mC (.int 0))) (mCmpT fLe (mVar 0) (m1 fLen (mCall f__law_all [] (mCons (mVar 1) mNil))))) (mCall f__law_rings [] (mCons (mVar 0) (mCons (mVar 1) (mCons (mBin fPow (mC (.int 10)) (mC (.int 6))) mNil)))) (mLst mNil)))
  (mSeq (mSet 3 (mC .none))
  (mSeq (mFor (gN 4) (mItems (mVar 2)) (mSet 3 (mIte (mOrT (mCmpT fIs (mVar 3) (mC .none)) (mCmpT fLt (m1 fMax1 (mCall f__law_counts [] (mCons (mVar 4) mNil))) (m1 fMax1 (mCall f__law_counts [] (mCons (mVar 3) mNil))))) (mVar 4) (mVar 3))))
  (mRet (mVar 3)))))
def f__law_due : Fn := mkFn 2 5 m__law_due
theorem b__law_due {g : Gs}  (d__law_all : Def g 1 "_law_all" [] f__law_all) (d__law_rings : Def g 2 "_law_rings" [] f__law_rings) (d__law_counts : Def g 2 "_law_counts" [] f__law_counts) : ∀ (E : XK) (w0 : Wd) (H0 : Hp) (X : Cx), OkC g E 2 X → PassesOwn (model X.prog X.w) X.A X.env X.xe → L2N.Takes X (fun cls d _ H => E cls d H) → X.N = n__law_due → X.env.scope = defScope (t__law_due) → X.fn = (fun _ => true) → SndB g E w0 H0 X (defBody (t__law_due)) m__law_due := by
  intro E w0 H0 X c po tk hN hs hf
  obtain ⟨prog, w', K, mg, base, A, N, s_0, H_0, ⟨e1, e2, e3, e4, e5, e6, e7, e8, e9⟩, outer, stack, ex, fn, calm, pn, xe⟩ := X
  simp only at hN hs hf
  subst hN hs hf
  have nd : (n__law_due).Nodup := by decide +kernel
  exact (b_cons (z_set (i := 2) nd (s_ite (t_w (w_and (t_cmp (c_eq c.toOk) (s_mod (s_var (i := 0)) s_int) s_int) (w_and1 (t_cmp c_le (s_var (i := 0)) (q_len c.toOk (s_call c d__law_all (by decide) (a_cons (s_var (i := 1)) a_nil))))))) (s_call c d__law_rings (by decide) (a_cons (s_var (i := 0)) (a_cons (s_var (i := 1)) (a_cons (s_pow s_int s_int) a_nil)))) (f_val (f_lst a_nil))))
  (b_cons (z_set (i := 3) nd s_none)
  (b_cons (z_for c.toOk po (i_seq c.toOk (s_var (i := 2))) (g_name (i := 4) nd) (b_one (z_set (i := 3) nd (s_ite (t_w (w_or (t_cmp c_is (s_var (i := 3)) s_none) (w_or1 (t_cmp c_lt (q_max1 c.toOk (s_call c d__law_counts (by decide) (a_cons (s_var (i := 4)) a_nil))) (q_max1 c.toOk (s_call c d__law_counts (by decide) (a_cons (s_var (i := 3)) a_nil))))))) (s_var (i := 4)) (s_var (i := 3))))))
  (b_one (z_ret (s_var (i := 3)))))))
/-! ### _law_draw -/
abbrev n__law_draw : List Str := ["_law_pen_here", "_law_many", "_law_found", "_law_mixed"]
def m__law_draw : Ms := (mSeq (mIf (mCmpT fGt (mBin fIx (mVar 0) (mC (.int 0))) (mC (.int 0))) (mSeq (mSet 2 (mBin fMod (mBin fIx (mVar 0) (mC (.int 0))) (mVar 1)))
  (mSeq (mSetIx (mVar 0) (mC (.int 0)) (mBin fDiv (mBin fIx (mVar 0) (mC (.int 0))) (mVar 1)))
  (mRet (mVar 2)))) mSkip)
  (mSeq (mSetIx (mVar 0) (mC (.int 2)) (mBin fAdd (mBin fIx (mVar 0) (mC (.int 2))) (mC (.int 1))))
  (mSeq (mSetIx (mVar 0) (mC (.int 1)) (mBin fMod (mBin fAdd (mBin fAdd (mBin fMul (mBin fIx (mVar 0) (mC (.int 1))) (mC (.int 48271))) (mBin fMul (mC (.int 1009)) (mBin fIx (mVar 0) (mC (.int 2))))) (mC (.int 7))) (mC (.int 2147483647))))
  (mSeq (mSet 3 (mBin fMod (mBin fAdd (mBin fAdd (mBin fMul (mBin fIx (mVar 0) (mC (.int 1))) (mBin fIx (mVar 0) (mC (.int 1)))) (mBin fMul (mC (.int 69621)) (mBin fIx (mVar 0) (mC (.int 1))))) (mC (.int 11))) (mC (.int 2147483629))))
  (mSeq (mSet 3 (mBin fMod (mBin fAdd (mBin fMul (mVar 3) (mVar 3)) (mBin fMul (mC (.int 40014)) (mVar 3))) (mC (.int 2147483587))))
  (mRet (mBin fMod (mBin fDiv (mVar 3) (mC (.int 16))) (mVar 1))))))))
def f__law_draw : Fn := mkFn 2 4 m__law_draw
theorem b__law_draw {g : Gs}  : ∀ (E : XK) (w0 : Wd) (H0 : Hp) (X : Cx), OkC g E 0 X → PassesOwn (model X.prog X.w) X.A X.env X.xe → L2N.Takes X (fun cls d _ H => E cls d H) → X.N = n__law_draw → X.env.scope = defScope (t__law_draw) → X.fn = (fun _ => true) → SndB g E w0 H0 X (defBody (t__law_draw)) m__law_draw := by
  intro E w0 H0 X c po tk hN hs hf
  obtain ⟨prog, w', K, mg, base, A, N, s_0, H_0, ⟨e1, e2, e3, e4, e5, e6, e7, e8, e9⟩, outer, stack, ex, fn, calm, pn, xe⟩ := X
  simp only at hN hs hf
  subst hN hs hf
  have nd : (n__law_draw).Nodup := by decide +kernel
  exact (b_cons (z_if (t_cmp c_gt (s_ix c.toOk (s_var (i := 0)) s_int) s_int) (b_cons (z_set (i := 2) nd (s_mod (s_ix c.toOk (s_var (i := 0)) s_int) (s_var (i := 1))))
  (b_cons (z_setIx (s_div (s_ix c.toOk (s_var (i := 0)) s_int) (s_var (i := 1))) (s_var (i := 0)) s_int)
  (b_one (z_ret (s_var (i := 2)))))) b_nil)
  (b_cons (z_setIx (s_add c.toOk (s_ix c.toOk (s_var (i := 0)) s_int) s_int) (s_var (i := 0)) s_int)
  (b_cons (z_setIx (s_mod (s_add c.toOk (s_add c.toOk (s_mul c.toOk (s_ix c.toOk (s_var (i := 0)) s_int) s_int) (s_mul c.toOk s_int (s_ix c.toOk (s_var (i := 0)) s_int))) s_int) s_int) (s_var (i := 0)) s_int)
  (b_cons (z_set (i := 3) nd (s_mod (s_add c.toOk (s_add c.toOk (s_mul c.toOk (s_ix c.toOk (s_var (i := 0)) s_int) (s_ix c.toOk (s_var (i := 0)) s_int)) (s_mul c.toOk s_int (s_ix c.toOk (s_var (i := 0)) s_int))) s_int) s_int))
  (b_cons (z_set (i := 3) nd (s_mod (s_add c.toOk (s_mul c.toOk (s_var (i := 3)) (s_var (i := 3))) (s_mul c.toOk s_int (s_var (i := 3)))) s_int))
  (b_one (z_ret (s_mod (s_div (s_var (i := 3)) s_int) (s_var (i := 1))))))))))
/-! ### is_between -/
abbrev n_is_between : List Str := ["thing", "low", "high"]
def m_is_between : Ms := (mRet (mAnd (mIsB .int (mVar 0)) (mAnd (mNot (mIsB .bool (mVar 0))) (mChain fLe fLe (mVar 1) (mVar 0) (mVar 2)))))
def f_is_between : Fn := mkFn 3 3 m_is_between
theorem b_is_between {g : Gs}  : ∀ (E : XK) (w0 : Wd) (H0 : Hp) (X : Cx), OkC g E 0 X → PassesOwn (model X.prog X.w) X.A X.env X.xe → L2N.Takes X (fun cls d _ H => E cls d H) → X.N = n_is_between → X.env.scope = defScope (t_is_between) → X.fn = (fun _ => true) → SndB g E w0 H0 X (defBody (t_is_between)) m_is_between := by
  intro E w0 H0 X c po tk hN hs hf
  obtain ⟨prog, w', K, mg, base, A, N, s_0, H_0, ⟨e1, e2, e3, e4, e5, e6, e7, e8, e9⟩, outer, stack, ex, fn, calm, pn, xe⟩ := X
  simp only at hN hs hf
  subst hN hs hf
  have nd : (n_is_between).Nodup := by decide +kernel
  exact (b_one (z_ret (s_and c.toOk (s_isB c.toOk .int rfl (s_var (i := 0))) (s_and c.toOk (s_not c.toOk (s_isB c.toOk .bool rfl (s_var (i := 0)))) (s_one (s_chain c_le c_le (s_var (i := 1)) (s_var (i := 0)) (s_var (i := 2))))))))
/-! ### need_bits -/
abbrev n_need_bits : List Str := ["bits"]
def m_need_bits : Ms := (mIf (mNotT (mT (mCall f_is_between [] (mCons (mVar 0) (mCons (mC (.int 1)) (mCons (mC (.int (4))) mNil)))))) mBad mSkip)
def f_need_bits : Fn := mkFn 1 1 m_need_bits
theorem b_need_bits {g : Gs} (G_MOST_MADE_BITS : GlobC g "MOST_MADE_BITS" (.int (4))) (d_is_between : Def g 1 "is_between" [] f_is_between) : ∀ (E : XK) (w0 : Wd) (H0 : Hp) (X : Cx), OkC g E 1 X → PassesOwn (model X.prog X.w) X.A X.env X.xe → L2N.Takes X (fun cls d _ H => E cls d H) → X.N = n_need_bits → X.env.scope = defScope (t_need_bits) → X.fn = (fun _ => true) → SndB g E w0 H0 X (defBody (t_need_bits)) m_need_bits := by
  intro E w0 H0 X c po tk hN hs hf
  obtain ⟨prog, w', K, mg, base, A, N, s_0, H_0, ⟨e1, e2, e3, e4, e5, e6, e7, e8, e9⟩, outer, stack, ex, fn, calm, pn, xe⟩ := X
  simp only at hN hs hf
  subst hN hs hf
  have nd : (n_need_bits).Nodup := by decide +kernel
  exact (b_one (z_if (t_not (t_val c.toOk (s_call c d_is_between (by decide) (a_cons (s_var (i := 0)) (a_cons s_int (a_cons (s_glob c.toOk G_MOST_MADE_BITS) a_nil)))))) (b_one z_bad) b_nil))
/-! ### need_sizes -/
abbrev n_need_sizes : List Str := ["values", "bits"]
def m_need_sizes : Ms := (mSeq (mIf (mNotT (mT (mCall f_is_between [] (mCons (mVar 0) (mCons (mC (.int (2))) (mCons (mC (.int (16))) mNil)))))) mBad mSkip)
  (mDo (mCall f_need_bits [] (mCons (mVar 1) mNil))))
def f_need_sizes : Fn := mkFn 2 2 m_need_sizes
theorem b_need_sizes {g : Gs} (G_FEWEST : GlobC g "FEWEST" (.int (2))) (G_MOST_VALUES : GlobC g "MOST_VALUES" (.int (16))) (d_is_between : Def g 1 "is_between" [] f_is_between) (d_need_bits : Def g 2 "need_bits" [] f_need_bits) : ∀ (E : XK) (w0 : Wd) (H0 : Hp) (X : Cx), OkC g E 2 X → PassesOwn (model X.prog X.w) X.A X.env X.xe → L2N.Takes X (fun cls d _ H => E cls d H) → X.N = n_need_sizes → X.env.scope = defScope (t_need_sizes) → X.fn = (fun _ => true) → SndB g E w0 H0 X (defBody (t_need_sizes)) m_need_sizes := by
  intro E w0 H0 X c po tk hN hs hf
  obtain ⟨prog, w', K, mg, base, A, N, s_0, H_0, ⟨e1, e2, e3, e4, e5, e6, e7, e8, e9⟩, outer, stack, ex, fn, calm, pn, xe⟩ := X
  simp only at hN hs hf
  subst hN hs hf
  have nd : (n_need_sizes).Nodup := by decide +kernel
  exact (b_cons (z_if (t_not (t_val c.toOk (s_call c d_is_between (by decide) (a_cons (s_var (i := 0)) (a_cons (s_glob c.toOk G_FEWEST) (a_cons (s_glob c.toOk G_MOST_VALUES) a_nil)))))) (b_one z_bad) b_nil)
  (b_one (z_expr (s_call c d_need_bits (by decide) (a_cons (s_var (i := 1)) a_nil)))))
/-! ### changed -/
abbrev n_changed : List Str := ["word", "place"]
def m_changed : Ms := (mRet (mTup (mStar (mSl01 (mVar 0) (mVar 1)) (mCons (mBin fSub (mC (.int 1)) (mBin fIx (mVar 0) (mVar 1))) (mStar (mSl10 (mVar 0) (mBin fAdd (mVar 1) (mC (.int 1)))) mNil)))))
def f_changed : Fn := mkFn 2 2 m_changed
theorem b_changed {g : Gs}  : ∀ (E : XK) (w0 : Wd) (H0 : Hp) (X : Cx), OkC g E 0 X → PassesOwn (model X.prog X.w) X.A X.env X.xe → L2N.Takes X (fun cls d _ H => E cls d H) → X.N = n_changed → X.env.scope = defScope (t_changed) → X.fn = (fun _ => true) → SndB g E w0 H0 X (defBody (t_changed)) m_changed := by
  intro E w0 H0 X c po tk hN hs hf
  obtain ⟨prog, w', K, mg, base, A, N, s_0, H_0, ⟨e1, e2, e3, e4, e5, e6, e7, e8, e9⟩, outer, stack, ex, fn, calm, pn, xe⟩ := X
  simp only at hN hs hf
  subst hN hs hf
  have nd : (n_changed).Nodup := by decide +kernel
  exact (b_one (z_ret (s_tup (a_star c.toOk (s_sl01 c.toOk (s_var (i := 0)) (s_var (i := 1))) (a_cons (s_sub s_int (s_ix c.toOk (s_var (i := 0)) (s_var (i := 1)))) (a_star c.toOk (s_sl10 c.toOk (s_var (i := 0)) (s_add c.toOk (s_var (i := 1)) s_int)) a_nil))))))
/-! ### next_words -/
abbrev n_next_words : List Str := ["word", "place"]
def m_next_words : Ms := (mRet (m1 fSrtR (mLc [1] (gN 1) (mRng1 (m1 fLen (mVar 0))) mYes (mCall f_changed [] (mCons (mVar 0) (mCons (mVar 1) mNil))))))
def f_next_words : Fn := mkFn 1 2 m_next_words
theorem b_next_words {g : Gs}  (d_changed : Def g 1 "changed" [] f_changed) : ∀ (E : XK) (w0 : Wd) (H0 : Hp) (X : Cx), OkC g E 1 X → PassesOwn (model X.prog X.w) X.A X.env X.xe → L2N.Takes X (fun cls d _ H => E cls d H) → X.N = n_next_words → X.env.scope = defScope (t_next_words) → X.fn = (fun _ => true) → SndB g E w0 H0 X (defBody (t_next_words)) m_next_words := by
  intro E w0 H0 X c po tk hN hs hf
  obtain ⟨prog, w', K, mg, base, A, N, s_0, H_0, ⟨e1, e2, e3, e4, e5, e6, e7, e8, e9⟩, outer, stack, ex, fn, calm, pn, xe⟩ := X
  simp only at hN hs hf
  subst hN hs hf
  have nd : (n_next_words).Nodup := by decide +kernel
  exact (b_one (z_ret (f_val (q_sortedR c.toOk (f_val (f_lc (own := [("place", 1)]) c.toOk nd (i_rng1 c.toOk (nbg c.toOk "range") (q_len c.toOk (s_var (i := 0)))) (by first | exact L2.blkOk_by (by decide +kernel) | exact L2.blkOk_by (by kernel_rfl)) (by decide) (fun _ _ _ _ _ => (g_name (i := 1) nd)) (fun _ _ _ _ _ => ts_nil) (fun _ _ _ _ _ => (fun (cb : OkC g E0 1 _) => (s_call cb d_changed (by decide) (a_cons (s_var (i := 0)) (a_cons (s_var (i := 1)) a_nil)))) (c.blk _ _ _ _ _))))))))
/-! ### can_close -/
abbrev n_can_close : List Str := ["words", "values", "apart", "one", "other"]
def m_can_close : Ms := (mSeq (mSet 2 (m1 fLen (mLc [3, 4] (gT (gsC (gN 3) (gsC (gN 4) gs0))) (mZip2 (mBin fIx (mVar 0) (mNeg (mC (.int 1)))) (mBin fIx (mVar 0) (mC (.int 0)))) (mCmpT fNe (mVar 3) (mVar 4)) (mC (.int 1)))))
  (mRet (mBin fLe (mVar 2) (mBin fAdd (mBin fSub (mVar 1) (m1 fLen (mVar 0))) (mC (.int 1))))))
def f_can_close : Fn := mkFn 2 5 m_can_close
theorem b_can_close {g : Gs}  : ∀ (E : XK) (w0 : Wd) (H0 : Hp) (X : Cx), OkC g E 0 X → PassesOwn (model X.prog X.w) X.A X.env X.xe → L2N.Takes X (fun cls d _ H => E cls d H) → X.N = n_can_close → X.env.scope = defScope (t_can_close) → X.fn = (fun _ => true) → SndB g E w0 H0 X (defBody (t_can_close)) m_can_close := by
  intro E w0 H0 X c po tk hN hs hf
  obtain ⟨prog, w', K, mg, base, A, N, s_0, H_0, ⟨e1, e2, e3, e4, e5, e6, e7, e8, e9⟩, outer, stack, ex, fn, calm, pn, xe⟩ := X
  simp only at hN hs hf
  subst hN hs hf
  have nd : (n_can_close).Nodup := by decide +kernel
  exact (b_cons (z_set (i := 2) nd (q_len c.toOk (f_val (f_lc (own := [("one", 3), ("other", 4)]) c.toOk nd (i_zip2 c.toOk (s_ix c.toOk (s_var (i := 0)) (s_neg s_int)) (s_ix c.toOk (s_var (i := 0)) s_int)) (by first | exact L2.blkOk_by (by decide +kernel) | exact L2.blkOk_by (by kernel_rfl)) (by decide) (fun _ _ _ _ _ => (fun (cb : OkC g E0 0 _) => (g_tup cb.toOk (gs_cons (g_name (i := 3) nd) (gs_cons (g_name (i := 4) nd) gs_nil)) (n_cons (n_cons n_nil)))) (c.blk _ _ _ _ _)) (fun _ _ _ _ _ => (fun (cb : OkC g E0 0 _) => (ts_one (t_cmp (c_ne cb.toOk) (s_var (i := 3)) (s_var (i := 4))))) (c.blk _ _ _ _ _)) (fun _ _ _ _ _ => s_int)))))
  (b_one (z_ret (s_cmp c_le (s_var (i := 2)) (s_add c.toOk (s_sub (s_var (i := 1)) (q_len c.toOk (s_var (i := 0)))) s_int)))))
/-! ### are_bits -/
abbrev n_are_bits : List Str := ["thing", "one"]
def m_are_bits : Ms := (mRet (mAnd (mIsB .tuple (mVar 0)) (m1 fAll (mLc [1] (gN 1) (mItems (mVar 0)) mYes (mCall f_is_between [] (mCons (mVar 1) (mCons (mC (.int 0)) (mCons (mC (.int 1)) mNil))))))))
def f_are_bits : Fn := mkFn 1 2 m_are_bits
theorem b_are_bits {g : Gs}  (d_is_between : Def g 1 "is_between" [] f_is_between) : ∀ (E : XK) (w0 : Wd) (H0 : Hp) (X : Cx), OkC g E 1 X → PassesOwn (model X.prog X.w) X.A X.env X.xe → L2N.Takes X (fun cls d _ H => E cls d H) → X.N = n_are_bits → X.env.scope = defScope (t_are_bits) → X.fn = (fun _ => true) → SndB g E w0 H0 X (defBody (t_are_bits)) m_are_bits := by
  intro E w0 H0 X c po tk hN hs hf
  obtain ⟨prog, w', K, mg, base, A, N, s_0, H_0, ⟨e1, e2, e3, e4, e5, e6, e7, e8, e9⟩, outer, stack, ex, fn, calm, pn, xe⟩ := X
  simp only at hN hs hf
  subst hN hs hf
  have nd : (n_are_bits).Nodup := by decide +kernel
  exact (b_one (z_ret (s_and c.toOk (s_isB c.toOk .tuple rfl (s_var (i := 0))) (s_one (q_all c.toOk (f_val (f_lc (own := [("one", 1)]) c.toOk nd (i_seq c.toOk (s_var (i := 0))) (by first | exact L2.blkOk_by (by decide +kernel) | exact L2.blkOk_by (by kernel_rfl)) (by decide) (fun _ _ _ _ _ => (g_name (i := 1) nd)) (fun _ _ _ _ _ => ts_nil) (fun _ _ _ _ _ => (fun (cb : OkC g E0 1 _) => (s_call cb d_is_between (by decide) (a_cons (s_var (i := 1)) (a_cons s_int (a_cons s_int a_nil))))) (c.blk _ _ _ _ _)))))))))
/-! ### are_words -/
abbrev n_are_words : List Str := ["thing", "word"]
def m_are_words : Ms := (mSeq (mIf (mOrT (mNotT (mChainT fLe fLe (mC (.int (2))) (m1 fLen (mVar 0)) (mC (.int (16))))) (mNotT (mT (m1 fAll (mLc [1] (gN 1) (mItems (mVar 0)) mYes (mCall f_are_bits [] (mCons (mVar 1) mNil))))))) (mRet (mC (.bool false))) mSkip)
  (mSeq (mIf (mOrT (mNotT (mChainT fLe fLe (mC (.int 1)) (m1 fLen (mBin fIx (mVar 0) (mC (.int 0)))) (mC (.int (5))))) (mNotT (mT (m1 fAll (mLc [1] (gN 1) (mItems (mVar 0)) mYes (mBin fEq (m1 fLen (mVar 1)) (m1 fLen (mBin fIx (mVar 0) (mC (.int 0)))))))))) (mRet (mC (.bool false))) mSkip)
  (mRet (mBin fEq (m1 fLenSet (mVar 0)) (m1 fLen (mVar 0))))))
def f_are_words : Fn := mkFn 1 2 m_are_words
theorem b_are_words {g : Gs} (G_FEWEST_VALUES : GlobC g "FEWEST_VALUES" (.int (2))) (G_MOST_VALUES : GlobC g "MOST_VALUES" (.int (16))) (G_MOST_BITS : GlobC g "MOST_BITS" (.int (5))) (d_are_bits : Def g 2 "are_bits" [] f_are_bits) : ∀ (E : XK) (w0 : Wd) (H0 : Hp) (X : Cx), OkC g E 2 X → PassesOwn (model X.prog X.w) X.A X.env X.xe → L2N.Takes X (fun cls d _ H => E cls d H) → X.N = n_are_words → X.env.scope = defScope (t_are_words) → X.fn = (fun _ => true) → SndB g E w0 H0 X (defBody (t_are_words)) m_are_words := by
  intro E w0 H0 X c po tk hN hs hf
  obtain ⟨prog, w', K, mg, base, A, N, s_0, H_0, ⟨e1, e2, e3, e4, e5, e6, e7, e8, e9⟩, outer, stack, ex, fn, calm, pn, xe⟩ := X
  simp only at hN hs hf
  subst hN hs hf
  have nd : (n_are_words).Nodup := by decide +kernel
  exact (b_cons (z_if (t_w (w_or (t_not (t_chain c_le c_le (s_glob c.toOk G_FEWEST_VALUES) (q_len c.toOk (s_var (i := 0))) (s_glob c.toOk G_MOST_VALUES))) (w_or1 (t_not (t_val c.toOk (q_all c.toOk (f_val (f_lc (own := [("word", 1)]) c.toOk nd (i_seq c.toOk (s_var (i := 0))) (by first | exact L2.blkOk_by (by decide +kernel) | exact L2.blkOk_by (by kernel_rfl)) (by decide) (fun _ _ _ _ _ => (g_name (i := 1) nd)) (fun _ _ _ _ _ => ts_nil) (fun _ _ _ _ _ => (fun (cb : OkC g E0 2 _) => (s_call cb d_are_bits (by decide) (a_cons (s_var (i := 1)) a_nil))) (c.blk _ _ _ _ _)))))))))) (b_one (z_ret s_bool)) b_nil)
  (b_cons (z_if (t_w (w_or (t_not (t_chain c_le c_le s_int (q_len c.toOk (s_ix c.toOk (s_var (i := 0)) s_int)) (s_glob c.toOk G_MOST_BITS))) (w_or1 (t_not (t_val c.toOk (q_all c.toOk (f_val (f_lc (own := [("word", 1)]) c.toOk nd (i_seq c.toOk (s_var (i := 0))) (by first | exact L2.blkOk_by (by decide +kernel) | exact L2.blkOk_by (by kernel_rfl)) (by decide) (fun _ _ _ _ _ => (g_name (i := 1) nd)) (fun _ _ _ _ _ => ts_nil) (fun _ _ _ _ _ => (fun (cb : OkC g E0 2 _) => (s_cmp (c_eq cb.toOk) (q_len cb.toOk (s_var (i := 1))) (q_len cb.toOk (s_ix cb.toOk (s_var (i := 0)) s_int)))) (c.blk _ _ _ _ _)))))))))) (b_one (z_ret s_bool)) b_nil)
  (b_one (z_ret (s_cmp (c_eq c.toOk) (s_lenSet c.toOk (s_var (i := 0))) (q_len c.toOk (s_var (i := 0))))))))
/-! ### Code.__init__ -/
abbrev n_CodeX_initX : List Str := ["self", "words", "value", "word"]
def m_CodeX_initX : Ms := (mSeq (mIf (mNotT (mT (mCall f_are_words [] (mCons (mVar 1) mNil)))) mBad mSkip)
  (mSeq (mFldJ 0 0 (mVar 1))
  (mFldJ 0 1 (mDc [2, 3] (gT (gsC (gN 2) (gsC (gN 3) gs0))) (mEnum (mVar 1)) mYes (mVar 3) (mVar 2)))))
def f_CodeX_initX : Fn := mkIniS 0 4 m_CodeX_initX
theorem b_CodeX_initX {g : Gs}  (d_are_words : Def g 3 "are_words" [] f_are_words) : ∀ (E : XK) (w0 : Wd) (H0 : Hp) (X : Cx), OkC g E 3 X → PassesOwn (model X.prog X.w) X.A X.env X.xe → L2N.Takes X (fun cls d _ H => E cls d H) → X.N = n_CodeX_initX → X.env.scope = defScope (t_CodeX_initX) → X.fn = (fun _ => true) → SndB g E w0 H0 X (defBody (t_CodeX_initX)) m_CodeX_initX := by
  intro E w0 H0 X c po tk hN hs hf
  obtain ⟨prog, w', K, mg, base, A, N, s_0, H_0, ⟨e1, e2, e3, e4, e5, e6, e7, e8, e9⟩, outer, stack, ex, fn, calm, pn, xe⟩ := X
  simp only at hN hs hf
  subst hN hs hf
  have nd : (n_CodeX_initX).Nodup := by decide +kernel
  exact (b_cons (z_if (t_not (t_val c.toOk (s_call c d_are_words (by decide) (a_cons (s_var (i := 1)) a_nil)))) (b_one z_bad) b_nil)
  (b_cons (z_fldSet (c := 0) (j := 0) c.toOk rfl (s_var (i := 1)))
  (b_one (z_fldSet (c := 0) (j := 1) c.toOk rfl (s_dc (own := [("value", 2), ("word", 3)]) c.toOk nd (i_enum c.toOk (s_var (i := 1))) (by first | exact L2.blkOk_by (by decide +kernel) | exact L2.blkOk_by (by kernel_rfl)) (by decide) (fun _ _ _ _ _ => (fun (cb : OkC g E0 3 _) => (g_tup cb.toOk (gs_cons (g_name (i := 2) nd) (gs_cons (g_name (i := 3) nd) gs_nil)) (n_cons (n_cons n_nil)))) (c.blk _ _ _ _ _)) (fun _ _ _ _ _ => ts_nil) (fun _ _ _ _ _ => (s_var (i := 3))) (fun _ _ _ _ _ => (s_var (i := 2))))))))
/-! ### first_ring -/
abbrev n_first_ring : List Str := ["values", "bits", "fits", "rows", "words", "later", "word", "row"]
def m_first_ring (FL : Nat → Fn) : Ms := (mSeq (mSetO 3 (mLst (mCons (mLst (mCons (mBin fMul (mTup (mCons (mC (.int 0)) mNil)) (mVar 1)) mNil)) mNil)))
  (mSeq (whileL (mCmpT fNe (mBor 3) (mLst mNil)) (mSeq (mPopO 4 3)
  (mIf (mCmpT fEq (m1 fLen (mVar 4)) (mVar 0)) (mIf (mAndT (mCmpT (fInD fun b => b) (mBin fIx (mVar 4) (mC (.int 0))) (mCall f_next_words [] (mCons (mBin fIx (mVar 4) (mNeg (mC (.int 1)))) mNil))) (mT (mFit FL 2 (mCons (mVar 4) (mCons (mC (.bool true)) mNil))))) (mRet (mMakeS f_CodeX_initX (mVar 4))) mSkip) (mSeq (mSet 5 (mLc [6] (gN 6) (mItems (mCall f_next_words [] (mCons (mBin fIx (mVar 4) (mNeg (mC (.int 1)))) mNil))) (mCmpT (fInD fun b => !b) (mVar 6) (mVar 4)) (mLst (mStar (mVar 4) (mCons (mVar 6) mNil)))))
  (mExt 3 (mLc [7] (gN 7) (mItems (m1 fRev (mVar 5))) (mAndT (mT (mCall f_can_close [] (mCons (mVar 7) (mCons (mVar 0) mNil)))) (mT (mFit FL 2 (mCons (mVar 7) (mCons (mC (.bool false)) mNil))))) (mVar 7)))))) 4000)
  (mRet (mC .none))))
def f_first_ring (FL : Nat → Fn) : Fn := mkFn 3 8 (m_first_ring FL)
theorem b_first_ring {g : Gs}  (FL : Nat → Fn) (lamsF : LamsF g 3 FL) (C_Code : ClsN g 0 "Code") (d_next_words : Def g 2 "next_words" [] f_next_words) (d_CodeX_initX : Ini g 4 0 f_CodeX_initX) (d_can_close : Def g 1 "can_close" [] f_can_close) : ∀ (E : XK) (w0 : Wd) (H0 : Hp) (X : Cx), OkC g E 5 X → PassesOwn (model X.prog X.w) X.A X.env X.xe → L2N.Takes X (fun cls d _ H => E cls d H) → X.N = n_first_ring → X.env.scope = defScope (t_first_ring) → X.fn = (fun _ => true) → SndB g E w0 H0 X (defBody (t_first_ring)) (m_first_ring FL) := by
  intro E w0 H0 X c po tk hN hs hf
  obtain ⟨prog, w', K, mg, base, A, N, s_0, H_0, ⟨e1, e2, e3, e4, e5, e6, e7, e8, e9⟩, outer, stack, ex, fn, calm, pn, xe⟩ := X
  simp only at hN hs hf
  subst hN hs hf
  have nd : (n_first_ring).Nodup := by decide +kernel
  exact (b_cons (z_setO (i := 3) nd (f_lst (a_cons (f_val (f_lst (a_cons (s_mul c.toOk (s_tup (a_cons s_int a_nil)) (s_var (i := 1))) a_nil))) a_nil)))
  (b_cons (z_while 4000 po (t_cmp (c_ne c.toOk) (s_bor (i := 3)) (f_val (f_lst a_nil))) (b_cons (z_popO (i := 4) (j := 3) nd)
  (b_one (z_if (t_cmp (c_eq c.toOk) (q_len c.toOk (s_var (i := 4))) (s_var (i := 0))) (b_one (z_if (t_w (w_and (t_cmp (c_inA c.toOk) (s_ix c.toOk (s_var (i := 4)) s_int) (s_call c d_next_words (by decide) (a_cons (s_ix c.toOk (s_var (i := 4)) (s_neg s_int)) a_nil))) (w_and1 (t_val c.toOk (s_callF (i := 2) (lv := 3) (c.mono (by decide)) lamsF (a_cons (s_var (i := 4)) (a_cons s_bool a_nil))))))) (b_one (z_ret (s_makeS c d_CodeX_initX C_Code (by decide) (s_var (i := 4))))) b_nil)) (b_cons (z_setLc (i := 5) (own := [("word", 6)]) c.toOk nd rfl rfl (sw_true rfl rfl rfl (by decide +kernel)) (i_seq c.toOk (s_call c d_next_words (by decide) (a_cons (s_ix c.toOk (s_var (i := 4)) (s_neg s_int)) a_nil))) (by first | exact L2.blkOk_by (by decide +kernel) | exact L2.blkOk_by (by kernel_rfl)) (by decide) (fun _ _ _ _ _ => (g_name (i := 6) nd)) (fun _ _ _ _ _ => (fun (cb : OkC g E0 5 _) => (ts_one (t_cmp (c_notinA cb.toOk) (s_var (i := 6)) (s_var (i := 4))))) (c.blk _ _ _ _ _)) (fun _ _ _ _ _ => (fun (cb : OkC g E0 5 _) => (f_val (f_lst (a_star cb.toOk (s_var (i := 4)) (a_cons (s_var (i := 6)) a_nil))))) (c.blk _ _ _ _ _)))
  (b_one (z_ext (i := 3) (f_val (f_lc (own := [("row", 7)]) c.toOk nd (i_seq c.toOk (s_rev c.toOk (s_var (i := 5)))) (by first | exact L2.blkOk_by (by decide +kernel) | exact L2.blkOk_by (by kernel_rfl)) (by decide) (fun _ _ _ _ _ => (g_name (i := 7) nd)) (fun _ _ _ _ _ => (fun (cb : OkC g E0 5 _) => (ts_one (t_w (w_and (t_val cb.toOk (s_call cb d_can_close (by decide) (a_cons (s_var (i := 7)) (a_cons (s_var (i := 0)) a_nil)))) (w_and1 (t_val cb.toOk (s_callF (i := 2) (lv := 3) (cb.mono (by decide)) lamsF (a_cons (s_var (i := 7)) (a_cons s_bool a_nil))))))))) (c.blk _ _ _ _ _)) (fun _ _ _ _ _ => (s_var (i := 7))))))))))))
  (b_one (z_ret s_none))))
def mL_0 : Ev := (mC (.bool true))
def mL_1 : Ev := (mCall f_is_even [] (mCons (mVar 1) (mCons (mVar 2) (mCons (mVar 0) mNil))))
def mL_2 : Ev := (mCall f_is_even [] (mCons (mVar 1) (mCons (mVar 2) (mCons (mVar 0) mNil))))
def FL0 : Nat → Fn
  | 0 => fun ds B => if ds.length = 2 then mL_0 (ds.map fun d => some (false, d)) B else .bad
  | _ => fun _ _ => .bad
def FC_1 (d : D) : Nat → Fn
  | 1 => fun ds B => if ds.length = 2 then mL_1 (some (false, d) :: ds.map fun d => some (false, d)) B else .bad
  | _ => fun _ _ => .bad
def FC_2 (d : D) : Nat → Fn
  | 2 => fun ds B => if ds.length = 2 then mL_2 (some (false, d) :: ds.map fun d => some (false, d)) B else .bad
  | _ => fun _ _ => .bad
/-! ### made_single -/
abbrev n_made_single : List Str := ["values", "bits"]
def m_made_single : Ms := (mSeq (mIf (mOrT (mCmpT fEq (mBin fMod (mVar 0) (mC (.int 2))) (mC (.int 1))) (mCmpT fGt (mVar 0) (mBin fIx (mC (.tup [(.int (1)), (.int (2)), (.int (4)), (.int (8)), (.int (16))])) (mVar 1)))) (mRet (mC .none)) mSkip)
  (mRet (mCall (f_first_ring FL0) [] (mCons (mVar 0) (mCons (mVar 1) (mCons (mC (.fnT 0)) mNil))))))
def f_made_single : Fn := mkFn 2 2 m_made_single
abbrev le_0 : Expr := argE 2 (retE ((defBody t_made_single).getD 1 (.Pass ⟨0, 0, 0, 0⟩)))
abbrev ls_0 : Scope := defScope t_made_single
abbrev li_0 : LamI := ⟨(("made_single" : Str) ++ ".<locals>.") ++ "<lambda>", lmP le_0, lmB le_0, lmS ls_0 le_0⟩
theorem lp0 : LamP (li_0).sc ["words", "whole"] := ⟨⟨rfl, rfl, rfl, by decide +kernel, rfl, by decide +kernel, by decide +kernel⟩, by decide +kernel⟩
theorem bL_0 {g : Gs}  : ∀ (E : XK) (H0 : Hp) (X : Cx), OkC g E 0 X → X.N = (["words", "whole"] : List Str) → X.env.scope = (li_0).sc → Snd g E H0 X false (li_0).bd mL_0 := by
  intro E H0 X c hN hs
  obtain ⟨prog, w', K, mg, base, A, N, s_0, H_0, ⟨e1, e2, e3, e4, e5, e6, e7, e8, e9⟩, outer, stack, ex, fn, calm, pn, xe⟩ := X
  simp only at hN hs
  subst hN hs
  exact s_bool
theorem b_made_single {g : Gs} {k0 P : Addr} (G_MANY_WORDS : GlobC g "MANY_WORDS" (.tup [(.int (1)), (.int (2)), (.int (4)), (.int (8)), (.int (16))])) (d_first_ring : Def g 6 "first_ring" [] (f_first_ring FL0)) (hl0 : g.lam 0 = li_0) (hm0 : (P, (("made_single" : Str) ++ ".<locals>.") ++ "<lambda>") ∈ g.tabs) (hv0 : (g.lmd 0).live = false) : ∀ (E : XK) (w0 : Wd) (H0 : Hp) (X : Cx), OkC g E 6 X → LamK g X k0 P → PassesOwn (model X.prog X.w) X.A X.env X.xe → L2N.Takes X (fun cls d _ H => E cls d H) → X.N = n_made_single → X.env.scope = defScope (t_made_single) → X.fn = (fun _ => true) → SndB g E w0 H0 X (defBody (t_made_single)) m_made_single := by
  intro E w0 H0 X c lk po tk hN hs hf
  obtain ⟨prog, w', K, mg, base, A, N, s_0, H_0, ⟨e1, e2, e3, e4, e5, e6, e7, e8, e9⟩, outer, stack, ex, fn, calm, pn, xe⟩ := X
  simp only at hN hs hf
  subst hN hs hf
  have nd : (n_made_single).Nodup := by decide +kernel
  exact (b_cons (z_if (t_w (w_or (t_cmp (c_eq c.toOk) (s_mod (s_var (i := 0)) s_int) s_int) (w_or1 (t_cmp c_gt (s_var (i := 0)) (s_ix c.toOk (s_glob c.toOk G_MANY_WORDS) (s_var (i := 1))))))) (b_one (z_ret s_none)) b_nil)
  (b_one (z_ret (s_call c d_first_ring (by decide) (a_cons (s_var (i := 0)) (a_cons (s_var (i := 1)) (a_cons (s_lam c.toOk lk (hl0.trans (congrArg (fun z => LamI.mk z _ _ _) (lk.uni _ hm0 rfl))) hv0 lp0) a_nil)))))))
/-! ### made_evenly -/
abbrev n_made_evenly : List Str := ["values", "bits", "most", "found"]
def m_made_evenly : Ms := (mSeq (mIf (mCmpT fIs (mCall f_made_single [] (mCons (mVar 0) (mCons (mVar 1) mNil))) (mC .none)) (mRet (mC .none)) mSkip)
  (mSeq (mSet 2 (mBin fMul (mC (.int 2)) (mBin fDiv (mBin fSub (mBin fAdd (mVar 0) (mBin fMul (mC (.int 2)) (mVar 1))) (mC (.int 1))) (mBin fMul (mC (.int 2)) (mVar 1)))))
  (mSeq (mSet 3 (mCallB f_first_ring FC_1 1 2 (mVar 0) (mVar 1)))
  (mSeq (whileL (mCmpT fIs (mVar 3) (mC .none)) (mSeq (mSet 2 (mBin fAdd (mVar 2) (mC (.int 2))))
  (mSet 3 (mCallB f_first_ring FC_2 2 2 (mVar 0) (mVar 1)))) 4000)
  (mRet (mVar 3))))))
def f_made_evenly : Fn := mkFn 2 4 m_made_evenly
abbrev le_1 : Expr := argE 2 (retE ((defBody t_made_evenly).getD 2 (.Pass ⟨0, 0, 0, 0⟩)))
abbrev ls_1 : Scope := defScope t_made_evenly
abbrev li_1 : LamI := ⟨(("made_evenly" : Str) ++ ".<locals>.") ++ "<lambda>", lmP le_1, lmB le_1, lmS ls_1 le_1⟩
theorem cf1 : ((li_1).sc.names.filter fun p => p.2 == .free) = ([("most", .free)] : List (Str × NameKind)) := rfl
theorem fr1 : ∀ z ∈ (li_1).sc.names, z.2 = .free → z.1 = "most" := by decide +kernel
theorem lpc1 : LamPC (li_1).sc "most" ["words", "whole"] := ⟨rfl, rfl, rfl, by decide +kernel, by decide +kernel, fr1, rfl, by decide +kernel⟩
theorem bL_1 {g : Gs}  (d_is_even : Def g 3 "is_even" [] f_is_even) : ∀ (E : XK) (H0 : Hp) (X : Cx), OkC g E 3 X → X.N = (["most", "words", "whole"] : List Str) → X.env.scope = (li_1).sc → Snd g E H0 X false (li_1).bd mL_1 := by
  intro E H0 X c hN hs
  obtain ⟨prog, w', K, mg, base, A, N, s_0, H_0, ⟨e1, e2, e3, e4, e5, e6, e7, e8, e9⟩, outer, stack, ex, fn, calm, pn, xe⟩ := X
  simp only at hN hs
  subst hN hs
  exact (s_call c d_is_even (by decide) (a_cons (s_var (i := 1)) (a_cons (s_var (i := 2)) (a_cons (s_var (i := 0)) a_nil))))
abbrev le_2 : Expr := argE 2 (retE ((whileB ((defBody t_made_evenly).getD 3 (.Pass ⟨0, 0, 0, 0⟩))).getD 1 (.Pass ⟨0, 0, 0, 0⟩)))
abbrev ls_2 : Scope := defScope t_made_evenly
abbrev li_2 : LamI := ⟨(("made_evenly" : Str) ++ ".<locals>.") ++ "<lambda>", lmP le_2, lmB le_2, lmS ls_2 le_2⟩
theorem cf2 : ((li_2).sc.names.filter fun p => p.2 == .free) = ([("most", .free)] : List (Str × NameKind)) := rfl
theorem fr2 : ∀ z ∈ (li_2).sc.names, z.2 = .free → z.1 = "most" := by decide +kernel
theorem lpc2 : LamPC (li_2).sc "most" ["words", "whole"] := ⟨rfl, rfl, rfl, by decide +kernel, by decide +kernel, fr2, rfl, by decide +kernel⟩
theorem bL_2 {g : Gs}  (d_is_even : Def g 3 "is_even" [] f_is_even) : ∀ (E : XK) (H0 : Hp) (X : Cx), OkC g E 3 X → X.N = (["most", "words", "whole"] : List Str) → X.env.scope = (li_2).sc → Snd g E H0 X false (li_2).bd mL_2 := by
  intro E H0 X c hN hs
  obtain ⟨prog, w', K, mg, base, A, N, s_0, H_0, ⟨e1, e2, e3, e4, e5, e6, e7, e8, e9⟩, outer, stack, ex, fn, calm, pn, xe⟩ := X
  simp only at hN hs
  subst hN hs
  exact (s_call c d_is_even (by decide) (a_cons (s_var (i := 1)) (a_cons (s_var (i := 2)) (a_cons (s_var (i := 0)) a_nil))))
theorem b_made_evenly {g : Gs} {k0 P : Addr}  (d_made_single : Def g 7 "made_single" [] f_made_single) (hl1 : g.lam 1 = li_1) (hm1 : (P, (("made_evenly" : Str) ++ ".<locals>.") ++ "<lambda>") ∈ g.tabs) (dm_first_ring : ∃ fa0, g.mg "first_ring" = some (.ref fa0) ∧ PySem.W.keepIn g.K (.ref fa0) = true) (DB1 : ∀ (base' : Heap) (ld : LamD), (∀ b o, g.base.get? b = some o → base'.get? b = some o) → ld.live = true → ld.y = "most" → LiveOk (gC g base' fun n => if n = 1 then ld else {}) 1 → Def (gC g base' fun n => if n = 1 then ld else {}) 6 "first_ring" [] (f_first_ring (FC_1 ld.d))) (hl2 : g.lam 2 = li_2) (hm2 : (P, (("made_evenly" : Str) ++ ".<locals>.") ++ "<lambda>") ∈ g.tabs) (DB2 : ∀ (base' : Heap) (ld : LamD), (∀ b o, g.base.get? b = some o → base'.get? b = some o) → ld.live = true → ld.y = "most" → LiveOk (gC g base' fun n => if n = 2 then ld else {}) 2 → Def (gC g base' fun n => if n = 2 then ld else {}) 6 "first_ring" [] (f_first_ring (FC_2 ld.d))) : ∀ (E : XK) (w0 : Wd) (H0 : Hp) (X : Cx), OkC g E 7 X → LamK g X k0 P → PassesOwn (model X.prog X.w) X.A X.env X.xe → L2N.Takes X (fun cls d _ H => E cls d H) → X.N = n_made_evenly → X.env.scope = defScope (t_made_evenly) → X.fn = (fun _ => true) → SndB g E w0 H0 X (defBody (t_made_evenly)) m_made_evenly := by
  intro E w0 H0 X c lk po tk hN hs hf
  obtain ⟨prog, w', K, mg, base, A, N, s_0, H_0, ⟨e1, e2, e3, e4, e5, e6, e7, e8, e9⟩, outer, stack, ex, fn, calm, pn, xe⟩ := X
  simp only at hN hs hf
  subst hN hs hf
  have nd : (n_made_evenly).Nodup := by decide +kernel
  exact (b_cons (z_if (t_cmp c_is (s_call c d_made_single (by decide) (a_cons (s_var (i := 0)) (a_cons (s_var (i := 1)) a_nil))) s_none) (b_one (z_ret s_none)) b_nil)
  (b_cons (z_set (i := 2) nd (s_mul c.toOk s_int (s_div (s_sub (s_add c.toOk (s_var (i := 0)) (s_mul c.toOk s_int (s_var (i := 1)))) s_int) (s_mul c.toOk s_int (s_var (i := 1))))))
  (b_cons (z_set (i := 3) nd (s_callB (j := 2) (kk := 6) c lk (hl1.trans (congrArg (fun z => LamI.mk z _ _ _) (lk.uni _ hm1 rfl))) dm_first_ring DB1 (by decide) (s_var (i := 0)) (s_var (i := 1)) (clo_is cf1) fr1))
  (b_cons (z_while 4000 po (t_cmp c_is (s_var (i := 3)) s_none) (b_cons (z_set (i := 2) nd (s_add c.toOk (s_var (i := 2)) s_int))
  (b_one (z_set (i := 3) nd (s_callB (j := 2) (kk := 6) c lk (hl2.trans (congrArg (fun z => LamI.mk z _ _ _) (lk.uni _ hm2 rfl))) dm_first_ring DB2 (by decide) (s_var (i := 0)) (s_var (i := 1)) (clo_is cf2) fr2)))))
  (b_one (z_ret (s_var (i := 3))))))))
/-! ### evenly -/
abbrev n_evenly : List Str := ["values", "bits"]
def m_evenly : Ms := (mSeq (mDo (mCall f_need_sizes [] (mCons (mVar 0) (mCons (mVar 1) mNil))))
  (mRet (mCall f_made_evenly [] (mCons (mVar 0) (mCons (mVar 1) mNil)))))
def f_evenly : Fn := mkFn 2 2 m_evenly
theorem b_evenly {g : Gs}  (d_need_sizes : Def g 3 "need_sizes" [] f_need_sizes) (d_made_evenly : Def g 8 "made_evenly" [] f_made_evenly) : ∀ (E : XK) (w0 : Wd) (H0 : Hp) (X : Cx), OkC g E 8 X → PassesOwn (model X.prog X.w) X.A X.env X.xe → L2N.Takes X (fun cls d _ H => E cls d H) → X.N = n_evenly → X.env.scope = defScope (t_evenly) → X.fn = (fun _ => true) → SndB g E w0 H0 X (defBody (t_evenly)) m_evenly := by
  intro E w0 H0 X c po tk hN hs hf
  obtain ⟨prog, w', K, mg, base, A, N, s_0, H_0, ⟨e1, e2, e3, e4, e5, e6, e7, e8, e9⟩, outer, stack, ex, fn, calm, pn, xe⟩ := X
  simp only at hN hs hf
  subst hN hs hf
  have nd : (n_evenly).Nodup := by decide +kernel
  exact (b_cons (z_expr (s_call c d_need_sizes (by decide) (a_cons (s_var (i := 0)) (a_cons (s_var (i := 1)) a_nil))))
  (b_one (z_ret (s_call c d_made_evenly (by decide) (a_cons (s_var (i := 0)) (a_cons (s_var (i := 1)) a_nil))))))
/-! ### _law_first_even -/
abbrev n__law_first_even : List Str := ["_law_many", "_law_wide", "_law_most", "_law_waiting", "_law_left", "_law_row", "_law_rows", "_law_counts_here", "_law_spot", "_law_later", "_law_is_near"]
def m__law_first_even : Ms := (mSeq (mSetO 3 (mLst (mCons (mTup (mCons (mLst (mCons (mBin fMul (mTup (mCons (mC (.int 0)) mNil)) (mVar 1)) mNil)) (mCons (mBin fMul (mLst (mCons (mC (.int 0)) mNil)) (mVar 1)) mNil))) mNil)))
  (mSeq (whileL (mCmpT fNe (mBor 3) (mLst mNil)) (mSeq (mPopT (gT (gsC (gN 6) (gsC (gN 7) gs0))) 3)
  (mSeq (mSet 4 (mBin fSub (mVar 0) (m1 fLen (mVar 6))))
  (mSeq (mIf (mAndT (mCmpT fEq (mVar 4) (mC (.int 0))) (mCmpT fLe (m1 fMax1 (mCall f__law_counts [] (mCons (mVar 6) mNil))) (mVar 2))) (mRet (m1 fTupO (mVar 6))) mSkip)
  (mFor (gN 5) (mItems (mBin fMulL (m1 fRev (mCall f__law_near [] (mCons (mBin fIx (mVar 6) (mNeg (mC (.int 1)))) mNil))) (m1 fInt (mBin fGt (mVar 4) (mC (.int 0)))))) (mSeq (mPar2F 9 10 (m1 fLstO (mVar 7)) (mAnd (mBin (fInD fun b => !b) (mVar 5) (mVar 6)) (mBin fLe (m1 fLen (mCall f__law_apart [] (mCons (mVar 5) (mCons (mBin fIx (mVar 6) (mC (.int 0))) mNil)))) (mVar 4))))
  (mSeq (mSet 8 (mBin fIx (mCall f__law_apart [] (mCons (mVar 5) (mCons (mBin fIx (mVar 6) (mNeg (mC (.int 1)))) mNil))) (mC (.int 0))))
  (mSeq (mSetOwn 9 (mVar 8) (mBin fAdd (mBin fIx (mBor 9) (mVar 8)) (mC (.int 1))))
  (mIf (mAndT (mT (mVar 10)) (mCmpT fLe (mBin fIx (mBor 9) (mVar 8)) (mVar 2))) (mFrz 9 (mApp 3 (mTup (mCons (mBin fAdd (mVar 6) (mLst (mCons (mVar 5) mNil))) (mCons (mVar 9) mNil))))) mSkip)))))))) 4000)
  (mRet (mC .none))))
def f__law_first_even : Fn := mkFn 3 11 m__law_first_even
theorem b__law_first_even {g : Gs}  (d__law_counts : Def g 2 "_law_counts" [] f__law_counts) (d__law_near : Def g 1 "_law_near" [] f__law_near) (d__law_apart : Def g 1 "_law_apart" [] f__law_apart) : ∀ (E : XK) (w0 : Wd) (H0 : Hp) (X : Cx), OkC g E 2 X → PassesOwn (model X.prog X.w) X.A X.env X.xe → L2N.Takes X (fun cls d _ H => E cls d H) → X.N = n__law_first_even → X.env.scope = defScope (t__law_first_even) → X.fn = (fun _ => true) → SndB g E w0 H0 X (defBody (t__law_first_even)) m__law_first_even := by
  intro E w0 H0 X c po tk hN hs hf
  obtain ⟨prog, w', K, mg, base, A, N, s_0, H_0, ⟨e1, e2, e3, e4, e5, e6, e7, e8, e9⟩, outer, stack, ex, fn, calm, pn, xe⟩ := X
  simp only at hN hs hf
  subst hN hs hf
  have nd : (n__law_first_even).Nodup := by decide +kernel
  exact (b_cons (z_setO (i := 3) nd (f_lst (a_cons (s_tup (a_cons (f_val (f_lst (a_cons (s_mul c.toOk (s_tup (a_cons s_int a_nil)) (s_var (i := 1))) a_nil))) (a_cons (s_mul c.toOk (f_val (f_lst (a_cons s_int a_nil))) (s_var (i := 1))) a_nil))) a_nil)))
  (b_cons (z_while 4000 po (t_cmp (c_ne c.toOk) (s_bor (i := 3)) (f_val (f_lst a_nil))) (b_cons (z_popT (j := 3) (g_tup c.toOk (gs_cons (g_name (i := 6) nd) (gs_cons (g_name (i := 7) nd) gs_nil)) (n_cons (n_cons n_nil))))
  (b_cons (z_set (i := 4) nd (s_sub (s_var (i := 0)) (q_len c.toOk (s_var (i := 6)))))
  (b_cons (z_if (t_w (w_and (t_cmp (c_eq c.toOk) (s_var (i := 4)) s_int) (w_and1 (t_cmp c_le (q_max1 c.toOk (s_call c d__law_counts (by decide) (a_cons (s_var (i := 6)) a_nil))) (s_var (i := 2)))))) (b_one (z_ret (q_tuple c.toOk (s_var (i := 6))))) b_nil)
  (b_one (z_for c.toOk po (i_seq c.toOk (f_val (f_mul (s_rev c.toOk (s_call c d__law_near (by decide) (a_cons (s_ix c.toOk (s_var (i := 6)) (s_neg s_int)) a_nil))) (q_int c.toOk (s_cmp c_gt (s_var (i := 4)) s_int))))) (g_name (i := 5) nd) (b_cons (z_par2F (i := 9) (j := 10) c.toOk nd (q_list c.toOk (s_var (i := 7))) (s_and c.toOk (s_cmp (c_notinA c.toOk) (s_var (i := 5)) (s_var (i := 6))) (s_one (s_cmp c_le (q_len c.toOk (s_call c d__law_apart (by decide) (a_cons (s_var (i := 5)) (a_cons (s_ix c.toOk (s_var (i := 6)) s_int) a_nil)))) (s_var (i := 4))))))
  (b_cons (z_set (i := 8) nd (s_ix c.toOk (s_call c d__law_apart (by decide) (a_cons (s_var (i := 5)) (a_cons (s_ix c.toOk (s_var (i := 6)) (s_neg s_int)) a_nil))) s_int))
  (b_cons (z_setOwn (i := 9) (s_add c.toOk (s_ix c.toOk (s_bor (i := 9)) (s_var (i := 8))) s_int) (s_var (i := 8)))
  (b_one (z_if (t_w (w_and (t_val c.toOk (s_var (i := 10))) (w_and1 (t_cmp c_le (s_ix c.toOk (s_bor (i := 9)) (s_var (i := 8))) (s_var (i := 2)))))) (b_one (s_frz (i := 9) (z_app (i := 3) (s_tup (a_cons (s_add c.toOk (s_var (i := 6)) (f_val (f_lst (a_cons (s_var (i := 5)) a_nil)))) (a_cons (s_var (i := 9)) a_nil)))))) b_nil)))))))))))
  (b_one (z_ret s_none))))
/-! ### Code.__eq__ -/
abbrev n_CodeX_eqX : List Str := ["self", "other"]
def m_CodeX_eqX : Ms := (mRet (mAnd (mIsC 0 (mVar 1)) (mBin fEq (mFld 0 0 (mVar 0)) (mFld 0 0 (mVar 1)))))
def f_CodeX_eqX : Fn := mkFn 2 2 m_CodeX_eqX
theorem eqC_none (es : List D) (B : Bs) : f_CodeX_eqX [.inst 0 es, .none] B = .ok (.bool false) B := rfl
theorem b_CodeX_eqX {g : Gs} (C_Code : ClsN g 0 "Code") : ∀ (E : XK) (w0 : Wd) (H0 : Hp) (X : Cx), OkC g E 0 X → PassesOwn (model X.prog X.w) X.A X.env X.xe → L2N.Takes X (fun cls d _ H => E cls d H) → X.N = n_CodeX_eqX → X.env.scope = defScope (t_CodeX_eqX) → X.fn = (fun _ => true) → SndB g E w0 H0 X (defBody (t_CodeX_eqX)) m_CodeX_eqX := by
  intro E w0 H0 X c po tk hN hs hf
  obtain ⟨prog, w', K, mg, base, A, N, s_0, H_0, ⟨e1, e2, e3, e4, e5, e6, e7, e8, e9⟩, outer, stack, ex, fn, calm, pn, xe⟩ := X
  simp only at hN hs hf
  subst hN hs hf
  have nd : (n_CodeX_eqX).Nodup := by decide +kernel
  exact (b_one (z_ret (s_and c.toOk (s_isC c.toOk C_Code (s_var (i := 1))) (s_one (s_cmp (c_eq c.toOk) (s_fld (c := 0) (j := 0) c.toOk rfl (s_var (i := 0))) (s_fld (c := 0) (j := 0) c.toOk rfl (s_var (i := 1))))))))
/-! ### Code.words -/
abbrev n_Code_words : List Str := ["self"]
def m_Code_words : Ms := (mRet (mFld 0 0 (mVar 0)))
def f_Code_words : Fn := mkFn 1 1 m_Code_words
theorem b_Code_words {g : Gs}  : ∀ (E : XK) (w0 : Wd) (H0 : Hp) (X : Cx), OkC g E 0 X → PassesOwn (model X.prog X.w) X.A X.env X.xe → L2N.Takes X (fun cls d _ H => E cls d H) → X.N = n_Code_words → X.env.scope = defScope (t_Code_words) → X.fn = (fun _ => true) → SndB g E w0 H0 X (defBody (t_Code_words)) m_Code_words := by
  intro E w0 H0 X c po tk hN hs hf
  obtain ⟨prog, w', K, mg, base, A, N, s_0, H_0, ⟨e1, e2, e3, e4, e5, e6, e7, e8, e9⟩, outer, stack, ex, fn, calm, pn, xe⟩ := X
  simp only at hN hs hf
  subst hN hs hf
  have nd : (n_Code_words).Nodup := by decide +kernel
  exact (b_one (z_ret (s_fld (c := 0) (j := 0) c.toOk rfl (s_var (i := 0)))))
/-! ### _law_great_right -/
abbrev n__law_great_right : List Str := ["_law_pen_here", "_law_some", "_law_many", "_law_one", "_law_at"]
def m__law_great_right : Ms := (mSeq (mSet 1 (mLc [2] (gN 2) (mItems (mTup (mCons (mC (.int 10)) (mCons (mC (.int 12)) (mCons (mC (.int 14)) (mCons (mC (.int 16)) mNil)))))) mYes (mCall f_evenly [] (mCons (mVar 2) (mCons (mC (.int 4)) mNil)))))
  (mSeq (mIf (mOrT (mCmpT (fInN 0 fIn) (mC .none) (mVar 1)) (mCmpT fNe (mLc [3] (gN 3) (mItems (mVar 1)) mYes (m1 fMax1 (mCall f__law_counts [] (mCons (mPrp 0 f_Code_words (mVar 3)) mNil)))) (mBin fMul (mLst (mCons (mC (.int 4)) mNil)) (mC (.int 4))))) (mRet (mC (.bool false))) mSkip)
  (mSeq (mSet 4 (mCall f__law_draw [] (mCons (mVar 0) (mCons (mC (.int 4)) mNil))))
  (mRet (mBin fEq (mPrp 0 f_Code_words (mBin fIx (mVar 1) (mVar 4))) (mCall f__law_first_even [] (mCons (mBin fAdd (mC (.int 10)) (mBin fMul (mC (.int 2)) (mVar 4))) (mCons (mC (.int 4)) (mCons (mC (.int 4)) mNil)))))))))
def f__law_great_right : Fn := mkFn 1 5 m__law_great_right
theorem b__law_great_right {g : Gs}  (d_evenly : Def g 9 "evenly" [] f_evenly) (d_CodeX_eqX : EqN g 1 0 f_CodeX_eqX) (d__law_counts : Def g 2 "_law_counts" [] f__law_counts) (d_Code_words : Prp g 1 0 "words" f_Code_words) (d__law_draw : Def g 1 "_law_draw" [] f__law_draw) (d__law_first_even : Def g 3 "_law_first_even" [] f__law_first_even) : ∀ (E : XK) (w0 : Wd) (H0 : Hp) (X : Cx), OkC g E 9 X → PassesOwn (model X.prog X.w) X.A X.env X.xe → L2N.Takes X (fun cls d _ H => E cls d H) → X.N = n__law_great_right → X.env.scope = defScope (t__law_great_right) → X.fn = (fun _ => true) → SndB g E w0 H0 X (defBody (t__law_great_right)) m__law_great_right := by
  intro E w0 H0 X c po tk hN hs hf
  obtain ⟨prog, w', K, mg, base, A, N, s_0, H_0, ⟨e1, e2, e3, e4, e5, e6, e7, e8, e9⟩, outer, stack, ex, fn, calm, pn, xe⟩ := X
  simp only at hN hs hf
  subst hN hs hf
  have nd : (n__law_great_right).Nodup := by decide +kernel
  exact (b_cons (z_setLc (i := 1) (own := [("_law_many", 2)]) c.toOk nd rfl rfl (sw_true rfl rfl rfl (by decide +kernel)) (i_seq c.toOk (s_tup (a_cons s_int (a_cons s_int (a_cons s_int (a_cons s_int a_nil)))))) (by first | exact L2.blkOk_by (by decide +kernel) | exact L2.blkOk_by (by kernel_rfl)) (by decide) (fun _ _ _ _ _ => (g_name (i := 2) nd)) (fun _ _ _ _ _ => ts_nil) (fun _ _ _ _ _ => (fun (cb : OkC g E0 9 _) => (s_call cb d_evenly (by decide) (a_cons (s_var (i := 2)) (a_cons s_int a_nil)))) (c.blk _ _ _ _ _)))
  (b_cons (z_if (t_w (w_or (t_inN c d_CodeX_eqX (by decide) eqC_none s_none (s_var (i := 1))) (w_or1 (t_cmp (c_ne c.toOk) (f_val (f_lc (own := [("_law_one", 3)]) c.toOk nd (i_seq c.toOk (s_var (i := 1))) (by first | exact L2.blkOk_by (by decide +kernel) | exact L2.blkOk_by (by kernel_rfl)) (by decide) (fun _ _ _ _ _ => (g_name (i := 3) nd)) (fun _ _ _ _ _ => ts_nil) (fun _ _ _ _ _ => (fun (cb : OkC g E0 9 _) => (q_max1 cb.toOk (s_call cb d__law_counts (by decide) (a_cons (s_prp cb d_Code_words (by decide) (s_var (i := 3))) a_nil)))) (c.blk _ _ _ _ _)))) (s_mul c.toOk (f_val (f_lst (a_cons s_int a_nil))) s_int))))) (b_one (z_ret s_bool)) b_nil)
  (b_cons (z_set (i := 4) nd (s_call c d__law_draw (by decide) (a_cons (s_var (i := 0)) (a_cons s_int a_nil))))
  (b_one (z_ret (s_cmp (c_eq c.toOk) (s_prp c d_Code_words (by decide) (s_ix c.toOk (s_var (i := 1)) (s_var (i := 4)))) (s_call c d__law_first_even (by decide) (a_cons (s_add c.toOk s_int (s_mul c.toOk s_int (s_var (i := 4)))) (a_cons s_int (a_cons s_int a_nil))))))))))
/-! ### _law_pick -/
abbrev n__law_pick : List Str := ["_law_pen_here", "_law_some"]
def m__law_pick : Ms := (mRet (mBin fIx (mVar 1) (mCall f__law_draw [] (mCons (mVar 0) (mCons (m1 fLen (mVar 1)) mNil)))))
def f__law_pick : Fn := mkFn 2 2 m__law_pick
theorem b__law_pick {g : Gs}  (d__law_draw : Def g 1 "_law_draw" [] f__law_draw) : ∀ (E : XK) (w0 : Wd) (H0 : Hp) (X : Cx), OkC g E 1 X → PassesOwn (model X.prog X.w) X.A X.env X.xe → L2N.Takes X (fun cls d _ H => E cls d H) → X.N = n__law_pick → X.env.scope = defScope (t__law_pick) → X.fn = (fun _ => true) → SndB g E w0 H0 X (defBody (t__law_pick)) m__law_pick := by
  intro E w0 H0 X c po tk hN hs hf
  obtain ⟨prog, w', K, mg, base, A, N, s_0, H_0, ⟨e1, e2, e3, e4, e5, e6, e7, e8, e9⟩, outer, stack, ex, fn, calm, pn, xe⟩ := X
  simp only at hN hs hf
  subst hN hs hf
  have nd : (n__law_pick).Nodup := by decide +kernel
  exact (b_one (z_ret (s_ix c.toOk (s_var (i := 1)) (s_call c d__law_draw (by decide) (a_cons (s_var (i := 0)) (a_cons (q_len c.toOk (s_var (i := 1))) a_nil))))))
/-! ### law -/
abbrev n_law : List Str := ["_law_script", "_law_k", "_law_pen_here", "_law_some", "_law_many", "_law_wide", "_law_due_here", "_law_turn", "_law_told"]
def m_law : Ms := (mSeq (mFor (gN 1) (mRng1 (mBin fMax2 (mC (.int 1)) (mBin fMin2 (m1 fLen (mVar 0)) (mC (.int 2))))) (mSeq (mSet 2 (mCall f__law_pen [] (mCons (mCall f__law_cell_at [] (mCons (mVar 0) (mCons (mVar 1) mNil))) mNil)))
  (mSeq (mIf (mAndT (mCmpT fEq (mVar 1) (mC (.int 0))) (mNotT (mT (mCall f__law_great_right [] (mCons (mVar 2) mNil))))) (mRet (mC (.bool false))) mSkip)
  (mSeq (mSet 3 (mLc [7] (gN 7) (mRng1 (mC (.int 9))) mYes (mTup (mCons (mBin fAdd (mC (.int 2)) (mCall f__law_draw [] (mCons (mVar 2) (mCons (mC (.int 9)) mNil)))) (mCons (mBin fAdd (mC (.int 1)) (mCall f__law_draw [] (mCons (mVar 2) (mCons (mC (.int 3)) mNil)))) mNil)))))
  (mFor (gT (gsC (gN 4) (gsC (gN 5) gs0))) (mItems (mBin fAdd (mVar 3) (mLst (mCons (mTup (mCons (mCall f__law_pick [] (mCons (mVar 2) (mCons (mLst (mCons (mC (.int 4)) (mCons (mC (.int 6)) (mCons (mC (.int 7)) mNil)))) mNil))) (mCons (mC (.int 4)) mNil))) (mCons (mTup (mCons (mC (.int 8)) (mCons (mC (.int 4)) mNil))) mNil))))) (mSeq (mSet 6 (mCall f__law_due [] (mCons (mVar 4) (mCons (mVar 5) mNil))))
  (mFor (gN 7) (mRng1 (mC (.int 2))) (mSeq (mSet 8 (mCall f_evenly [] (mCons (mVar 4) (mCons (mVar 5) mNil))))
  (mIf (mOrT (mCmpT fNe (mBin fIs (mVar 8) (mC .none)) (mBin fIs (mVar 6) (mC .none))) (mAndT (mCmpT fIsNot (mVar 8) (mC .none)) (mCmpT fNe (mPrp 0 f_Code_words (mVar 8)) (mVar 6)))) (mRet (mC (.bool false))) mSkip)))))))))
  (mRet (mC (.bool true))))
def f_law : Fn := mkFn 1 9 m_law
theorem b_law {g : Gs}  (d__law_pen : Def g 1 "_law_pen" [] f__law_pen) (d__law_cell_at : Def g 1 "_law_cell_at" [] f__law_cell_at) (d__law_great_right : Def g 10 "_law_great_right" [] f__law_great_right) (d__law_draw : Def g 1 "_law_draw" [] f__law_draw) (d__law_pick : Def g 2 "_law_pick" [] f__law_pick) (d__law_due : Def g 3 "_law_due" [] f__law_due) (d_evenly : Def g 9 "evenly" [] f_evenly) (d_Code_words : Prp g 1 0 "words" f_Code_words) : ∀ (E : XK) (w0 : Wd) (H0 : Hp) (X : Cx), OkC g E 10 X → PassesOwn (model X.prog X.w) X.A X.env X.xe → L2N.Takes X (fun cls d _ H => E cls d H) → X.N = n_law → X.env.scope = defScope (t_law) → X.fn = (fun _ => true) → SndB g E w0 H0 X (defBody (t_law)) m_law := by
  intro E w0 H0 X c po tk hN hs hf
  obtain ⟨prog, w', K, mg, base, A, N, s_0, H_0, ⟨e1, e2, e3, e4, e5, e6, e7, e8, e9⟩, outer, stack, ex, fn, calm, pn, xe⟩ := X
  simp only at hN hs hf
  subst hN hs hf
  have nd : (n_law).Nodup := by decide +kernel
  exact (b_cons (z_for c.toOk po (i_rng1 c.toOk (nbg c.toOk "range") (q_max2 c.toOk s_int (q_min2 c.toOk (q_len c.toOk (s_var (i := 0))) s_int))) (g_name (i := 1) nd) (b_cons (z_set (i := 2) nd (s_call c d__law_pen (by decide) (a_cons (s_call c d__law_cell_at (by decide) (a_cons (s_var (i := 0)) (a_cons (s_var (i := 1)) a_nil))) a_nil)))
  (b_cons (z_if (t_w (w_and (t_cmp (c_eq c.toOk) (s_var (i := 1)) s_int) (w_and1 (t_not (t_val c.toOk (s_call c d__law_great_right (by decide) (a_cons (s_var (i := 2)) a_nil))))))) (b_one (z_ret s_bool)) b_nil)
  (b_cons (z_setLc (i := 3) (own := [("_law_turn", 7)]) c.toOk nd rfl rfl (sw_true rfl rfl rfl (by decide +kernel)) (i_rng1 c.toOk (nbg c.toOk "range") s_int) (by first | exact L2.blkOk_by (by decide +kernel) | exact L2.blkOk_by (by kernel_rfl)) (by decide) (fun _ _ _ _ _ => (g_name (i := 7) nd)) (fun _ _ _ _ _ => ts_nil) (fun _ _ _ _ _ => (fun (cb : OkC g E0 10 _) => (s_tup (a_cons (s_add cb.toOk s_int (s_call cb d__law_draw (by decide) (a_cons (s_var (i := 2)) (a_cons s_int a_nil)))) (a_cons (s_add cb.toOk s_int (s_call cb d__law_draw (by decide) (a_cons (s_var (i := 2)) (a_cons s_int a_nil)))) a_nil)))) (c.blk _ _ _ _ _)))
  (b_one (z_for c.toOk po (i_seq c.toOk (s_add c.toOk (s_var (i := 3)) (f_val (f_lst (a_cons (s_tup (a_cons (s_call c d__law_pick (by decide) (a_cons (s_var (i := 2)) (a_cons (f_val (f_lst (a_cons s_int (a_cons s_int (a_cons s_int a_nil))))) a_nil))) (a_cons s_int a_nil))) (a_cons (s_tup (a_cons s_int (a_cons s_int a_nil))) a_nil)))))) (g_tup c.toOk (gs_cons (g_name (i := 4) nd) (gs_cons (g_name (i := 5) nd) gs_nil)) (n_cons (n_cons n_nil))) (b_cons (z_set (i := 6) nd (s_call c d__law_due (by decide) (a_cons (s_var (i := 4)) (a_cons (s_var (i := 5)) a_nil))))
  (b_one (z_for c.toOk po (i_rng1 c.toOk (nbg c.toOk "range") s_int) (g_name (i := 7) nd) (b_cons (z_set (i := 8) nd (s_call c d_evenly (by decide) (a_cons (s_var (i := 4)) (a_cons (s_var (i := 5)) a_nil))))
  (b_one (z_if (t_w (w_or (t_cmp (c_ne c.toOk) (s_cmp c_is (s_var (i := 8)) s_none) (s_cmp c_is (s_var (i := 6)) s_none)) (w_or1 (t_w (w_and (t_cmp c_isnot (s_var (i := 8)) s_none) (w_and1 (t_cmp (c_ne c.toOk) (s_prp c d_Code_words (by decide) (s_var (i := 8))) (s_var (i := 6))))))))) (b_one (z_ret s_bool)) b_nil))))))))))))
  (b_one (z_ret s_bool)))
set_option maxHeartbeats 0 in
theorem all_mk {l : PySem.W.OpenLaw} {w : World} {K : PySem.W.Frag} {h : Heap} {mg : Str → Option Value} {fa : Addr} {C0 : Addr} {uG_MOST_MADE_BITS : Tok} {uG_FEWEST : Tok} {uG_MOST_VALUES : Tok} {uG_FEWEST_VALUES : Tok} {uG_MOST_BITS : Tok} {ad_MANY_WORDS : Addr} {u0_MANY_WORDS : Tok} {u1_MANY_WORDS : Tok} {u2_MANY_WORDS : Tok} {u3_MANY_WORDS : Tok} {u4_MANY_WORDS : Tok} {ep_MANY_WORDS : Nat} {sl_MANY_WORDS : Array (Option Value)} {f_place_of_ : Addr} {odplace_of anplace_of : Option Addr} {slplace_of : Array (Option Value)} {ocplace_of kVplace_of dcplace_of pmplace_of cdplace_of ctplace_of : Value} {f_most_changes_ : Addr} {odmost_changes anmost_changes : Option Addr} {slmost_changes : Array (Option Value)} {ocmost_changes kVmost_changes dcmost_changes pmmost_changes cdmost_changes ctmost_changes : Value} {f_is_even_ : Addr} {odis_even anis_even : Option Addr} {slis_even : Array (Option Value)} {ocis_even kVis_even dcis_even pmis_even cdis_even ctis_even : Value} {f__law_pen_ : Addr} {od_law_pen an_law_pen : Option Addr} {sl_law_pen : Array (Option Value)} {oc_law_pen kV_law_pen dc_law_pen pm_law_pen cd_law_pen ct_law_pen : Value} {f__law_cell_at_ : Addr} {od_law_cell_at an_law_cell_at : Option Addr} {sl_law_cell_at : Array (Option Value)} {oc_law_cell_at kV_law_cell_at dc_law_cell_at pm_law_cell_at cd_law_cell_at ct_law_cell_at : Value} {f__law_near_ : Addr} {od_law_near an_law_near : Option Addr} {sl_law_near : Array (Option Value)} {oc_law_near kV_law_near dc_law_near pm_law_near cd_law_near ct_law_near : Value} {f__law_apart_ : Addr} {od_law_apart an_law_apart : Option Addr} {sl_law_apart : Array (Option Value)} {oc_law_apart kV_law_apart dc_law_apart pm_law_apart cd_law_apart ct_law_apart : Value} {f__law_rings_ : Addr} {od_law_rings an_law_rings : Option Addr} {sl_law_rings : Array (Option Value)} {oc_law_rings kV_law_rings dc_law_rings pm_law_rings cd_law_rings ct_law_rings : Value} {f__law_all_ : Addr} {od_law_all an_law_all : Option Addr} {sl_law_all : Array (Option Value)} {oc_law_all kV_law_all dc_law_all pm_law_all cd_law_all ct_law_all : Value} {f__law_counts_ : Addr} {od_law_counts an_law_counts : Option Addr} {sl_law_counts : Array (Option Value)} {oc_law_counts kV_law_counts dc_law_counts pm_law_counts cd_law_counts ct_law_counts : Value} {f__law_due_ : Addr} {od_law_due an_law_due : Option Addr} {sl_law_due : Array (Option Value)} {oc_law_due kV_law_due dc_law_due pm_law_due cd_law_due ct_law_due : Value} {f__law_draw_ : Addr} {od_law_draw an_law_draw : Option Addr} {sl_law_draw : Array (Option Value)} {oc_law_draw kV_law_draw dc_law_draw pm_law_draw cd_law_draw ct_law_draw : Value} {f_is_between_ : Addr} {odis_between anis_between : Option Addr} {slis_between : Array (Option Value)} {ocis_between kVis_between dcis_between pmis_between cdis_between ctis_between : Value} {f_need_bits_ : Addr} {odneed_bits anneed_bits : Option Addr} {slneed_bits : Array (Option Value)} {ocneed_bits kVneed_bits dcneed_bits pmneed_bits cdneed_bits ctneed_bits : Value} {f_need_sizes_ : Addr} {odneed_sizes anneed_sizes : Option Addr} {slneed_sizes : Array (Option Value)} {ocneed_sizes kVneed_sizes dcneed_sizes pmneed_sizes cdneed_sizes ctneed_sizes : Value} {f_changed_ : Addr} {odchanged anchanged : Option Addr} {slchanged : Array (Option Value)} {occhanged kVchanged dcchanged pmchanged cdchanged ctchanged : Value} {f_next_words_ : Addr} {odnext_words annext_words : Option Addr} {slnext_words : Array (Option Value)} {ocnext_words kVnext_words dcnext_words pmnext_words cdnext_words ctnext_words : Value} {f_can_close_ : Addr} {odcan_close ancan_close : Option Addr} {slcan_close : Array (Option Value)} {occan_close kVcan_close dccan_close pmcan_close cdcan_close ctcan_close : Value} {f_are_bits_ : Addr} {odare_bits anare_bits : Option Addr} {slare_bits : Array (Option Value)} {ocare_bits kVare_bits dcare_bits pmare_bits cdare_bits ctare_bits : Value} {f_are_words_ : Addr} {odare_words anare_words : Option Addr} {slare_words : Array (Option Value)} {ocare_words kVare_words dcare_words pmare_words cdare_words ctare_words : Value} {f_CodeX_initX_ : Addr} {odCodeX_initX anCodeX_initX : Option Addr} {slCodeX_initX : Array (Option Value)} {ocCodeX_initX kVCodeX_initX dcCodeX_initX pmCodeX_initX cdCodeX_initX ctCodeX_initX : Value} {f_first_ring_ : Addr} {odfirst_ring anfirst_ring : Option Addr} {slfirst_ring : Array (Option Value)} {ocfirst_ring kVfirst_ring dcfirst_ring pmfirst_ring cdfirst_ring ctfirst_ring : Value} {f_made_single_ : Addr} {odmade_single anmade_single : Option Addr} {slmade_single : Array (Option Value)} {ocmade_single kVmade_single dcmade_single pmmade_single cdmade_single ctmade_single : Value} {f_made_evenly_ : Addr} {odmade_evenly anmade_evenly : Option Addr} {slmade_evenly : Array (Option Value)} {ocmade_evenly kVmade_evenly dcmade_evenly pmmade_evenly cdmade_evenly ctmade_evenly : Value} {f_evenly_ : Addr} {odevenly anevenly : Option Addr} {slevenly : Array (Option Value)} {ocevenly kVevenly dcevenly pmevenly cdevenly ctevenly : Value} {f__law_first_even_ : Addr} {od_law_first_even an_law_first_even : Option Addr} {sl_law_first_even : Array (Option Value)} {oc_law_first_even kV_law_first_even dc_law_first_even pm_law_first_even cd_law_first_even ct_law_first_even : Value} {f_CodeX_eqX_ : Addr} {odCodeX_eqX anCodeX_eqX : Option Addr} {slCodeX_eqX : Array (Option Value)} {ocCodeX_eqX kVCodeX_eqX dcCodeX_eqX pmCodeX_eqX cdCodeX_eqX ctCodeX_eqX : Value} {f_Code_words_ : Addr} {odCode_words anCode_words : Option Addr} {slCode_words : Array (Option Value)} {ocCode_words kVCode_words dcCode_words pmCode_words cdCode_words ctCode_words : Value} {pCode_words : Addr} {rsCode_words : List Value} {f__law_great_right_ : Addr} {od_law_great_right an_law_great_right : Option Addr} {sl_law_great_right : Array (Option Value)} {oc_law_great_right kV_law_great_right dc_law_great_right pm_law_great_right cd_law_great_right ct_law_great_right : Value} {f__law_pick_ : Addr} {od_law_pick an_law_pick : Option Addr} {sl_law_pick : Array (Option Value)} {oc_law_pick kV_law_pick dc_law_pick pm_law_pick cd_law_pick ct_law_pick : Value} {f_law_ : Addr} {odlaw anlaw : Option Addr} {sllaw : Array (Option Value)} {oclaw kVlaw dclaw pmlaw cdlaw ctlaw : Value} {k0made_single Pmade_single : Addr} {ydmade_single : Option Addr} {yvmade_single : Array Value} {yslmade_single : Array (Option Value)} {yfmade_single : Str} {ytmade_single ygmade_single yxmade_single : Tok} {ylmade_single yemade_single : Int} {ybmade_single : Bool} {k0made_evenly Pmade_evenly : Addr} {ydmade_evenly : Option Addr} {yvmade_evenly : Array Value} {yslmade_evenly : Array (Option Value)} {yfmade_evenly : Str} {ytmade_evenly ygmade_evenly yxmade_evenly : Tok} {ylmade_evenly yemade_evenly : Int} {ybmade_evenly : Bool} (X : K.In h) (G : h.Ns mainGlobals mg) (hfa : mg "law" = some (.ref fa))
    (aC0 : PySem.W.nsIn K mainGlobals "Code" = some (some (.ref C0)))
    (pgC0 : PySem.W.plainGet K C0 Str.empty = true)
    (hdC0 : PySem.W.hasDictIn K C0 = true)
    (poC0 : PySem.W.plainOver K C0 = true)
    (saC0 : PySem.W.findIn K (.ref C0) "__setattr__" = some (some (.builtin "object.__setattr__")))
    (mkC0 : PySem.W.makesIn K C0 = true)
    (kcC0 : PySem.W.keepIn K (.ref C0) = true)
    (n0C0 : PySem.W.findIn K (.ref C0) "row" = some none)
    (n1C0 : PySem.W.findIn K (.ref C0) "known" = some none)
    (dcC0 : PySem.W.findIn K (.ref C0) "__class__" = some (some (.builtin "object.__class__")))
    (moC0 : PySem.W.mroIn K C0 (.type "object") = some true)
    (bintC0 : PySem.W.mroIn K C0 (.type "int") = some false)
    (bboolC0 : PySem.W.mroIn K C0 (.type "bool") = some false)
    (btupleC0 : PySem.W.mroIn K C0 (.type "tuple") = some false)
    (bstrC0 : PySem.W.mroIn K C0 (.type "str") = some false)
    (blistC0 : PySem.W.mroIn K C0 (.type "list") = some false)
    (bNoneTypeC0 : PySem.W.mroIn K C0 (.type "NoneType") = some false)
    (bdictC0 : PySem.W.mroIn K C0 (.type "dict") = some false)
    (icC0 : PySem.W.isClsIn K C0 = true)
    (tyC0 : PySem.W.typeIn K (.ref C0) = some (.type "type"))
    (hn : PySem.W.specialIn K (.builtin "object.__class__") "__get__" = some (some (.builtin "getset_descriptor.__get__")))
    (htk : PySem.W.takesIn K (.builtin "object.__class__") = some true)
    (zlen : PySem.W.nsIn K mainGlobals "len" = some none)
    (zrange : PySem.W.nsIn K mainGlobals "range" = some none)
    (zisinstance : PySem.W.nsIn K mainGlobals "isinstance" = some none)
    (ztuple : PySem.W.nsIn K mainGlobals "tuple" = some none)
    (zlist : PySem.W.nsIn K mainGlobals "list" = some none)
    (zall : PySem.W.nsIn K mainGlobals "all" = some none)
    (zany : PySem.W.nsIn K mainGlobals "any" = some none)
    (zmax : PySem.W.nsIn K mainGlobals "max" = some none)
    (zmin : PySem.W.nsIn K mainGlobals "min" = some none)
    (zset : PySem.W.nsIn K mainGlobals "set" = some none)
    (zsorted : PySem.W.nsIn K mainGlobals "sorted" = some none)
    (zenumerate : PySem.W.nsIn K mainGlobals "enumerate" = some none)
    (zzip : PySem.W.nsIn K mainGlobals "zip" = some none)
    (zrepr : PySem.W.nsIn K mainGlobals "repr" = some none)
    (zstr : PySem.W.nsIn K mainGlobals "str" = some none)
    (zint : PySem.W.nsIn K mainGlobals "int" = some none)
    (zsum : PySem.W.nsIn K mainGlobals "sum" = some none)
    (zdict : PySem.W.nsIn K mainGlobals "dict" = some none)
    (zbool : PySem.W.nsIn K mainGlobals "bool" = some none)
    (vG_MOST_MADE_BITS : PySem.W.nsIn K mainGlobals "MOST_MADE_BITS" = some (some (.int (4) uG_MOST_MADE_BITS)))
    (vG_FEWEST : PySem.W.nsIn K mainGlobals "FEWEST" = some (some (.int (2) uG_FEWEST)))
    (vG_MOST_VALUES : PySem.W.nsIn K mainGlobals "MOST_VALUES" = some (some (.int (16) uG_MOST_VALUES)))
    (vG_FEWEST_VALUES : PySem.W.nsIn K mainGlobals "FEWEST_VALUES" = some (some (.int (2) uG_FEWEST_VALUES)))
    (vG_MOST_BITS : PySem.W.nsIn K mainGlobals "MOST_BITS" = some (some (.int (5) uG_MOST_BITS)))
    (v_MANY_WORDS : PySem.W.nsIn K mainGlobals "MANY_WORDS" = some (some (.ref ad_MANY_WORDS)))
    (w_MANY_WORDS : K.lookup ad_MANY_WORDS = some ⟨.type "tuple", none, .seq #[.int (1) u0_MANY_WORDS, .int (2) u1_MANY_WORDS, .int (4) u2_MANY_WORDS, .int (8) u3_MANY_WORDS, .int (16) u4_MANY_WORDS] ep_MANY_WORDS, sl_MANY_WORDS⟩)
    (aplace_of : PySem.W.nsIn K mainGlobals "place_of" = some (some (.ref f_place_of_)))
    (lplace_of : K.lookup f_place_of_ = some ⟨ocplace_of, odplace_of, .func (PySem.W.fnOf "place_of" "place_of" (defArgs t_place_of) (defBody t_place_of) (defScope t_place_of) .none kVplace_of dcplace_of pmplace_of anplace_of cdplace_of ctplace_of), slplace_of⟩)
    (cplace_of : PySem.W.codeIn K cdplace_of "place_of" = true)
    (kplace_of : PySem.W.keepIn K (.ref f_place_of_) = true)
    (amost_changes : PySem.W.nsIn K mainGlobals "most_changes" = some (some (.ref f_most_changes_)))
    (lmost_changes : K.lookup f_most_changes_ = some ⟨ocmost_changes, odmost_changes, .func (PySem.W.fnOf "most_changes" "most_changes" (defArgs t_most_changes) (defBody t_most_changes) (defScope t_most_changes) .none kVmost_changes dcmost_changes pmmost_changes anmost_changes cdmost_changes ctmost_changes), slmost_changes⟩)
    (cmost_changes : PySem.W.codeIn K cdmost_changes "most_changes" = true)
    (kmost_changes : PySem.W.keepIn K (.ref f_most_changes_) = true)
    (ais_even : PySem.W.nsIn K mainGlobals "is_even" = some (some (.ref f_is_even_)))
    (lis_even : K.lookup f_is_even_ = some ⟨ocis_even, odis_even, .func (PySem.W.fnOf "is_even" "is_even" (defArgs t_is_even) (defBody t_is_even) (defScope t_is_even) .none kVis_even dcis_even pmis_even anis_even cdis_even ctis_even), slis_even⟩)
    (cis_even : PySem.W.codeIn K cdis_even "is_even" = true)
    (kis_even : PySem.W.keepIn K (.ref f_is_even_) = true)
    (a_law_pen : PySem.W.nsIn K mainGlobals "_law_pen" = some (some (.ref f__law_pen_)))
    (l_law_pen : K.lookup f__law_pen_ = some ⟨oc_law_pen, od_law_pen, .func (PySem.W.fnOf "_law_pen" "_law_pen" (defArgs t__law_pen) (defBody t__law_pen) (defScope t__law_pen) .none kV_law_pen dc_law_pen pm_law_pen an_law_pen cd_law_pen ct_law_pen), sl_law_pen⟩)
    (c_law_pen : PySem.W.codeIn K cd_law_pen "_law_pen" = true)
    (k_law_pen : PySem.W.keepIn K (.ref f__law_pen_) = true)
    (a_law_cell_at : PySem.W.nsIn K mainGlobals "_law_cell_at" = some (some (.ref f__law_cell_at_)))
    (l_law_cell_at : K.lookup f__law_cell_at_ = some ⟨oc_law_cell_at, od_law_cell_at, .func (PySem.W.fnOf "_law_cell_at" "_law_cell_at" (defArgs t__law_cell_at) (defBody t__law_cell_at) (defScope t__law_cell_at) .none kV_law_cell_at dc_law_cell_at pm_law_cell_at an_law_cell_at cd_law_cell_at ct_law_cell_at), sl_law_cell_at⟩)
    (c_law_cell_at : PySem.W.codeIn K cd_law_cell_at "_law_cell_at" = true)
    (k_law_cell_at : PySem.W.keepIn K (.ref f__law_cell_at_) = true)
    (a_law_near : PySem.W.nsIn K mainGlobals "_law_near" = some (some (.ref f__law_near_)))
    (l_law_near : K.lookup f__law_near_ = some ⟨oc_law_near, od_law_near, .func (PySem.W.fnOf "_law_near" "_law_near" (defArgs t__law_near) (defBody t__law_near) (defScope t__law_near) .none kV_law_near dc_law_near pm_law_near an_law_near cd_law_near ct_law_near), sl_law_near⟩)
    (c_law_near : PySem.W.codeIn K cd_law_near "_law_near" = true)
    (k_law_near : PySem.W.keepIn K (.ref f__law_near_) = true)
    (a_law_apart : PySem.W.nsIn K mainGlobals "_law_apart" = some (some (.ref f__law_apart_)))
    (l_law_apart : K.lookup f__law_apart_ = some ⟨oc_law_apart, od_law_apart, .func (PySem.W.fnOf "_law_apart" "_law_apart" (defArgs t__law_apart) (defBody t__law_apart) (defScope t__law_apart) .none kV_law_apart dc_law_apart pm_law_apart an_law_apart cd_law_apart ct_law_apart), sl_law_apart⟩)
    (c_law_apart : PySem.W.codeIn K cd_law_apart "_law_apart" = true)
    (k_law_apart : PySem.W.keepIn K (.ref f__law_apart_) = true)
    (a_law_rings : PySem.W.nsIn K mainGlobals "_law_rings" = some (some (.ref f__law_rings_)))
    (l_law_rings : K.lookup f__law_rings_ = some ⟨oc_law_rings, od_law_rings, .func (PySem.W.fnOf "_law_rings" "_law_rings" (defArgs t__law_rings) (defBody t__law_rings) (defScope t__law_rings) .none kV_law_rings dc_law_rings pm_law_rings an_law_rings cd_law_rings ct_law_rings), sl_law_rings⟩)
    (c_law_rings : PySem.W.codeIn K cd_law_rings "_law_rings" = true)
    (k_law_rings : PySem.W.keepIn K (.ref f__law_rings_) = true)
    (a_law_all : PySem.W.nsIn K mainGlobals "_law_all" = some (some (.ref f__law_all_)))
    (l_law_all : K.lookup f__law_all_ = some ⟨oc_law_all, od_law_all, .func (PySem.W.fnOf "_law_all" "_law_all" (defArgs t__law_all) (defBody t__law_all) (defScope t__law_all) .none kV_law_all dc_law_all pm_law_all an_law_all cd_law_all ct_law_all), sl_law_all⟩)
    (c_law_all : PySem.W.codeIn K cd_law_all "_law_all" = true)
    (k_law_all : PySem.W.keepIn K (.ref f__law_all_) = true)
    (a_law_counts : PySem.W.nsIn K mainGlobals "_law_counts" = some (some (.ref f__law_counts_)))
    (l_law_counts : K.lookup f__law_counts_ = some ⟨oc_law_counts, od_law_counts, .func (PySem.W.fnOf "_law_counts" "_law_counts" (defArgs t__law_counts) (defBody t__law_counts) (defScope t__law_counts) .none kV_law_counts dc_law_counts pm_law_counts an_law_counts cd_law_counts ct_law_counts), sl_law_counts⟩)
    (c_law_counts : PySem.W.codeIn K cd_law_counts "_law_counts" = true)
    (k_law_counts : PySem.W.keepIn K (.ref f__law_counts_) = true)
    (a_law_due : PySem.W.nsIn K mainGlobals "_law_due" = some (some (.ref f__law_due_)))
    (l_law_due : K.lookup f__law_due_ = some ⟨oc_law_due, od_law_due, .func (PySem.W.fnOf "_law_due" "_law_due" (defArgs t__law_due) (defBody t__law_due) (defScope t__law_due) .none kV_law_due dc_law_due pm_law_due an_law_due cd_law_due ct_law_due), sl_law_due⟩)
    (c_law_due : PySem.W.codeIn K cd_law_due "_law_due" = true)
    (k_law_due : PySem.W.keepIn K (.ref f__law_due_) = true)
    (a_law_draw : PySem.W.nsIn K mainGlobals "_law_draw" = some (some (.ref f__law_draw_)))
    (l_law_draw : K.lookup f__law_draw_ = some ⟨oc_law_draw, od_law_draw, .func (PySem.W.fnOf "_law_draw" "_law_draw" (defArgs t__law_draw) (defBody t__law_draw) (defScope t__law_draw) .none kV_law_draw dc_law_draw pm_law_draw an_law_draw cd_law_draw ct_law_draw), sl_law_draw⟩)
    (c_law_draw : PySem.W.codeIn K cd_law_draw "_law_draw" = true)
    (k_law_draw : PySem.W.keepIn K (.ref f__law_draw_) = true)
    (ais_between : PySem.W.nsIn K mainGlobals "is_between" = some (some (.ref f_is_between_)))
    (lis_between : K.lookup f_is_between_ = some ⟨ocis_between, odis_between, .func (PySem.W.fnOf "is_between" "is_between" (defArgs t_is_between) (defBody t_is_between) (defScope t_is_between) .none kVis_between dcis_between pmis_between anis_between cdis_between ctis_between), slis_between⟩)
    (cis_between : PySem.W.codeIn K cdis_between "is_between" = true)
    (kis_between : PySem.W.keepIn K (.ref f_is_between_) = true)
    (aneed_bits : PySem.W.nsIn K mainGlobals "need_bits" = some (some (.ref f_need_bits_)))
    (lneed_bits : K.lookup f_need_bits_ = some ⟨ocneed_bits, odneed_bits, .func (PySem.W.fnOf "need_bits" "need_bits" (defArgs t_need_bits) (defBody t_need_bits) (defScope t_need_bits) .none kVneed_bits dcneed_bits pmneed_bits anneed_bits cdneed_bits ctneed_bits), slneed_bits⟩)
    (cneed_bits : PySem.W.codeIn K cdneed_bits "need_bits" = true)
    (kneed_bits : PySem.W.keepIn K (.ref f_need_bits_) = true)
    (aneed_sizes : PySem.W.nsIn K mainGlobals "need_sizes" = some (some (.ref f_need_sizes_)))
    (lneed_sizes : K.lookup f_need_sizes_ = some ⟨ocneed_sizes, odneed_sizes, .func (PySem.W.fnOf "need_sizes" "need_sizes" (defArgs t_need_sizes) (defBody t_need_sizes) (defScope t_need_sizes) .none kVneed_sizes dcneed_sizes pmneed_sizes anneed_sizes cdneed_sizes ctneed_sizes), slneed_sizes⟩)
    (cneed_sizes : PySem.W.codeIn K cdneed_sizes "need_sizes" = true)
    (kneed_sizes : PySem.W.keepIn K (.ref f_need_sizes_) = true)
    (achanged : PySem.W.nsIn K mainGlobals "changed" = some (some (.ref f_changed_)))
    (lchanged : K.lookup f_changed_ = some ⟨occhanged, odchanged, .func (PySem.W.fnOf "changed" "changed" (defArgs t_changed) (defBody t_changed) (defScope t_changed) .none kVchanged dcchanged pmchanged anchanged cdchanged ctchanged), slchanged⟩)
    (cchanged : PySem.W.codeIn K cdchanged "changed" = true)
    (kchanged : PySem.W.keepIn K (.ref f_changed_) = true)
    (anext_words : PySem.W.nsIn K mainGlobals "next_words" = some (some (.ref f_next_words_)))
    (lnext_words : K.lookup f_next_words_ = some ⟨ocnext_words, odnext_words, .func (PySem.W.fnOf "next_words" "next_words" (defArgs t_next_words) (defBody t_next_words) (defScope t_next_words) .none kVnext_words dcnext_words pmnext_words annext_words cdnext_words ctnext_words), slnext_words⟩)
    (cnext_words : PySem.W.codeIn K cdnext_words "next_words" = true)
    (knext_words : PySem.W.keepIn K (.ref f_next_words_) = true)
    (acan_close : PySem.W.nsIn K mainGlobals "can_close" = some (some (.ref f_can_close_)))
    (lcan_close : K.lookup f_can_close_ = some ⟨occan_close, odcan_close, .func (PySem.W.fnOf "can_close" "can_close" (defArgs t_can_close) (defBody t_can_close) (defScope t_can_close) .none kVcan_close dccan_close pmcan_close ancan_close cdcan_close ctcan_close), slcan_close⟩)
    (ccan_close : PySem.W.codeIn K cdcan_close "can_close" = true)
    (kcan_close : PySem.W.keepIn K (.ref f_can_close_) = true)
    (aare_bits : PySem.W.nsIn K mainGlobals "are_bits" = some (some (.ref f_are_bits_)))
    (lare_bits : K.lookup f_are_bits_ = some ⟨ocare_bits, odare_bits, .func (PySem.W.fnOf "are_bits" "are_bits" (defArgs t_are_bits) (defBody t_are_bits) (defScope t_are_bits) .none kVare_bits dcare_bits pmare_bits anare_bits cdare_bits ctare_bits), slare_bits⟩)
    (care_bits : PySem.W.codeIn K cdare_bits "are_bits" = true)
    (kare_bits : PySem.W.keepIn K (.ref f_are_bits_) = true)
    (aare_words : PySem.W.nsIn K mainGlobals "are_words" = some (some (.ref f_are_words_)))
    (lare_words : K.lookup f_are_words_ = some ⟨ocare_words, odare_words, .func (PySem.W.fnOf "are_words" "are_words" (defArgs t_are_words) (defBody t_are_words) (defScope t_are_words) .none kVare_words dcare_words pmare_words anare_words cdare_words ctare_words), slare_words⟩)
    (care_words : PySem.W.codeIn K cdare_words "are_words" = true)
    (kare_words : PySem.W.keepIn K (.ref f_are_words_) = true)
    (aCodeX_initX : PySem.W.findIn K (.ref C0) "__init__" = some (some (.ref f_CodeX_initX_)))
    (iCodeX_initX : PySem.W.isFn K (.ref f_CodeX_initX_) = true)
    (lCodeX_initX : K.lookup f_CodeX_initX_ = some ⟨ocCodeX_initX, odCodeX_initX, .func (PySem.W.fnOf "__init__" "Code.__init__" (defArgs t_CodeX_initX) (defBody t_CodeX_initX) (defScope t_CodeX_initX) .none kVCodeX_initX dcCodeX_initX pmCodeX_initX anCodeX_initX cdCodeX_initX ctCodeX_initX), slCodeX_initX⟩)
    (cCodeX_initX : PySem.W.codeIn K cdCodeX_initX "Code.__init__" = true)
    (kCodeX_initX : PySem.W.keepIn K (.ref f_CodeX_initX_) = true)
    (afirst_ring : PySem.W.nsIn K mainGlobals "first_ring" = some (some (.ref f_first_ring_)))
    (lfirst_ring : K.lookup f_first_ring_ = some ⟨ocfirst_ring, odfirst_ring, .func (PySem.W.fnOf "first_ring" "first_ring" (defArgs t_first_ring) (defBody t_first_ring) (defScope t_first_ring) .none kVfirst_ring dcfirst_ring pmfirst_ring anfirst_ring cdfirst_ring ctfirst_ring), slfirst_ring⟩)
    (cfirst_ring : PySem.W.codeIn K cdfirst_ring "first_ring" = true)
    (kfirst_ring : PySem.W.keepIn K (.ref f_first_ring_) = true)
    (amade_single : PySem.W.nsIn K mainGlobals "made_single" = some (some (.ref f_made_single_)))
    (lmade_single : K.lookup f_made_single_ = some ⟨ocmade_single, odmade_single, .func (PySem.W.fnOf "made_single" "made_single" (defArgs t_made_single) (defBody t_made_single) (defScope t_made_single) .none kVmade_single dcmade_single pmmade_single anmade_single cdmade_single ctmade_single), slmade_single⟩)
    (cmade_single : PySem.W.codeIn K cdmade_single "made_single" = true)
    (kmade_single : PySem.W.keepIn K (.ref f_made_single_) = true)
    (amade_evenly : PySem.W.nsIn K mainGlobals "made_evenly" = some (some (.ref f_made_evenly_)))
    (lmade_evenly : K.lookup f_made_evenly_ = some ⟨ocmade_evenly, odmade_evenly, .func (PySem.W.fnOf "made_evenly" "made_evenly" (defArgs t_made_evenly) (defBody t_made_evenly) (defScope t_made_evenly) .none kVmade_evenly dcmade_evenly pmmade_evenly anmade_evenly cdmade_evenly ctmade_evenly), slmade_evenly⟩)
    (cmade_evenly : PySem.W.codeIn K cdmade_evenly "made_evenly" = true)
    (kmade_evenly : PySem.W.keepIn K (.ref f_made_evenly_) = true)
    (aevenly : PySem.W.nsIn K mainGlobals "evenly" = some (some (.ref f_evenly_)))
    (levenly : K.lookup f_evenly_ = some ⟨ocevenly, odevenly, .func (PySem.W.fnOf "evenly" "evenly" (defArgs t_evenly) (defBody t_evenly) (defScope t_evenly) .none kVevenly dcevenly pmevenly anevenly cdevenly ctevenly), slevenly⟩)
    (cevenly : PySem.W.codeIn K cdevenly "evenly" = true)
    (kevenly : PySem.W.keepIn K (.ref f_evenly_) = true)
    (a_law_first_even : PySem.W.nsIn K mainGlobals "_law_first_even" = some (some (.ref f__law_first_even_)))
    (l_law_first_even : K.lookup f__law_first_even_ = some ⟨oc_law_first_even, od_law_first_even, .func (PySem.W.fnOf "_law_first_even" "_law_first_even" (defArgs t__law_first_even) (defBody t__law_first_even) (defScope t__law_first_even) .none kV_law_first_even dc_law_first_even pm_law_first_even an_law_first_even cd_law_first_even ct_law_first_even), sl_law_first_even⟩)
    (c_law_first_even : PySem.W.codeIn K cd_law_first_even "_law_first_even" = true)
    (k_law_first_even : PySem.W.keepIn K (.ref f__law_first_even_) = true)
    (neC0 : PySem.W.findIn K (.ref C0) "__ne__" = some (some (.builtin "object.__ne__")))
    (aCodeX_eqX : PySem.W.findIn K (.ref C0) "__eq__" = some (some (.ref f_CodeX_eqX_)))
    (iCodeX_eqX : PySem.W.isFn K (.ref f_CodeX_eqX_) = true)
    (jCodeX_eqX : PySem.W.fnIn K f_CodeX_eqX_ = true)
    (lCodeX_eqX : K.lookup f_CodeX_eqX_ = some ⟨ocCodeX_eqX, odCodeX_eqX, .func (PySem.W.fnOf "__eq__" "Code.__eq__" (defArgs t_CodeX_eqX) (defBody t_CodeX_eqX) (defScope t_CodeX_eqX) .none kVCodeX_eqX dcCodeX_eqX pmCodeX_eqX anCodeX_eqX cdCodeX_eqX ctCodeX_eqX), slCodeX_eqX⟩)
    (cCodeX_eqX : PySem.W.codeIn K cdCodeX_eqX "Code.__eq__" = true)
    (kCodeX_eqX : PySem.W.keepIn K (.ref f_CodeX_eqX_) = true)
    (aCode_words : PySem.W.findIn K (.ref C0) "words" = some (some (.ref pCode_words)))
    (gCode_words : PySem.W.specialIn K (.ref pCode_words) "__get__" = some (some (.builtin "property.__get__")))
    (tCode_words : PySem.W.takesIn K (.ref pCode_words) = some true)
    (rCode_words : PySem.W.recIn K pCode_words "property" = some (.ref f_Code_words_ :: rsCode_words))
    (lCode_words : K.lookup f_Code_words_ = some ⟨ocCode_words, odCode_words, .func (PySem.W.fnOf "words" "Code.words" (defArgs t_Code_words) (defBody t_Code_words) (defScope t_Code_words) .none kVCode_words dcCode_words pmCode_words anCode_words cdCode_words ctCode_words), slCode_words⟩)
    (cCode_words : PySem.W.codeIn K cdCode_words "Code.words" = true)
    (kCode_words : PySem.W.keepIn K (.ref f_Code_words_) = true)
    (a_law_great_right : PySem.W.nsIn K mainGlobals "_law_great_right" = some (some (.ref f__law_great_right_)))
    (l_law_great_right : K.lookup f__law_great_right_ = some ⟨oc_law_great_right, od_law_great_right, .func (PySem.W.fnOf "_law_great_right" "_law_great_right" (defArgs t__law_great_right) (defBody t__law_great_right) (defScope t__law_great_right) .none kV_law_great_right dc_law_great_right pm_law_great_right an_law_great_right cd_law_great_right ct_law_great_right), sl_law_great_right⟩)
    (c_law_great_right : PySem.W.codeIn K cd_law_great_right "_law_great_right" = true)
    (k_law_great_right : PySem.W.keepIn K (.ref f__law_great_right_) = true)
    (a_law_pick : PySem.W.nsIn K mainGlobals "_law_pick" = some (some (.ref f__law_pick_)))
    (l_law_pick : K.lookup f__law_pick_ = some ⟨oc_law_pick, od_law_pick, .func (PySem.W.fnOf "_law_pick" "_law_pick" (defArgs t__law_pick) (defBody t__law_pick) (defScope t__law_pick) .none kV_law_pick dc_law_pick pm_law_pick an_law_pick cd_law_pick ct_law_pick), sl_law_pick⟩)
    (c_law_pick : PySem.W.codeIn K cd_law_pick "_law_pick" = true)
    (k_law_pick : PySem.W.keepIn K (.ref f__law_pick_) = true)
    (alaw : PySem.W.nsIn K mainGlobals "law" = some (some (.ref f_law_)))
    (llaw : K.lookup f_law_ = some ⟨oclaw, odlaw, .func (PySem.W.fnOf "law" "law" (defArgs t_law) (defBody t_law) (defScope t_law) .none kVlaw dclaw pmlaw anlaw cdlaw ctlaw), sllaw⟩)
    (claw : PySem.W.codeIn K cdlaw "law" = true)
    (klaw : PySem.W.keepIn K (.ref f_law_) = true)
    (emade_single : cdmade_single = .ref k0made_single)
    (ymade_single : K.lookup k0made_single = some ⟨.type "code", ydmade_single, .fields yvmade_single, yslmade_single⟩)
    (ypmade_single : yvmade_single[11]? = some (.ref Pmade_single))
    (yqmade_single : yvmade_single.getD 11 .none = .ref Pmade_single)
    (yrmade_single : yvmade_single.getD 18 .none = .str yfmade_single ytmade_single)
    (ysmade_single : yvmade_single.getD 7 .none = .int ylmade_single ygmade_single)
    (yumade_single : yvmade_single.getD 9 .none = .bool ybmade_single)
    (ywmade_single : yvmade_single.getD 10 .none = .int yemade_single yxmade_single)
    (ynmade_single : k0made_single ≠ Pmade_single)
    (ykmade_single : K.lookup Pmade_single = none)
    (owmade_single : h.get? Pmade_single = some { cls := .none, data := .fields #[] })
    (emade_evenly : cdmade_evenly = .ref k0made_evenly)
    (ymade_evenly : K.lookup k0made_evenly = some ⟨.type "code", ydmade_evenly, .fields yvmade_evenly, yslmade_evenly⟩)
    (ypmade_evenly : yvmade_evenly[11]? = some (.ref Pmade_evenly))
    (yqmade_evenly : yvmade_evenly.getD 11 .none = .ref Pmade_evenly)
    (yrmade_evenly : yvmade_evenly.getD 18 .none = .str yfmade_evenly ytmade_evenly)
    (ysmade_evenly : yvmade_evenly.getD 7 .none = .int ylmade_evenly ygmade_evenly)
    (yumade_evenly : yvmade_evenly.getD 9 .none = .bool ybmade_evenly)
    (ywmade_evenly : yvmade_evenly.getD 10 .none = .int yemade_evenly yxmade_evenly)
    (ynmade_evenly : k0made_evenly ≠ Pmade_evenly)
    (ykmade_evenly : K.lookup Pmade_evenly = none)
    (owmade_evenly : h.get? Pmade_evenly = some { cls := .none, data := .fields #[] })
    (yzmade_evenly_made_single : Pmade_evenly ≠ Pmade_single)
    : ∃ (fd : FuncData) (cs : List (Addr × Addr)), (∀ p ∈ cs, h.get? p.2 = some { cls := .none, data := .fields #[] }) ∧ (∀ p ∈ cs, K.lookup p.2 = Option.none) ∧ (∀ p ∈ cs, PySem.W.CodeHd h p.1 p.2) ∧ (∀ (s : Shared) (v : Value), BindsTo s fd ⟨[v], []⟩ [("_law_script", v)]) ∧ ∀ base : Heap, K.In base → base.Ns mainGlobals mg → (∀ p ∈ cs, LamX.TabB base mg p.1 p.2) → ∃ g : Gs, g.K = K ∧ (∀ p ∈ g.tabs, p.1 ∈ cs.map (·.2)) ∧ FnG l.prog w K mg base (L2N.CX l.prog w) 11 fa fd ["_law_script"] (spF g f_law) := by
  have e := hfa.symm.trans (PySem.W.mg_of X G alaw)
  cases e
  have F_place_of := fun_mk (st := t_place_of) lplace_of cplace_of kplace_of
  have F_most_changes := fun_mk (st := t_most_changes) lmost_changes cmost_changes kmost_changes
  have F_is_even := fun_mk (st := t_is_even) lis_even cis_even kis_even
  have F__law_pen := fun_mk (st := t__law_pen) l_law_pen c_law_pen k_law_pen
  have F__law_cell_at := fun_mk (st := t__law_cell_at) l_law_cell_at c_law_cell_at k_law_cell_at
  have F__law_near := fun_mk (st := t__law_near) l_law_near c_law_near k_law_near
  have F__law_apart := fun_mk (st := t__law_apart) l_law_apart c_law_apart k_law_apart
  have F__law_rings := fun_mk (st := t__law_rings) l_law_rings c_law_rings k_law_rings
  have F__law_all := fun_mk (st := t__law_all) l_law_all c_law_all k_law_all
  have F__law_counts := fun_mk (st := t__law_counts) l_law_counts c_law_counts k_law_counts
  have F__law_due := fun_mk (st := t__law_due) l_law_due c_law_due k_law_due
  have F__law_draw := fun_mk (st := t__law_draw) l_law_draw c_law_draw k_law_draw
  have F_is_between := fun_mk (st := t_is_between) lis_between cis_between kis_between
  have F_need_bits := fun_mk (st := t_need_bits) lneed_bits cneed_bits kneed_bits
  have F_need_sizes := fun_mk (st := t_need_sizes) lneed_sizes cneed_sizes kneed_sizes
  have F_changed := fun_mk (st := t_changed) lchanged cchanged kchanged
  have F_next_words := fun_mk (st := t_next_words) lnext_words cnext_words knext_words
  have F_can_close := fun_mk (st := t_can_close) lcan_close ccan_close kcan_close
  have F_are_bits := fun_mk (st := t_are_bits) lare_bits care_bits kare_bits
  have F_are_words := fun_mk (st := t_are_words) lare_words care_words kare_words
  have F_CodeX_initX := fun_mk (st := t_CodeX_initX) lCodeX_initX cCodeX_initX kCodeX_initX
  have F_first_ring := fun_mk (st := t_first_ring) lfirst_ring cfirst_ring kfirst_ring
  have F_made_single := fun_mk (st := t_made_single) lmade_single cmade_single kmade_single
  have F_made_evenly := fun_mk (st := t_made_evenly) lmade_evenly cmade_evenly kmade_evenly
  have F_evenly := fun_mk (st := t_evenly) levenly cevenly kevenly
  have F__law_first_even := fun_mk (st := t__law_first_even) l_law_first_even c_law_first_even k_law_first_even
  have F_CodeX_eqX := fun_mk (st := t_CodeX_eqX) lCodeX_eqX cCodeX_eqX kCodeX_eqX
  have F_Code_words := fun_mk (st := t_Code_words) lCode_words cCode_words kCode_words
  have F__law_great_right := fun_mk (st := t__law_great_right) l_law_great_right c_law_great_right k_law_great_right
  have F__law_pick := fun_mk (st := t__law_pick) l_law_pick c_law_pick k_law_pick
  have F_law := fun_mk (st := t_law) llaw claw klaw
  have cwmade_single : PySem.W.CodeHd h k0made_single Pmade_single := ⟨_, _, _, _, _, _, _, _, _, X _ _ ymade_single, rfl, rfl, ypmade_single, yqmade_single, yrmade_single, ysmade_single, yumade_single, ywmade_single, ynmade_single⟩
  have cwmade_evenly : PySem.W.CodeHd h k0made_evenly Pmade_evenly := ⟨_, _, _, _, _, _, _, _, _, X _ _ ymade_evenly, rfl, rfl, ypmade_evenly, yqmade_evenly, yrmade_evenly, ysmade_evenly, yumade_evenly, ywmade_evenly, ynmade_evenly⟩
  refine ⟨PySem.W.fnOf "law" "law" (defArgs t_law) (defBody t_law) (defScope t_law) .none kVlaw dclaw pmlaw anlaw cdlaw ctlaw, [(k0made_single, Pmade_single), (k0made_evenly, Pmade_evenly)], fun p hp => by
    simp only [List.mem_cons, List.not_mem_nil, or_false] at hp
    rcases hp with rfl | rfl
    · exact owmade_single
    · exact owmade_evenly
    , fun p hp => by
    simp only [List.mem_cons, List.not_mem_nil, or_false] at hp
    rcases hp with rfl | rfl
    · exact ykmade_single
    · exact ykmade_evenly
    , fun p hp => by
    simp only [List.mem_cons, List.not_mem_nil, or_false] at hp
    rcases hp with rfl | rfl
    · exact cwmade_single
    · exact cwmade_evenly
    , fun s v => .of_eq rfl, fun base _ _ TB => ?_⟩
  let gg : Heap → (Nat → LamD) → Gs := fun base' lm => { prog := l.prog, w := w, base := base', K := K, mg := mg, cl := fun n => if n = 0 then C0 else 0, has := fun n => n == 0, tabs := [(Pmade_single, (("made_single" : Str) ++ ".<locals>.") ++ "<lambda>"), (Pmade_evenly, (("made_evenly" : Str) ++ ".<locals>.") ++ "<lambda>")], lam := fun n => if n = 0 then li_0 else if n = 1 then li_1 else if n = 2 then li_2 else ⟨"", ⟨[], [], Option.none, [], [], Option.none, []⟩, noE, defScope t_law⟩, lmd := lm }
  have core : ∀ (base' : Heap) (lm : Nat → LamD), (∀ b o, base.get? b = some o → base'.get? b = some o) → (∀ FL : Nat → Fn, LamsF (gg base' lm) 3 FL → Def (gg base' lm) 6 "first_ring" [] (f_first_ring FL)) ∧ Def (gg base' lm) 3 "is_even" [] f_is_even := by
    intro base' lm hbase
    let g : Gs := { prog := l.prog, w := w, base := base', K := K, mg := mg, cl := fun n => if n = 0 then C0 else 0, has := fun n => n == 0, tabs := [(Pmade_single, (("made_single" : Str) ++ ".<locals>.") ++ "<lambda>"), (Pmade_evenly, (("made_evenly" : Str) ++ ".<locals>.") ++ "<lambda>")], lam := fun n => if n = 0 then li_0 else if n = 1 then li_1 else if n = 2 then li_2 else ⟨"", ⟨[], [], Option.none, [], [], Option.none, []⟩, noE, defScope t_law⟩, lmd := lm }
    have cC0 : ClsC g 0 := ⟨⟨pgC0, hdC0, poC0, saC0⟩, fun f hf => by
      have hf : f ∈ [("row" : Str), ("known" : Str)] := hf
      simp only [List.mem_cons, List.not_mem_nil, or_false] at hf
      rcases hf with rfl | rfl
      · exact n0C0
      · exact n1C0
      , by decide, dcC0, moC0, fun T => by
        cases T
        · exact kit_obj bintC0
        · exact kit_obj bboolC0
        · exact kit_obj btupleC0
        · exact kit_obj bstrC0
        · exact kit_obj blistC0
      , fun n hn => kit_own hn icC0 tyC0
      ⟩
    have hz : ∀ c, g.has c = true → c = 0 := fun c hc => by simpa [g] using hc
    have fx : Fx g := ⟨fun c hc => by rw [hz c hc]; exact cC0, fun c d hc hd => by rw [hz c hc, hz d hd]; exact kit_self, hn, htk, fun x hx => by
      simp only [List.mem_cons, List.not_mem_nil, or_false] at hx
      rcases hx with rfl | rfl | rfl | rfl | rfl | rfl | rfl | rfl | rfl | rfl | rfl | rfl | rfl | rfl | rfl | rfl | rfl | rfl | rfl
      · exact PySem.W.mg_none_of X G zlen
      · exact PySem.W.mg_none_of X G zrange
      · exact PySem.W.mg_none_of X G zisinstance
      · exact PySem.W.mg_none_of X G ztuple
      · exact PySem.W.mg_none_of X G zlist
      · exact PySem.W.mg_none_of X G zall
      · exact PySem.W.mg_none_of X G zany
      · exact PySem.W.mg_none_of X G zmax
      · exact PySem.W.mg_none_of X G zmin
      · exact PySem.W.mg_none_of X G zset
      · exact PySem.W.mg_none_of X G zsorted
      · exact PySem.W.mg_none_of X G zenumerate
      · exact PySem.W.mg_none_of X G zzip
      · exact PySem.W.mg_none_of X G zrepr
      · exact PySem.W.mg_none_of X G zstr
      · exact PySem.W.mg_none_of X G zint
      · exact PySem.W.mg_none_of X G zsum
      · exact PySem.W.mg_none_of X G zdict
      · exact PySem.W.mg_none_of X G zbool
      ⟩
    have C_Code : ClsN g 0 "Code" := ⟨rfl, PySem.W.mg_of X G aC0⟩
    have G_MOST_MADE_BITS : GlobC g "MOST_MADE_BITS" (.int (4)) := ⟨.int (4), _, PySem.W.mg_of X G vG_MOST_MADE_BITS, ⟨_, rfl⟩, fun w => by simp only [Rep]⟩
    have G_FEWEST : GlobC g "FEWEST" (.int (2)) := ⟨.int (2), _, PySem.W.mg_of X G vG_FEWEST, ⟨_, rfl⟩, fun w => by simp only [Rep]⟩
    have G_MOST_VALUES : GlobC g "MOST_VALUES" (.int (16)) := ⟨.int (16), _, PySem.W.mg_of X G vG_MOST_VALUES, ⟨_, rfl⟩, fun w => by simp only [Rep]⟩
    have G_FEWEST_VALUES : GlobC g "FEWEST_VALUES" (.int (2)) := ⟨.int (2), _, PySem.W.mg_of X G vG_FEWEST_VALUES, ⟨_, rfl⟩, fun w => by simp only [Rep]⟩
    have G_MOST_BITS : GlobC g "MOST_BITS" (.int (5)) := ⟨.int (5), _, PySem.W.mg_of X G vG_MOST_BITS, ⟨_, rfl⟩, fun w => by simp only [Rep]⟩
    have G_MANY_WORDS : GlobC g "MANY_WORDS" (.tup [(.int (1)), (.int (2)), (.int (4)), (.int (8)), (.int (16))]) := ⟨.ref ad_MANY_WORDS, _, PySem.W.mg_of X G v_MANY_WORDS, rfl, fun w => by simp only [Rep, Reps]; exact ⟨ad_MANY_WORDS, [.int (1), .int (2), .int (4), .int (8), .int (16)], rfl, .inr ⟨_, _, _, w_MANY_WORDS, rfl, rfl, rfl, by show 5 ≤ sizeLine; decide, .cons ⟨_, rfl⟩ (.cons ⟨_, rfl⟩ (.cons ⟨_, rfl⟩ (.cons ⟨_, rfl⟩ (.cons ⟨_, rfl⟩ (.nil)))))⟩, ⟨_, _, rfl, rfl, ⟨_, _, rfl, rfl, ⟨_, _, rfl, rfl, ⟨_, _, rfl, rfl, ⟨_, _, rfl, rfl, rfl⟩⟩⟩⟩⟩⟩⟩
    have S_place_of : FnScope n_place_of ["word", "other"] (defScope t_place_of) := ⟨rfl, rfl, rfl, by decide +kernel, rfl, by decide +kernel, by decide +kernel⟩
    have bi_place_of := F_place_of.binds (ps := ["word", "other"]) fun _ _ _ _ _ _ us hl => match us, hl with | [_, _], _ => rfl
    have h_place_of := def_ok (g := g) (n := 2) F_place_of S_place_of rfl (by decide) fx (b_place_of (g := g) )
    have d_place_of : Def g 1 "place_of" [] f_place_of := ⟨_, _, _, [], [], h_place_of, PySem.W.mg_of X G aplace_of, kplace_of, bi_place_of, .nil, fun w => by simp only [Reps]⟩
    have S_most_changes : FnScope n_most_changes ["words"] (defScope t_most_changes) := ⟨rfl, rfl, rfl, by decide +kernel, rfl, by decide +kernel, by decide +kernel⟩
    have bi_most_changes := F_most_changes.binds (ps := ["words"]) fun _ _ _ _ _ _ us hl => match us, hl with | [_], _ => rfl
    have h_most_changes := def_ok (g := g) (n := 1) F_most_changes S_most_changes rfl (by decide) fx (b_most_changes (g := g)  d_place_of)
    have d_most_changes : Def g 2 "most_changes" [] f_most_changes := ⟨_, _, _, [], [], h_most_changes, PySem.W.mg_of X G amost_changes, kmost_changes, bi_most_changes, .nil, fun w => by simp only [Reps]⟩
    have S_is_even : FnScope n_is_even ["words", "whole", "most"] (defScope t_is_even) := ⟨rfl, rfl, rfl, by decide +kernel, rfl, by decide +kernel, by decide +kernel⟩
    have bi_is_even := F_is_even.binds (ps := ["words", "whole", "most"]) fun _ _ _ _ _ _ us hl => match us, hl with | [_, _, _], _ => rfl
    have h_is_even := def_ok (g := g) (n := 3) F_is_even S_is_even rfl (by decide) fx (b_is_even (g := g)  d_most_changes)
    have d_is_even : Def g 3 "is_even" [] f_is_even := ⟨_, _, _, [], [], h_is_even, PySem.W.mg_of X G ais_even, kis_even, bi_is_even, .nil, fun w => by simp only [Reps]⟩
    have S_is_between : FnScope n_is_between ["thing", "low", "high"] (defScope t_is_between) := ⟨rfl, rfl, rfl, by decide +kernel, rfl, by decide +kernel, by decide +kernel⟩
    have bi_is_between := F_is_between.binds (ps := ["thing", "low", "high"]) fun _ _ _ _ _ _ us hl => match us, hl with | [_, _, _], _ => rfl
    have h_is_between := def_ok (g := g) (n := 3) F_is_between S_is_between rfl (by decide) fx (b_is_between (g := g) )
    have d_is_between : Def g 1 "is_between" [] f_is_between := ⟨_, _, _, [], [], h_is_between, PySem.W.mg_of X G ais_between, kis_between, bi_is_between, .nil, fun w => by simp only [Reps]⟩
    have S_changed : FnScope n_changed ["word", "place"] (defScope t_changed) := ⟨rfl, rfl, rfl, by decide +kernel, rfl, by decide +kernel, by decide +kernel⟩
    have bi_changed := F_changed.binds (ps := ["word", "place"]) fun _ _ _ _ _ _ us hl => match us, hl with | [_, _], _ => rfl
    have h_changed := def_ok (g := g) (n := 2) F_changed S_changed rfl (by decide) fx (b_changed (g := g) )
    have d_changed : Def g 1 "changed" [] f_changed := ⟨_, _, _, [], [], h_changed, PySem.W.mg_of X G achanged, kchanged, bi_changed, .nil, fun w => by simp only [Reps]⟩
    have S_next_words : FnScope n_next_words ["word"] (defScope t_next_words) := ⟨rfl, rfl, rfl, by decide +kernel, rfl, by decide +kernel, by decide +kernel⟩
    have bi_next_words := F_next_words.binds (ps := ["word"]) fun _ _ _ _ _ _ us hl => match us, hl with | [_], _ => rfl
    have h_next_words := def_ok (g := g) (n := 1) F_next_words S_next_words rfl (by decide) fx (b_next_words (g := g)  d_changed)
    have d_next_words : Def g 2 "next_words" [] f_next_words := ⟨_, _, _, [], [], h_next_words, PySem.W.mg_of X G anext_words, knext_words, bi_next_words, .nil, fun w => by simp only [Reps]⟩
    have S_can_close : FnScope n_can_close ["words", "values"] (defScope t_can_close) := ⟨rfl, rfl, rfl, by decide +kernel, rfl, by decide +kernel, by decide +kernel⟩
    have bi_can_close := F_can_close.binds (ps := ["words", "values"]) fun _ _ _ _ _ _ us hl => match us, hl with | [_, _], _ => rfl
    have h_can_close := def_ok (g := g) (n := 2) F_can_close S_can_close rfl (by decide) fx (b_can_close (g := g) )
    have d_can_close : Def g 1 "can_close" [] f_can_close := ⟨_, _, _, [], [], h_can_close, PySem.W.mg_of X G acan_close, kcan_close, bi_can_close, .nil, fun w => by simp only [Reps]⟩
    have S_are_bits : FnScope n_are_bits ["thing"] (defScope t_are_bits) := ⟨rfl, rfl, rfl, by decide +kernel, rfl, by decide +kernel, by decide +kernel⟩
    have bi_are_bits := F_are_bits.binds (ps := ["thing"]) fun _ _ _ _ _ _ us hl => match us, hl with | [_], _ => rfl
    have h_are_bits := def_ok (g := g) (n := 1) F_are_bits S_are_bits rfl (by decide) fx (b_are_bits (g := g)  d_is_between)
    have d_are_bits : Def g 2 "are_bits" [] f_are_bits := ⟨_, _, _, [], [], h_are_bits, PySem.W.mg_of X G aare_bits, kare_bits, bi_are_bits, .nil, fun w => by simp only [Reps]⟩
    have S_are_words : FnScope n_are_words ["thing"] (defScope t_are_words) := ⟨rfl, rfl, rfl, by decide +kernel, rfl, by decide +kernel, by decide +kernel⟩
    have bi_are_words := F_are_words.binds (ps := ["thing"]) fun _ _ _ _ _ _ us hl => match us, hl with | [_], _ => rfl
    have h_are_words := def_ok (g := g) (n := 1) F_are_words S_are_words rfl (by decide) fx (b_are_words (g := g) G_FEWEST_VALUES G_MOST_VALUES G_MOST_BITS d_are_bits)
    have d_are_words : Def g 3 "are_words" [] f_are_words := ⟨_, _, _, [], [], h_are_words, PySem.W.mg_of X G aare_words, kare_words, bi_are_words, .nil, fun w => by simp only [Reps]⟩
    have S_CodeX_initX : FnScope n_CodeX_initX ["self", "words"] (defScope t_CodeX_initX) := ⟨rfl, rfl, rfl, by decide +kernel, rfl, by decide +kernel, by decide +kernel⟩
    have d_CodeX_initX : Ini g 4 0 f_CodeX_initX := ⟨f_CodeX_initX_, ⟨mkC0, aCodeX_initX, iCodeX_initX, kcC0⟩, init_star (g := g) (c := 0) F_CodeX_initX S_CodeX_initX (by decide) rfl (fun _ _ _ _ _ _ us rest hl => match us, rest, hl with | [_], [], _ => rfl | [_], _ :: _, _ => rfl) fx (b_CodeX_initX (g := g)  d_are_words), rfl⟩
    have S_first_ring : FnScope n_first_ring ["values", "bits", "fits"] (defScope t_first_ring) := ⟨rfl, rfl, rfl, by decide +kernel, rfl, by decide +kernel, by decide +kernel⟩
    have bi_first_ring := F_first_ring.binds (ps := ["values", "bits", "fits"]) fun _ _ _ _ _ _ us hl => match us, hl with | [_, _, _], _ => rfl
    have h_first_ring : ∀ FL : Nat → Fn, LamsF g 3 FL → FnOk g.prog g.w g.K g.mg g.base (L2N.CX g.prog g.w) 6 f_first_ring_ _ ["values", "bits", "fits"] (spF g (f_first_ring FL)) := fun FL lamsF => def_ok (g := g) (n := 3) F_first_ring S_first_ring rfl (by decide) fx (b_first_ring (g := g) FL lamsF C_Code d_next_words d_CodeX_initX d_can_close)
    have D_first_ring : ∀ FL : Nat → Fn, LamsF g 3 FL → Def g 6 "first_ring" [] (f_first_ring FL) := fun FL lamsF => ⟨_, _, _, [], [], h_first_ring FL lamsF, PySem.W.mg_of X G afirst_ring, kfirst_ring, bi_first_ring, .nil, fun w => by simp only [Reps]⟩
    exact ⟨D_first_ring, d_is_even⟩
  let g : Gs := { prog := l.prog, w := w, base := base, K := K, mg := mg, cl := fun n => if n = 0 then C0 else 0, has := fun n => n == 0, tabs := [(Pmade_single, (("made_single" : Str) ++ ".<locals>.") ++ "<lambda>"), (Pmade_evenly, (("made_evenly" : Str) ++ ".<locals>.") ++ "<lambda>")], lam := fun n => if n = 0 then li_0 else if n = 1 then li_1 else if n = 2 then li_2 else ⟨"", ⟨[], [], Option.none, [], [], Option.none, []⟩, noE, defScope t_law⟩ }
  refine ⟨g, rfl, fun p hp => ?_, ?_⟩
  · have hp : p ∈ g.tabs := hp
    simp only [g, List.mem_cons, List.not_mem_nil, or_false] at hp
    rcases hp with rfl | rfl <;> simp
  have cC0 : ClsC g 0 := ⟨⟨pgC0, hdC0, poC0, saC0⟩, fun f hf => by
    have hf : f ∈ [("row" : Str), ("known" : Str)] := hf
    simp only [List.mem_cons, List.not_mem_nil, or_false] at hf
    rcases hf with rfl | rfl
    · exact n0C0
    · exact n1C0
    , by decide, dcC0, moC0, fun T => by
      cases T
      · exact kit_obj bintC0
      · exact kit_obj bboolC0
      · exact kit_obj btupleC0
      · exact kit_obj bstrC0
      · exact kit_obj blistC0
    , fun n hn => kit_own hn icC0 tyC0
    ⟩
  have hz : ∀ c, g.has c = true → c = 0 := fun c hc => by simpa [g] using hc
  have fx : Fx g := ⟨fun c hc => by rw [hz c hc]; exact cC0, fun c d hc hd => by rw [hz c hc, hz d hd]; exact kit_self, hn, htk, fun x hx => by
    simp only [List.mem_cons, List.not_mem_nil, or_false] at hx
    rcases hx with rfl | rfl | rfl | rfl | rfl | rfl | rfl | rfl | rfl | rfl | rfl | rfl | rfl | rfl | rfl | rfl | rfl | rfl | rfl
    · exact PySem.W.mg_none_of X G zlen
    · exact PySem.W.mg_none_of X G zrange
    · exact PySem.W.mg_none_of X G zisinstance
    · exact PySem.W.mg_none_of X G ztuple
    · exact PySem.W.mg_none_of X G zlist
    · exact PySem.W.mg_none_of X G zall
    · exact PySem.W.mg_none_of X G zany
    · exact PySem.W.mg_none_of X G zmax
    · exact PySem.W.mg_none_of X G zmin
    · exact PySem.W.mg_none_of X G zset
    · exact PySem.W.mg_none_of X G zsorted
    · exact PySem.W.mg_none_of X G zenumerate
    · exact PySem.W.mg_none_of X G zzip
    · exact PySem.W.mg_none_of X G zrepr
    · exact PySem.W.mg_none_of X G zstr
    · exact PySem.W.mg_none_of X G zint
    · exact PySem.W.mg_none_of X G zsum
    · exact PySem.W.mg_none_of X G zdict
    · exact PySem.W.mg_none_of X G zbool
    ⟩
  have memmade_single : (Pmade_single, (("made_single" : Str) ++ ".<locals>.") ++ "<lambda>") ∈ g.tabs := .head _
  have unimade_single : ∀ p ∈ g.tabs, p.1 = Pmade_single → p.2 = (("made_single" : Str) ++ ".<locals>.") ++ "<lambda>" := fun p hp e => by
    simp only [g, List.mem_cons, List.not_mem_nil, or_false] at hp
    rcases hp with rfl | rfl
    · rfl
    · exact absurd e yzmade_evenly_made_single
  have tbmade_single : LamX.TabB g.base g.mg k0made_single Pmade_single := TB (k0made_single, Pmade_single) (.head _)
  have memmade_evenly : (Pmade_evenly, (("made_evenly" : Str) ++ ".<locals>.") ++ "<lambda>") ∈ g.tabs := .tail _ (.head _)
  have unimade_evenly : ∀ p ∈ g.tabs, p.1 = Pmade_evenly → p.2 = (("made_evenly" : Str) ++ ".<locals>.") ++ "<lambda>" := fun p hp e => by
    simp only [g, List.mem_cons, List.not_mem_nil, or_false] at hp
    rcases hp with rfl | rfl
    · exact absurd e (Ne.symm yzmade_evenly_made_single)
    · rfl
  have tbmade_evenly : LamX.TabB g.base g.mg k0made_evenly Pmade_evenly := TB (k0made_evenly, Pmade_evenly) (.tail _ (.head _))
  have C_Code : ClsN g 0 "Code" := ⟨rfl, PySem.W.mg_of X G aC0⟩
  have G_MOST_MADE_BITS : GlobC g "MOST_MADE_BITS" (.int (4)) := ⟨.int (4), _, PySem.W.mg_of X G vG_MOST_MADE_BITS, ⟨_, rfl⟩, fun w => by simp only [Rep]⟩
  have G_FEWEST : GlobC g "FEWEST" (.int (2)) := ⟨.int (2), _, PySem.W.mg_of X G vG_FEWEST, ⟨_, rfl⟩, fun w => by simp only [Rep]⟩
  have G_MOST_VALUES : GlobC g "MOST_VALUES" (.int (16)) := ⟨.int (16), _, PySem.W.mg_of X G vG_MOST_VALUES, ⟨_, rfl⟩, fun w => by simp only [Rep]⟩
  have G_FEWEST_VALUES : GlobC g "FEWEST_VALUES" (.int (2)) := ⟨.int (2), _, PySem.W.mg_of X G vG_FEWEST_VALUES, ⟨_, rfl⟩, fun w => by simp only [Rep]⟩
  have G_MOST_BITS : GlobC g "MOST_BITS" (.int (5)) := ⟨.int (5), _, PySem.W.mg_of X G vG_MOST_BITS, ⟨_, rfl⟩, fun w => by simp only [Rep]⟩
  have G_MANY_WORDS : GlobC g "MANY_WORDS" (.tup [(.int (1)), (.int (2)), (.int (4)), (.int (8)), (.int (16))]) := ⟨.ref ad_MANY_WORDS, _, PySem.W.mg_of X G v_MANY_WORDS, rfl, fun w => by simp only [Rep, Reps]; exact ⟨ad_MANY_WORDS, [.int (1), .int (2), .int (4), .int (8), .int (16)], rfl, .inr ⟨_, _, _, w_MANY_WORDS, rfl, rfl, rfl, by show 5 ≤ sizeLine; decide, .cons ⟨_, rfl⟩ (.cons ⟨_, rfl⟩ (.cons ⟨_, rfl⟩ (.cons ⟨_, rfl⟩ (.cons ⟨_, rfl⟩ (.nil)))))⟩, ⟨_, _, rfl, rfl, ⟨_, _, rfl, rfl, ⟨_, _, rfl, rfl, ⟨_, _, rfl, rfl, ⟨_, _, rfl, rfl, rfl⟩⟩⟩⟩⟩⟩⟩
  have S_place_of : FnScope n_place_of ["word", "other"] (defScope t_place_of) := ⟨rfl, rfl, rfl, by decide +kernel, rfl, by decide +kernel, by decide +kernel⟩
  have bi_place_of := F_place_of.binds (ps := ["word", "other"]) fun _ _ _ _ _ _ us hl => match us, hl with | [_, _], _ => rfl
  have h_place_of := def_ok (g := g) (n := 2) F_place_of S_place_of rfl (by decide) fx (b_place_of (g := g) )
  have d_place_of : Def g 1 "place_of" [] f_place_of := ⟨_, _, _, [], [], h_place_of, PySem.W.mg_of X G aplace_of, kplace_of, bi_place_of, .nil, fun w => by simp only [Reps]⟩
  have S_most_changes : FnScope n_most_changes ["words"] (defScope t_most_changes) := ⟨rfl, rfl, rfl, by decide +kernel, rfl, by decide +kernel, by decide +kernel⟩
  have bi_most_changes := F_most_changes.binds (ps := ["words"]) fun _ _ _ _ _ _ us hl => match us, hl with | [_], _ => rfl
  have h_most_changes := def_ok (g := g) (n := 1) F_most_changes S_most_changes rfl (by decide) fx (b_most_changes (g := g)  d_place_of)
  have d_most_changes : Def g 2 "most_changes" [] f_most_changes := ⟨_, _, _, [], [], h_most_changes, PySem.W.mg_of X G amost_changes, kmost_changes, bi_most_changes, .nil, fun w => by simp only [Reps]⟩
  have S_is_even : FnScope n_is_even ["words", "whole", "most"] (defScope t_is_even) := ⟨rfl, rfl, rfl, by decide +kernel, rfl, by decide +kernel, by decide +kernel⟩
  have bi_is_even := F_is_even.binds (ps := ["words", "whole", "most"]) fun _ _ _ _ _ _ us hl => match us, hl with | [_, _, _], _ => rfl
  have h_is_even := def_ok (g := g) (n := 3) F_is_even S_is_even rfl (by decide) fx (b_is_even (g := g)  d_most_changes)
  have d_is_even : Def g 3 "is_even" [] f_is_even := ⟨_, _, _, [], [], h_is_even, PySem.W.mg_of X G ais_even, kis_even, bi_is_even, .nil, fun w => by simp only [Reps]⟩
  have S__law_pen : FnScope n__law_pen ["_law_cell"] (defScope t__law_pen) := ⟨rfl, rfl, rfl, by decide +kernel, rfl, by decide +kernel, by decide +kernel⟩
  have bi__law_pen := F__law_pen.binds (ps := ["_law_cell"]) fun _ _ _ _ _ _ us hl => match us, hl with | [_], _ => rfl
  have h__law_pen := def_ok (g := g) (n := 1) F__law_pen S__law_pen rfl (by decide) fx (b__law_pen (g := g) )
  have d__law_pen : Def g 1 "_law_pen" [] f__law_pen := ⟨_, _, _, [], [], h__law_pen, PySem.W.mg_of X G a_law_pen, k_law_pen, bi__law_pen, .nil, fun w => by simp only [Reps]⟩
  have S__law_cell_at : FnScope n__law_cell_at ["_law_script", "_law_k"] (defScope t__law_cell_at) := ⟨rfl, rfl, rfl, by decide +kernel, rfl, by decide +kernel, by decide +kernel⟩
  have bi__law_cell_at := F__law_cell_at.binds (ps := ["_law_script", "_law_k"]) fun _ _ _ _ _ _ us hl => match us, hl with | [_, _], _ => rfl
  have h__law_cell_at := def_ok (g := g) (n := 2) F__law_cell_at S__law_cell_at rfl (by decide) fx (b__law_cell_at (g := g) )
  have d__law_cell_at : Def g 1 "_law_cell_at" [] f__law_cell_at := ⟨_, _, _, [], [], h__law_cell_at, PySem.W.mg_of X G a_law_cell_at, k_law_cell_at, bi__law_cell_at, .nil, fun w => by simp only [Reps]⟩
  have S__law_near : FnScope n__law_near ["_law_row"] (defScope t__law_near) := ⟨rfl, rfl, rfl, by decide +kernel, rfl, by decide +kernel, by decide +kernel⟩
  have bi__law_near := F__law_near.binds (ps := ["_law_row"]) fun _ _ _ _ _ _ us hl => match us, hl with | [_], _ => rfl
  have h__law_near := def_ok (g := g) (n := 1) F__law_near S__law_near rfl (by decide) fx (b__law_near (g := g) )
  have d__law_near : Def g 1 "_law_near" [] f__law_near := ⟨_, _, _, [], [], h__law_near, PySem.W.mg_of X G a_law_near, k_law_near, bi__law_near, .nil, fun w => by simp only [Reps]⟩
  have S__law_apart : FnScope n__law_apart ["_law_row", "_law_other"] (defScope t__law_apart) := ⟨rfl, rfl, rfl, by decide +kernel, rfl, by decide +kernel, by decide +kernel⟩
  have bi__law_apart := F__law_apart.binds (ps := ["_law_row", "_law_other"]) fun _ _ _ _ _ _ us hl => match us, hl with | [_, _], _ => rfl
  have h__law_apart := def_ok (g := g) (n := 2) F__law_apart S__law_apart rfl (by decide) fx (b__law_apart (g := g) )
  have d__law_apart : Def g 1 "_law_apart" [] f__law_apart := ⟨_, _, _, [], [], h__law_apart, PySem.W.mg_of X G a_law_apart, k_law_apart, bi__law_apart, .nil, fun w => by simp only [Reps]⟩
  have S__law_rings : FnScope n__law_rings ["_law_many", "_law_wide", "_law_limit"] (defScope t__law_rings) := ⟨rfl, rfl, rfl, by decide +kernel, rfl, by decide +kernel, by decide +kernel⟩
  have bi__law_rings := F__law_rings.binds (ps := ["_law_many", "_law_wide", "_law_limit"]) fun _ _ _ _ _ _ us hl => match us, hl with | [_, _, _], _ => rfl
  have h__law_rings := def_ok (g := g) (n := 3) F__law_rings S__law_rings rfl (by decide) fx (b__law_rings (g := g)  d__law_near d__law_apart)
  have d__law_rings : Def g 2 "_law_rings" [] f__law_rings := ⟨_, _, _, [], [], h__law_rings, PySem.W.mg_of X G a_law_rings, k_law_rings, bi__law_rings, .nil, fun w => by simp only [Reps]⟩
  have S__law_all : FnScope n__law_all ["_law_many"] (defScope t__law_all) := ⟨rfl, rfl, rfl, by decide +kernel, rfl, by decide +kernel, by decide +kernel⟩
  have bi__law_all := F__law_all.binds (ps := ["_law_many"]) fun _ _ _ _ _ _ us hl => match us, hl with | [_], _ => rfl
  have h__law_all := def_ok (g := g) (n := 1) F__law_all S__law_all rfl (by decide) fx (b__law_all (g := g) )
  have d__law_all : Def g 1 "_law_all" [] f__law_all := ⟨_, _, _, [], [], h__law_all, PySem.W.mg_of X G a_law_all, k_law_all, bi__law_all, .nil, fun w => by simp only [Reps]⟩
  have S__law_counts : FnScope n__law_counts ["_law_words"] (defScope t__law_counts) := ⟨rfl, rfl, rfl, by decide +kernel, rfl, by decide +kernel, by decide +kernel⟩
  have bi__law_counts := F__law_counts.binds (ps := ["_law_words"]) fun _ _ _ _ _ _ us hl => match us, hl with | [_], _ => rfl
  have h__law_counts := def_ok (g := g) (n := 1) F__law_counts S__law_counts rfl (by decide) fx (b__law_counts (g := g)  d__law_apart)
  have d__law_counts : Def g 2 "_law_counts" [] f__law_counts := ⟨_, _, _, [], [], h__law_counts, PySem.W.mg_of X G a_law_counts, k_law_counts, bi__law_counts, .nil, fun w => by simp only [Reps]⟩
  have S__law_due : FnScope n__law_due ["_law_many", "_law_wide"] (defScope t__law_due) := ⟨rfl, rfl, rfl, by decide +kernel, rfl, by decide +kernel, by decide +kernel⟩
  have bi__law_due := F__law_due.binds (ps := ["_law_many", "_law_wide"]) fun _ _ _ _ _ _ us hl => match us, hl with | [_, _], _ => rfl
  have h__law_due := def_ok (g := g) (n := 2) F__law_due S__law_due rfl (by decide) fx (b__law_due (g := g)  d__law_all d__law_rings d__law_counts)
  have d__law_due : Def g 3 "_law_due" [] f__law_due := ⟨_, _, _, [], [], h__law_due, PySem.W.mg_of X G a_law_due, k_law_due, bi__law_due, .nil, fun w => by simp only [Reps]⟩
  have S__law_draw : FnScope n__law_draw ["_law_pen_here", "_law_many"] (defScope t__law_draw) := ⟨rfl, rfl, rfl, by decide +kernel, rfl, by decide +kernel, by decide +kernel⟩
  have bi__law_draw := F__law_draw.binds (ps := ["_law_pen_here", "_law_many"]) fun _ _ _ _ _ _ us hl => match us, hl with | [_, _], _ => rfl
  have h__law_draw := def_ok (g := g) (n := 2) F__law_draw S__law_draw rfl (by decide) fx (b__law_draw (g := g) )
  have d__law_draw : Def g 1 "_law_draw" [] f__law_draw := ⟨_, _, _, [], [], h__law_draw, PySem.W.mg_of X G a_law_draw, k_law_draw, bi__law_draw, .nil, fun w => by simp only [Reps]⟩
  have S_is_between : FnScope n_is_between ["thing", "low", "high"] (defScope t_is_between) := ⟨rfl, rfl, rfl, by decide +kernel, rfl, by decide +kernel, by decide +kernel⟩
  have bi_is_between := F_is_between.binds (ps := ["thing", "low", "high"]) fun _ _ _ _ _ _ us hl => match us, hl with | [_, _, _], _ => rfl
  have h_is_between := def_ok (g := g) (n := 3) F_is_between S_is_between rfl (by decide) fx (b_is_between (g := g) )
  have d_is_between : Def g 1 "is_between" [] f_is_between := ⟨_, _, _, [], [], h_is_between, PySem.W.mg_of X G ais_between, kis_between, bi_is_between, .nil, fun w => by simp only [Reps]⟩
  have S_need_bits : FnScope n_need_bits ["bits"] (defScope t_need_bits) := ⟨rfl, rfl, rfl, by decide +kernel, rfl, by decide +kernel, by decide +kernel⟩
  have bi_need_bits := F_need_bits.binds (ps := ["bits"]) fun _ _ _ _ _ _ us hl => match us, hl with | [_], _ => rfl
  have h_need_bits := def_ok (g := g) (n := 1) F_need_bits S_need_bits rfl (by decide) fx (b_need_bits (g := g) G_MOST_MADE_BITS d_is_between)
  have d_need_bits : Def g 2 "need_bits" [] f_need_bits := ⟨_, _, _, [], [], h_need_bits, PySem.W.mg_of X G aneed_bits, kneed_bits, bi_need_bits, .nil, fun w => by simp only [Reps]⟩
  have S_need_sizes : FnScope n_need_sizes ["values", "bits"] (defScope t_need_sizes) := ⟨rfl, rfl, rfl, by decide +kernel, rfl, by decide +kernel, by decide +kernel⟩
  have bi_need_sizes := F_need_sizes.binds (ps := ["values", "bits"]) fun _ _ _ _ _ _ us hl => match us, hl with | [_, _], _ => rfl
  have h_need_sizes := def_ok (g := g) (n := 2) F_need_sizes S_need_sizes rfl (by decide) fx (b_need_sizes (g := g) G_FEWEST G_MOST_VALUES d_is_between d_need_bits)
  have d_need_sizes : Def g 3 "need_sizes" [] f_need_sizes := ⟨_, _, _, [], [], h_need_sizes, PySem.W.mg_of X G aneed_sizes, kneed_sizes, bi_need_sizes, .nil, fun w => by simp only [Reps]⟩
  have S_changed : FnScope n_changed ["word", "place"] (defScope t_changed) := ⟨rfl, rfl, rfl, by decide +kernel, rfl, by decide +kernel, by decide +kernel⟩
  have bi_changed := F_changed.binds (ps := ["word", "place"]) fun _ _ _ _ _ _ us hl => match us, hl with | [_, _], _ => rfl
  have h_changed := def_ok (g := g) (n := 2) F_changed S_changed rfl (by decide) fx (b_changed (g := g) )
  have d_changed : Def g 1 "changed" [] f_changed := ⟨_, _, _, [], [], h_changed, PySem.W.mg_of X G achanged, kchanged, bi_changed, .nil, fun w => by simp only [Reps]⟩
  have S_next_words : FnScope n_next_words ["word"] (defScope t_next_words) := ⟨rfl, rfl, rfl, by decide +kernel, rfl, by decide +kernel, by decide +kernel⟩
  have bi_next_words := F_next_words.binds (ps := ["word"]) fun _ _ _ _ _ _ us hl => match us, hl with | [_], _ => rfl
  have h_next_words := def_ok (g := g) (n := 1) F_next_words S_next_words rfl (by decide) fx (b_next_words (g := g)  d_changed)
  have d_next_words : Def g 2 "next_words" [] f_next_words := ⟨_, _, _, [], [], h_next_words, PySem.W.mg_of X G anext_words, knext_words, bi_next_words, .nil, fun w => by simp only [Reps]⟩
  have S_can_close : FnScope n_can_close ["words", "values"] (defScope t_can_close) := ⟨rfl, rfl, rfl, by decide +kernel, rfl, by decide +kernel, by decide +kernel⟩
  have bi_can_close := F_can_close.binds (ps := ["words", "values"]) fun _ _ _ _ _ _ us hl => match us, hl with | [_, _], _ => rfl
  have h_can_close := def_ok (g := g) (n := 2) F_can_close S_can_close rfl (by decide) fx (b_can_close (g := g) )
  have d_can_close : Def g 1 "can_close" [] f_can_close := ⟨_, _, _, [], [], h_can_close, PySem.W.mg_of X G acan_close, kcan_close, bi_can_close, .nil, fun w => by simp only [Reps]⟩
  have S_are_bits : FnScope n_are_bits ["thing"] (defScope t_are_bits) := ⟨rfl, rfl, rfl, by decide +kernel, rfl, by decide +kernel, by decide +kernel⟩
  have bi_are_bits := F_are_bits.binds (ps := ["thing"]) fun _ _ _ _ _ _ us hl => match us, hl with | [_], _ => rfl
  have h_are_bits := def_ok (g := g) (n := 1) F_are_bits S_are_bits rfl (by decide) fx (b_are_bits (g := g)  d_is_between)
  have d_are_bits : Def g 2 "are_bits" [] f_are_bits := ⟨_, _, _, [], [], h_are_bits, PySem.W.mg_of X G aare_bits, kare_bits, bi_are_bits, .nil, fun w => by simp only [Reps]⟩
  have S_are_words : FnScope n_are_words ["thing"] (defScope t_are_words) := ⟨rfl, rfl, rfl, by decide +kernel, rfl, by decide +kernel, by decide +kernel⟩
  have bi_are_words := F_are_words.binds (ps := ["thing"]) fun _ _ _ _ _ _ us hl => match us, hl with | [_], _ => rfl
  have h_are_words := def_ok (g := g) (n := 1) F_are_words S_are_words rfl (by decide) fx (b_are_words (g := g) G_FEWEST_VALUES G_MOST_VALUES G_MOST_BITS d_are_bits)
  have d_are_words : Def g 3 "are_words" [] f_are_words := ⟨_, _, _, [], [], h_are_words, PySem.W.mg_of X G aare_words, kare_words, bi_are_words, .nil, fun w => by simp only [Reps]⟩
  have S_CodeX_initX : FnScope n_CodeX_initX ["self", "words"] (defScope t_CodeX_initX) := ⟨rfl, rfl, rfl, by decide +kernel, rfl, by decide +kernel, by decide +kernel⟩
  have d_CodeX_initX : Ini g 4 0 f_CodeX_initX := ⟨f_CodeX_initX_, ⟨mkC0, aCodeX_initX, iCodeX_initX, kcC0⟩, init_star (g := g) (c := 0) F_CodeX_initX S_CodeX_initX (by decide) rfl (fun _ _ _ _ _ _ us rest hl => match us, rest, hl with | [_], [], _ => rfl | [_], _ :: _, _ => rfl) fx (b_CodeX_initX (g := g)  d_are_words), rfl⟩
  have S_first_ring : FnScope n_first_ring ["values", "bits", "fits"] (defScope t_first_ring) := ⟨rfl, rfl, rfl, by decide +kernel, rfl, by decide +kernel, by decide +kernel⟩
  have bi_first_ring := F_first_ring.binds (ps := ["values", "bits", "fits"]) fun _ _ _ _ _ _ us hl => match us, hl with | [_, _, _], _ => rfl
  have h_first_ring : ∀ FL : Nat → Fn, LamsF g 3 FL → FnOk g.prog g.w g.K g.mg g.base (L2N.CX g.prog g.w) 6 f_first_ring_ _ ["values", "bits", "fits"] (spF g (f_first_ring FL)) := fun FL lamsF => def_ok (g := g) (n := 3) F_first_ring S_first_ring rfl (by decide) fx (b_first_ring (g := g) FL lamsF C_Code d_next_words d_CodeX_initX d_can_close)
  have D_first_ring : ∀ FL : Nat → Fn, LamsF g 3 FL → Def g 6 "first_ring" [] (f_first_ring FL) := fun FL lamsF => ⟨_, _, _, [], [], h_first_ring FL lamsF, PySem.W.mg_of X G afirst_ring, kfirst_ring, bi_first_ring, .nil, fun w => by simp only [Reps]⟩
  have lamsF0 : LamsF g 3 FL0 := fun k => match k with
    | 0 => .inr (.inl ⟨["words", "whole"], mL_0, rfl, lp0, fun pm cv ct us hl => (match us, hl with | [_, _], _ => rfl), rfl, fun E H0 X c hN hs => bL_0  E H0 X (c.mono (by decide)) hN hs⟩)
    | 1 => .inl ⟨rfl, rfl⟩
    | 2 => .inl ⟨rfl, rfl⟩
    | _ + 3 => .inl ⟨rfl, rfl⟩
  have d_first_ring : Def g 6 "first_ring" [] (f_first_ring FL0) := D_first_ring FL0 lamsF0
  have S_made_single : FnScope n_made_single ["values", "bits"] (defScope t_made_single) := ⟨rfl, rfl, rfl, by decide +kernel, rfl, by decide +kernel, by decide +kernel⟩
  have bi_made_single := F_made_single.binds (ps := ["values", "bits"]) fun _ _ _ _ _ _ us hl => match us, hl with | [_, _], _ => rfl
  have h_made_single := def_okLC (g := g) (n := 2) F_made_single S_made_single rfl (by decide) fx emade_single tbmade_single memmade_single unimade_single (b_made_single (g := g) G_MANY_WORDS d_first_ring rfl memmade_single rfl)
  have d_made_single : Def g 7 "made_single" [] f_made_single := ⟨_, _, _, [], [], h_made_single, PySem.W.mg_of X G amade_single, kmade_single, bi_made_single, .nil, fun w => by simp only [Reps]⟩
  have dm_first_ring : ∃ fa0, g.mg "first_ring" = some (.ref fa0) ∧ PySem.W.keepIn g.K (.ref fa0) = true := ⟨_, PySem.W.mg_of X G afirst_ring, kfirst_ring⟩
  have DB1 : ∀ (base' : Heap) (ld : LamD), (∀ b o, g.base.get? b = some o → base'.get? b = some o) → ld.live = true → ld.y = "most" → LiveOk (gC g base' fun n => if n = 1 then ld else {}) 1 → Def (gC g base' fun n => if n = 1 then ld else {}) 6 "first_ring" [] (f_first_ring (FC_1 ld.d)) := by
    intro base' ld hb hlive hy lo
    have dx := core base' (fun n => if n = 1 then ld else {}) hb
    refine dx.1 (FC_1 ld.d) fun n => ?_
    by_cases hn : n = 1
    · subst hn
      exact .inr (.inr ⟨["words", "whole"], mL_1, hlive, (by have z := lpc1; rw [← hy] at z; exact z), lo, fun cl pm cv ct us hl => (match us, hl with | [_, _], _ => rfl), rfl, fun E H0 X c hN hs => bL_1  dx.2 E H0 X (c.mono (by decide)) (hN.trans (congrArg (fun z : Str => (z :: ["words", "whole"] : List Str)) hy)) hs⟩)
    · refine .inl ⟨?_, ?_⟩
      · show (if n = 1 then ld else {} : LamD).live = false
        rw [if_neg hn]
      · unfold FC_1
        split
        · exact absurd rfl hn
        · rfl
  have DB2 : ∀ (base' : Heap) (ld : LamD), (∀ b o, g.base.get? b = some o → base'.get? b = some o) → ld.live = true → ld.y = "most" → LiveOk (gC g base' fun n => if n = 2 then ld else {}) 2 → Def (gC g base' fun n => if n = 2 then ld else {}) 6 "first_ring" [] (f_first_ring (FC_2 ld.d)) := by
    intro base' ld hb hlive hy lo
    have dx := core base' (fun n => if n = 2 then ld else {}) hb
    refine dx.1 (FC_2 ld.d) fun n => ?_
    by_cases hn : n = 2
    · subst hn
      exact .inr (.inr ⟨["words", "whole"], mL_2, hlive, (by have z := lpc2; rw [← hy] at z; exact z), lo, fun cl pm cv ct us hl => (match us, hl with | [_, _], _ => rfl), rfl, fun E H0 X c hN hs => bL_2  dx.2 E H0 X (c.mono (by decide)) (hN.trans (congrArg (fun z : Str => (z :: ["words", "whole"] : List Str)) hy)) hs⟩)
    · refine .inl ⟨?_, ?_⟩
      · show (if n = 2 then ld else {} : LamD).live = false
        rw [if_neg hn]
      · unfold FC_2
        split
        · exact absurd rfl hn
        · rfl
  have S_made_evenly : FnScope n_made_evenly ["values", "bits"] (defScope t_made_evenly) := ⟨rfl, rfl, rfl, by decide +kernel, rfl, by decide +kernel, by decide +kernel⟩
  have bi_made_evenly := F_made_evenly.binds (ps := ["values", "bits"]) fun _ _ _ _ _ _ us hl => match us, hl with | [_, _], _ => rfl
  have h_made_evenly := def_okLC (g := g) (n := 2) F_made_evenly S_made_evenly rfl (by decide) fx emade_evenly tbmade_evenly memmade_evenly unimade_evenly (b_made_evenly (g := g)  d_made_single rfl memmade_evenly dm_first_ring DB1 rfl memmade_evenly DB2)
  have d_made_evenly : Def g 8 "made_evenly" [] f_made_evenly := ⟨_, _, _, [], [], h_made_evenly, PySem.W.mg_of X G amade_evenly, kmade_evenly, bi_made_evenly, .nil, fun w => by simp only [Reps]⟩
  have S_evenly : FnScope n_evenly ["values", "bits"] (defScope t_evenly) := ⟨rfl, rfl, rfl, by decide +kernel, rfl, by decide +kernel, by decide +kernel⟩
  have bi_evenly := F_evenly.binds (ps := ["values", "bits"]) fun _ _ _ _ _ _ us hl => match us, hl with | [_, _], _ => rfl
  have h_evenly := def_ok (g := g) (n := 2) F_evenly S_evenly rfl (by decide) fx (b_evenly (g := g)  d_need_sizes d_made_evenly)
  have d_evenly : Def g 9 "evenly" [] f_evenly := ⟨_, _, _, [], [], h_evenly, PySem.W.mg_of X G aevenly, kevenly, bi_evenly, .nil, fun w => by simp only [Reps]⟩
  have S__law_first_even : FnScope n__law_first_even ["_law_many", "_law_wide", "_law_most"] (defScope t__law_first_even) := ⟨rfl, rfl, rfl, by decide +kernel, rfl, by decide +kernel, by decide +kernel⟩
  have bi__law_first_even := F__law_first_even.binds (ps := ["_law_many", "_law_wide", "_law_most"]) fun _ _ _ _ _ _ us hl => match us, hl with | [_, _, _], _ => rfl
  have h__law_first_even := def_ok (g := g) (n := 3) F__law_first_even S__law_first_even rfl (by decide) fx (b__law_first_even (g := g)  d__law_counts d__law_near d__law_apart)
  have d__law_first_even : Def g 3 "_law_first_even" [] f__law_first_even := ⟨_, _, _, [], [], h__law_first_even, PySem.W.mg_of X G a_law_first_even, k_law_first_even, bi__law_first_even, .nil, fun w => by simp only [Reps]⟩
  have S_CodeX_eqX : FnScope n_CodeX_eqX ["self", "other"] (defScope t_CodeX_eqX) := ⟨rfl, rfl, rfl, by decide +kernel, rfl, by decide +kernel, by decide +kernel⟩
  have bi_CodeX_eqX := F_CodeX_eqX.binds (ps := ["self", "other"]) fun _ _ _ _ _ _ us hl => match us, hl with | [_, _], _ => rfl
  have h_CodeX_eqX := def_ok (g := g) (n := 2) F_CodeX_eqX S_CodeX_eqX rfl (by decide) fx (b_CodeX_eqX (g := g) C_Code)
  have r_CodeX_eqX : FnR g.prog g.w g.K g.mg g.base (L2N.CX g.prog g.w) 1 f_CodeX_eqX_ (spF g f_CodeX_eqX) := (h_CodeX_eqX.raw bi_CodeX_eqX .nil).imp fun vs H Q E z => by rw [List.append_nil]; exact z
  have d_CodeX_eqX : EqN g 1 0 f_CodeX_eqX := ⟨⟨f_CodeX_eqX_, r_CodeX_eqX, aCodeX_eqX, iCodeX_eqX, jCodeX_eqX, rfl⟩, neC0, fun c' hc hne _ => absurd (hz c' hc) hne,
    fun T hT => by
    rcases (by simpa using hT) with rfl | rfl | rfl | rfl | rfl | rfl | rfl
    · exact bNoneTypeC0
    · exact bintC0
    · exact bboolC0
    · exact bstrC0
    · exact blistC0
    · exact btupleC0
    · exact bdictC0⟩
  have S_Code_words : FnScope n_Code_words ["self"] (defScope t_Code_words) := ⟨rfl, rfl, rfl, by decide +kernel, rfl, by decide +kernel, by decide +kernel⟩
  have bi_Code_words := F_Code_words.binds (ps := ["self"]) fun _ _ _ _ _ _ us hl => match us, hl with | [_], _ => rfl
  have h_Code_words := def_ok (g := g) (n := 1) F_Code_words S_Code_words rfl (by decide) fx (b_Code_words (g := g) )
  have d_Code_words : Prp g 1 0 "words" f_Code_words := ⟨pCode_words, _, _, _, h_Code_words, ⟨aCode_words, gCode_words, tCode_words, ⟨_, rCode_words⟩⟩, bi_Code_words, rfl⟩
  have S__law_great_right : FnScope n__law_great_right ["_law_pen_here"] (defScope t__law_great_right) := ⟨rfl, rfl, rfl, by decide +kernel, rfl, by decide +kernel, by decide +kernel⟩
  have bi__law_great_right := F__law_great_right.binds (ps := ["_law_pen_here"]) fun _ _ _ _ _ _ us hl => match us, hl with | [_], _ => rfl
  have h__law_great_right := def_ok (g := g) (n := 1) F__law_great_right S__law_great_right rfl (by decide) fx (b__law_great_right (g := g)  d_evenly d_CodeX_eqX d__law_counts d_Code_words d__law_draw d__law_first_even)
  have d__law_great_right : Def g 10 "_law_great_right" [] f__law_great_right := ⟨_, _, _, [], [], h__law_great_right, PySem.W.mg_of X G a_law_great_right, k_law_great_right, bi__law_great_right, .nil, fun w => by simp only [Reps]⟩
  have S__law_pick : FnScope n__law_pick ["_law_pen_here", "_law_some"] (defScope t__law_pick) := ⟨rfl, rfl, rfl, by decide +kernel, rfl, by decide +kernel, by decide +kernel⟩
  have bi__law_pick := F__law_pick.binds (ps := ["_law_pen_here", "_law_some"]) fun _ _ _ _ _ _ us hl => match us, hl with | [_, _], _ => rfl
  have h__law_pick := def_ok (g := g) (n := 2) F__law_pick S__law_pick rfl (by decide) fx (b__law_pick (g := g)  d__law_draw)
  have d__law_pick : Def g 2 "_law_pick" [] f__law_pick := ⟨_, _, _, [], [], h__law_pick, PySem.W.mg_of X G a_law_pick, k_law_pick, bi__law_pick, .nil, fun w => by simp only [Reps]⟩
  have S_law : FnScope n_law ["_law_script"] (defScope t_law) := ⟨rfl, rfl, rfl, by decide +kernel, rfl, by decide +kernel, by decide +kernel⟩
  have bi_law := F_law.binds (ps := ["_law_script"]) fun _ _ _ _ _ _ us hl => match us, hl with | [_], _ => rfl
  have h_law := def_ok (g := g) (n := 1) F_law S_law rfl (by decide) fx (b_law (g := g)  d__law_pen d__law_cell_at d__law_great_right d__law_draw d__law_pick d__law_due d_evenly d_Code_words)
  exact h_law.toG
set_option maxHeartbeats 0 in
theorem facts_use {w : World} {K : PySem.W.Frag} {h : Heap} {mg : Str → Option Value} {fa : Addr} (KX : K.In h) (c : Hq.SaysE fnL tpL exL h K) (G : h.Ns mainGlobals mg) (hfa : mg "law" = some (.ref fa)) : ∃ (fd : FuncData) (cs : List (Addr × Addr)), (∀ p ∈ cs, h.get? p.2 = some { cls := .none, data := .fields #[] }) ∧ (∀ p ∈ cs, K.lookup p.2 = Option.none) ∧ (∀ p ∈ cs, PySem.W.CodeHd h p.1 p.2) ∧ (∀ (s : Shared) (v : Value), BindsTo s fd ⟨[v], []⟩ [("_law_script", v)]) ∧ ∀ base : Heap, K.In base → base.Ns mainGlobals mg → (∀ p ∈ cs, LamX.TabB base mg p.1 p.2) → ∃ g : Gs, g.K = K ∧ (∀ p ∈ g.tabs, p.1 ∈ cs.map (·.2)) ∧ FnG PySem.Challenge.rw_halfread_k31_evenly_changing_codes.prog w K mg base (L2N.CX PySem.Challenge.rw_halfread_k31_evenly_changing_codes.prog w) 11 fa fd ["_law_script"] (spF g f_law) := by
  have e := c.ex
  simp only [exL, Bool.and_eq_true, decide_eq_true_eq] at e
  obtain ⟨⟨⟨⟨⟨⟨⟨⟨e0, e1⟩, e2⟩, e3⟩, e4⟩, e5⟩, e6⟩, e7⟩, e8⟩ := e
  refine' all_mk (l := PySem.Challenge.rw_halfread_k31_evenly_changing_codes) KX G hfa ?aC0 ?pgC0 ?hdC0 ?poC0 ?saC0 ?mkC0 ?kcC0 ?n0C0 ?n1C0 ?dcC0 ?moC0 ?bintC0 ?bboolC0 ?btupleC0 ?bstrC0 ?blistC0 ?bNoneTypeC0 ?bdictC0 ?icC0 ?tyC0 ?hn ?htk ?zlen ?zrange ?zisinstance ?ztuple ?zlist ?zall ?zany ?zmax ?zmin ?zset ?zsorted ?zenumerate ?zzip ?zrepr ?zstr ?zint ?zsum ?zdict ?zbool ?vG_MOST_MADE_BITS ?vG_FEWEST ?vG_MOST_VALUES ?vG_FEWEST_VALUES ?vG_MOST_BITS ?v_MANY_WORDS ?w_MANY_WORDS ?aplace_of ?lplace_of ?cplace_of ?kplace_of ?amost_changes ?lmost_changes ?cmost_changes ?kmost_changes ?ais_even ?lis_even ?cis_even ?kis_even ?a_law_pen ?l_law_pen ?c_law_pen ?k_law_pen ?a_law_cell_at ?l_law_cell_at ?c_law_cell_at ?k_law_cell_at ?a_law_near ?l_law_near ?c_law_near ?k_law_near ?a_law_apart ?l_law_apart ?c_law_apart ?k_law_apart ?a_law_rings ?l_law_rings ?c_law_rings ?k_law_rings ?a_law_all ?l_law_all ?c_law_all ?k_law_all ?a_law_counts ?l_law_counts ?c_law_counts ?k_law_counts ?a_law_due ?l_law_due ?c_law_due ?k_law_due ?a_law_draw ?l_law_draw ?c_law_draw ?k_law_draw ?ais_between ?lis_between ?cis_between ?kis_between ?aneed_bits ?lneed_bits ?cneed_bits ?kneed_bits ?aneed_sizes ?lneed_sizes ?cneed_sizes ?kneed_sizes ?achanged ?lchanged ?cchanged ?kchanged ?anext_words ?lnext_words ?cnext_words ?knext_words ?acan_close ?lcan_close ?ccan_close ?kcan_close ?aare_bits ?lare_bits ?care_bits ?kare_bits ?aare_words ?lare_words ?care_words ?kare_words ?aCodeX_initX ?iCodeX_initX ?lCodeX_initX ?cCodeX_initX ?kCodeX_initX ?afirst_ring ?lfirst_ring ?cfirst_ring ?kfirst_ring ?amade_single ?lmade_single ?cmade_single ?kmade_single ?amade_evenly ?lmade_evenly ?cmade_evenly ?kmade_evenly ?aevenly ?levenly ?cevenly ?kevenly ?a_law_first_even ?l_law_first_even ?c_law_first_even ?k_law_first_even ?neC0 ?aCodeX_eqX ?iCodeX_eqX ?jCodeX_eqX ?lCodeX_eqX ?cCodeX_eqX ?kCodeX_eqX ?aCode_words ?gCode_words ?tCode_words ?rCode_words ?lCode_words ?cCode_words ?kCode_words ?a_law_great_right ?l_law_great_right ?c_law_great_right ?k_law_great_right ?a_law_pick ?l_law_pick ?c_law_pick ?k_law_pick ?alaw ?llaw ?claw ?klaw ?emade_single ?ymade_single ?ypmade_single ?yqmade_single ?yrmade_single ?ysmade_single ?yumade_single ?ywmade_single ?ynmade_single ?ykmade_single ?owmade_single ?emade_evenly ?ymade_evenly ?ypmade_evenly ?yqmade_evenly ?yrmade_evenly ?ysmade_evenly ?yumade_evenly ?ywmade_evenly ?ynmade_evenly ?ykmade_evenly ?owmade_evenly ?yzmade_evenly_made_single
  (case aC0 => exact e0.1)
  (case pgC0 => exact e0.2.1)
  (case hdC0 => exact e0.2.2.1)
  (case poC0 => exact e0.2.2.2.1)
  (case saC0 => exact e0.2.2.2.2.1)
  (case mkC0 => exact e0.2.2.2.2.2.1)
  (case kcC0 => exact e0.2.2.2.2.2.2.1)
  (case n0C0 => exact e0.2.2.2.2.2.2.2.1)
  (case n1C0 => exact e0.2.2.2.2.2.2.2.2.1)
  (case dcC0 => exact e0.2.2.2.2.2.2.2.2.2.1)
  (case moC0 => exact e0.2.2.2.2.2.2.2.2.2.2.1)
  (case bintC0 => exact e0.2.2.2.2.2.2.2.2.2.2.2.1)
  (case bboolC0 => exact e0.2.2.2.2.2.2.2.2.2.2.2.2.1)
  (case btupleC0 => exact e0.2.2.2.2.2.2.2.2.2.2.2.2.2.1)
  (case bstrC0 => exact e0.2.2.2.2.2.2.2.2.2.2.2.2.2.2.1)
  (case blistC0 => exact e0.2.2.2.2.2.2.2.2.2.2.2.2.2.2.2.1)
  (case bNoneTypeC0 => exact e0.2.2.2.2.2.2.2.2.2.2.2.2.2.2.2.2.1)
  (case bdictC0 => exact e0.2.2.2.2.2.2.2.2.2.2.2.2.2.2.2.2.2.1)
  (case icC0 => exact e0.2.2.2.2.2.2.2.2.2.2.2.2.2.2.2.2.2.2.1)
  (case tyC0 => exact e0.2.2.2.2.2.2.2.2.2.2.2.2.2.2.2.2.2.2.2.1)
  (case hn => exact e0.2.2.2.2.2.2.2.2.2.2.2.2.2.2.2.2.2.2.2.2.1)
  (case htk => exact e0.2.2.2.2.2.2.2.2.2.2.2.2.2.2.2.2.2.2.2.2.2.1)
  (case zlen => exact e0.2.2.2.2.2.2.2.2.2.2.2.2.2.2.2.2.2.2.2.2.2.2.1)
  (case zrange => exact e0.2.2.2.2.2.2.2.2.2.2.2.2.2.2.2.2.2.2.2.2.2.2.2)
  (case zisinstance => exact e1.1)
  (case ztuple => exact e1.2.1)
  (case zlist => exact e1.2.2.1)
  (case zall => exact e1.2.2.2.1)
  (case zany => exact e1.2.2.2.2.1)
  (case zmax => exact e1.2.2.2.2.2.1)
  (case zmin => exact e1.2.2.2.2.2.2.1)
  (case zset => exact e1.2.2.2.2.2.2.2.1)
  (case zsorted => exact e1.2.2.2.2.2.2.2.2.1)
  (case zenumerate => exact e1.2.2.2.2.2.2.2.2.2.1)
  (case zzip => exact e1.2.2.2.2.2.2.2.2.2.2.1)
  (case zrepr => exact e1.2.2.2.2.2.2.2.2.2.2.2.1)
  (case zstr => exact e1.2.2.2.2.2.2.2.2.2.2.2.2.1)
  (case zint => exact e1.2.2.2.2.2.2.2.2.2.2.2.2.2.1)
  (case zsum => exact e1.2.2.2.2.2.2.2.2.2.2.2.2.2.2.1)
  (case zdict => exact e1.2.2.2.2.2.2.2.2.2.2.2.2.2.2.2.1)
  (case zbool => exact e1.2.2.2.2.2.2.2.2.2.2.2.2.2.2.2.2.1)
  (case vG_MOST_MADE_BITS => exact e1.2.2.2.2.2.2.2.2.2.2.2.2.2.2.2.2.2.1)
  (case vG_FEWEST => exact e1.2.2.2.2.2.2.2.2.2.2.2.2.2.2.2.2.2.2.1)
  (case vG_MOST_VALUES => exact e1.2.2.2.2.2.2.2.2.2.2.2.2.2.2.2.2.2.2.2.1)
  (case vG_FEWEST_VALUES => exact e1.2.2.2.2.2.2.2.2.2.2.2.2.2.2.2.2.2.2.2.2.1)
  (case vG_MOST_BITS => exact e1.2.2.2.2.2.2.2.2.2.2.2.2.2.2.2.2.2.2.2.2.2.1)
  (case v_MANY_WORDS => exact e1.2.2.2.2.2.2.2.2.2.2.2.2.2.2.2.2.2.2.2.2.2.2.1)
  (case w_MANY_WORDS => exact Hq.sq_ok e8.2.2.2.1 e8.2.2.2.2.1)
  (case aplace_of => exact e1.2.2.2.2.2.2.2.2.2.2.2.2.2.2.2.2.2.2.2.2.2.2.2)
  (case lplace_of => exact Hq.fn_l (d := D_place_of) (c.def_ 0) rfl e6.2.2.2.2.2.2.2.2.2.2.2.2.2.2.2.2.2.2.2.2.1)
  (case cplace_of => exact e2.1)
  (case kplace_of => exact e2.2.1)
  (case amost_changes => exact e2.2.2.1)
  (case lmost_changes => exact Hq.fn_l (d := D_most_changes) (c.def_ 1) rfl e6.2.2.2.2.2.2.2.2.2.2.2.2.2.2.2.2.2.2.2.2.2.1)
  (case cmost_changes => exact e2.2.2.2.1)
  (case kmost_changes => exact e2.2.2.2.2.1)
  (case ais_even => exact e2.2.2.2.2.2.1)
  (case lis_even => exact Hq.fn_l (d := D_is_even) (c.def_ 2) rfl e6.2.2.2.2.2.2.2.2.2.2.2.2.2.2.2.2.2.2.2.2.2.2.1)
  (case cis_even => exact e2.2.2.2.2.2.2.1)
  (case kis_even => exact e2.2.2.2.2.2.2.2.1)
  (case a_law_pen => exact e2.2.2.2.2.2.2.2.2.1)
  (case l_law_pen => exact Hq.fn_l (d := D__law_pen) (c.def_ 3) rfl e6.2.2.2.2.2.2.2.2.2.2.2.2.2.2.2.2.2.2.2.2.2.2.2)
  (case c_law_pen => exact e2.2.2.2.2.2.2.2.2.2.1)
  (case k_law_pen => exact e2.2.2.2.2.2.2.2.2.2.2.1)
  (case a_law_cell_at => exact e2.2.2.2.2.2.2.2.2.2.2.2.1)
  (case l_law_cell_at => exact Hq.fn_l (d := D__law_cell_at) (c.def_ 4) rfl e7.1)
  (case c_law_cell_at => exact e2.2.2.2.2.2.2.2.2.2.2.2.2.1)
  (case k_law_cell_at => exact e2.2.2.2.2.2.2.2.2.2.2.2.2.2.1)
  (case a_law_near => exact e2.2.2.2.2.2.2.2.2.2.2.2.2.2.2.1)
  (case l_law_near => exact Hq.fn_l (d := D__law_near) (c.def_ 5) rfl e7.2.1)
  (case c_law_near => exact e2.2.2.2.2.2.2.2.2.2.2.2.2.2.2.2.1)
  (case k_law_near => exact e2.2.2.2.2.2.2.2.2.2.2.2.2.2.2.2.2.1)
  (case a_law_apart => exact e2.2.2.2.2.2.2.2.2.2.2.2.2.2.2.2.2.2.1)
  (case l_law_apart => exact Hq.fn_l (d := D__law_apart) (c.def_ 6) rfl e7.2.2.1)
  (case c_law_apart => exact e2.2.2.2.2.2.2.2.2.2.2.2.2.2.2.2.2.2.2.1)
  (case k_law_apart => exact e2.2.2.2.2.2.2.2.2.2.2.2.2.2.2.2.2.2.2.2.1)
  (case a_law_rings => exact e2.2.2.2.2.2.2.2.2.2.2.2.2.2.2.2.2.2.2.2.2.1)
  (case l_law_rings => exact Hq.fn_l (d := D__law_rings) (c.def_ 7) rfl e7.2.2.2.1)
  (case c_law_rings => exact e2.2.2.2.2.2.2.2.2.2.2.2.2.2.2.2.2.2.2.2.2.2.1)
  (case k_law_rings => exact e2.2.2.2.2.2.2.2.2.2.2.2.2.2.2.2.2.2.2.2.2.2.2.1)
  (case a_law_all => exact e2.2.2.2.2.2.2.2.2.2.2.2.2.2.2.2.2.2.2.2.2.2.2.2)
  (case l_law_all => exact Hq.fn_l (d := D__law_all) (c.def_ 8) rfl e7.2.2.2.2.1)
  (case c_law_all => exact e3.1)
  (case k_law_all => exact e3.2.1)
  (case a_law_counts => exact e3.2.2.1)
  (case l_law_counts => exact Hq.fn_l (d := D__law_counts) (c.def_ 9) rfl e7.2.2.2.2.2.1)
  (case c_law_counts => exact e3.2.2.2.1)
  (case k_law_counts => exact e3.2.2.2.2.1)
  (case a_law_due => exact e3.2.2.2.2.2.1)
  (case l_law_due => exact Hq.fn_l (d := D__law_due) (c.def_ 10) rfl e7.2.2.2.2.2.2.1)
  (case c_law_due => exact e3.2.2.2.2.2.2.1)
  (case k_law_due => exact e3.2.2.2.2.2.2.2.1)
  (case a_law_draw => exact e3.2.2.2.2.2.2.2.2.1)
  (case l_law_draw => exact Hq.fn_l (d := D__law_draw) (c.def_ 11) rfl e7.2.2.2.2.2.2.2.1)
  (case c_law_draw => exact e3.2.2.2.2.2.2.2.2.2.1)
  (case k_law_draw => exact e3.2.2.2.2.2.2.2.2.2.2.1)
  (case ais_between => exact e3.2.2.2.2.2.2.2.2.2.2.2.1)
  (case lis_between => exact Hq.fn_l (d := D_is_between) (c.def_ 12) rfl e7.2.2.2.2.2.2.2.2.1)
  (case cis_between => exact e3.2.2.2.2.2.2.2.2.2.2.2.2.1)
  (case kis_between => exact e3.2.2.2.2.2.2.2.2.2.2.2.2.2.1)
  (case aneed_bits => exact e3.2.2.2.2.2.2.2.2.2.2.2.2.2.2.1)
  (case lneed_bits => exact Hq.fn_l (d := D_need_bits) (c.def_ 13) rfl e7.2.2.2.2.2.2.2.2.2.1)
  (case cneed_bits => exact e3.2.2.2.2.2.2.2.2.2.2.2.2.2.2.2.1)
  (case kneed_bits => exact e3.2.2.2.2.2.2.2.2.2.2.2.2.2.2.2.2.1)
  (case aneed_sizes => exact e3.2.2.2.2.2.2.2.2.2.2.2.2.2.2.2.2.2.1)
  (case lneed_sizes => exact Hq.fn_l (d := D_need_sizes) (c.def_ 14) rfl e7.2.2.2.2.2.2.2.2.2.2.1)
  (case cneed_sizes => exact e3.2.2.2.2.2.2.2.2.2.2.2.2.2.2.2.2.2.2.1)
  (case kneed_sizes => exact e3.2.2.2.2.2.2.2.2.2.2.2.2.2.2.2.2.2.2.2.1)
  (case achanged => exact e3.2.2.2.2.2.2.2.2.2.2.2.2.2.2.2.2.2.2.2.2.1)
  (case lchanged => exact Hq.fn_l (d := D_changed) (c.def_ 15) rfl e7.2.2.2.2.2.2.2.2.2.2.2.1)
  (case cchanged => exact e3.2.2.2.2.2.2.2.2.2.2.2.2.2.2.2.2.2.2.2.2.2.1)
  (case kchanged => exact e3.2.2.2.2.2.2.2.2.2.2.2.2.2.2.2.2.2.2.2.2.2.2.1)
  (case anext_words => exact e3.2.2.2.2.2.2.2.2.2.2.2.2.2.2.2.2.2.2.2.2.2.2.2)
  (case lnext_words => exact Hq.fn_l (d := D_next_words) (c.def_ 16) rfl e7.2.2.2.2.2.2.2.2.2.2.2.2.1)
  (case cnext_words => exact e4.1)
  (case knext_words => exact e4.2.1)
  (case acan_close => exact e4.2.2.1)
  (case lcan_close => exact Hq.fn_l (d := D_can_close) (c.def_ 17) rfl e7.2.2.2.2.2.2.2.2.2.2.2.2.2.1)
  (case ccan_close => exact e4.2.2.2.1)
  (case kcan_close => exact e4.2.2.2.2.1)
  (case aare_bits => exact e4.2.2.2.2.2.1)
  (case lare_bits => exact Hq.fn_l (d := D_are_bits) (c.def_ 18) rfl e7.2.2.2.2.2.2.2.2.2.2.2.2.2.2.1)
  (case care_bits => exact e4.2.2.2.2.2.2.1)
  (case kare_bits => exact e4.2.2.2.2.2.2.2.1)
  (case aare_words => exact e4.2.2.2.2.2.2.2.2.1)
  (case lare_words => exact Hq.fn_l (d := D_are_words) (c.def_ 19) rfl e7.2.2.2.2.2.2.2.2.2.2.2.2.2.2.2.1)
  (case care_words => exact e4.2.2.2.2.2.2.2.2.2.1)
  (case kare_words => exact e4.2.2.2.2.2.2.2.2.2.2.1)
  (case aCodeX_initX => exact e4.2.2.2.2.2.2.2.2.2.2.2.1)
  (case iCodeX_initX => exact e4.2.2.2.2.2.2.2.2.2.2.2.2.1)
  (case lCodeX_initX => exact Hq.fn_l (d := D_CodeX_initX) (c.def_ 20) rfl e7.2.2.2.2.2.2.2.2.2.2.2.2.2.2.2.2.1)
  (case cCodeX_initX => exact e4.2.2.2.2.2.2.2.2.2.2.2.2.2.1)
  (case kCodeX_initX => exact e4.2.2.2.2.2.2.2.2.2.2.2.2.2.2.1)
  (case afirst_ring => exact e4.2.2.2.2.2.2.2.2.2.2.2.2.2.2.2.1)
  (case lfirst_ring => exact Hq.fn_l (d := D_first_ring) (c.def_ 21) rfl e7.2.2.2.2.2.2.2.2.2.2.2.2.2.2.2.2.2.1)
  (case cfirst_ring => exact e4.2.2.2.2.2.2.2.2.2.2.2.2.2.2.2.2.1)
  (case kfirst_ring => exact e4.2.2.2.2.2.2.2.2.2.2.2.2.2.2.2.2.2.1)
  (case amade_single => exact e4.2.2.2.2.2.2.2.2.2.2.2.2.2.2.2.2.2.2.1)
  (case lmade_single => exact Hq.fn_l (d := D_made_single) (c.def_ 22) rfl e7.2.2.2.2.2.2.2.2.2.2.2.2.2.2.2.2.2.2.1)
  (case cmade_single => exact e4.2.2.2.2.2.2.2.2.2.2.2.2.2.2.2.2.2.2.2.1)
  (case kmade_single => exact e4.2.2.2.2.2.2.2.2.2.2.2.2.2.2.2.2.2.2.2.2.1)
  (case amade_evenly => exact e4.2.2.2.2.2.2.2.2.2.2.2.2.2.2.2.2.2.2.2.2.2.1)
  (case lmade_evenly => exact Hq.fn_l (d := D_made_evenly) (c.def_ 23) rfl e7.2.2.2.2.2.2.2.2.2.2.2.2.2.2.2.2.2.2.2.1)
  (case cmade_evenly => exact e4.2.2.2.2.2.2.2.2.2.2.2.2.2.2.2.2.2.2.2.2.2.2.1)
  (case kmade_evenly => exact e4.2.2.2.2.2.2.2.2.2.2.2.2.2.2.2.2.2.2.2.2.2.2.2)
  (case aevenly => exact e5.1)
  (case levenly => exact Hq.fn_l (d := D_evenly) (c.def_ 24) rfl e7.2.2.2.2.2.2.2.2.2.2.2.2.2.2.2.2.2.2.2.2.1)
  (case cevenly => exact e5.2.1)
  (case kevenly => exact e5.2.2.1)
  (case a_law_first_even => exact e5.2.2.2.1)
  (case l_law_first_even => exact Hq.fn_l (d := D__law_first_even) (c.def_ 25) rfl e7.2.2.2.2.2.2.2.2.2.2.2.2.2.2.2.2.2.2.2.2.2.1)
  (case c_law_first_even => exact e5.2.2.2.2.1)
  (case k_law_first_even => exact e5.2.2.2.2.2.1)
  (case neC0 => exact e5.2.2.2.2.2.2.1)
  (case aCodeX_eqX => exact e5.2.2.2.2.2.2.2.1)
  (case iCodeX_eqX => exact e5.2.2.2.2.2.2.2.2.1)
  (case jCodeX_eqX => exact e5.2.2.2.2.2.2.2.2.2.1)
  (case lCodeX_eqX => exact Hq.fn_l (d := D_CodeX_eqX) (c.def_ 26) rfl e7.2.2.2.2.2.2.2.2.2.2.2.2.2.2.2.2.2.2.2.2.2.2.1)
  (case cCodeX_eqX => exact e5.2.2.2.2.2.2.2.2.2.2.1)
  (case kCodeX_eqX => exact e5.2.2.2.2.2.2.2.2.2.2.2.1)
  (case aCode_words => exact e5.2.2.2.2.2.2.2.2.2.2.2.2.1)
  (case gCode_words => exact e5.2.2.2.2.2.2.2.2.2.2.2.2.2.1)
  (case tCode_words => exact e5.2.2.2.2.2.2.2.2.2.2.2.2.2.2.1)
  (case rCode_words => exact e5.2.2.2.2.2.2.2.2.2.2.2.2.2.2.2.1)
  (case lCode_words => exact Hq.fn_l (d := D_Code_words) (c.def_ 27) rfl e7.2.2.2.2.2.2.2.2.2.2.2.2.2.2.2.2.2.2.2.2.2.2.2)
  (case cCode_words => exact e5.2.2.2.2.2.2.2.2.2.2.2.2.2.2.2.2.1)
  (case kCode_words => exact e5.2.2.2.2.2.2.2.2.2.2.2.2.2.2.2.2.2.1)
  (case a_law_great_right => exact e5.2.2.2.2.2.2.2.2.2.2.2.2.2.2.2.2.2.2.1)
  (case l_law_great_right => exact Hq.fn_l (d := D__law_great_right) (c.def_ 28) rfl e8.1)
  (case c_law_great_right => exact e5.2.2.2.2.2.2.2.2.2.2.2.2.2.2.2.2.2.2.2.1)
  (case k_law_great_right => exact e5.2.2.2.2.2.2.2.2.2.2.2.2.2.2.2.2.2.2.2.2.1)
  (case a_law_pick => exact e5.2.2.2.2.2.2.2.2.2.2.2.2.2.2.2.2.2.2.2.2.2.1)
  (case l_law_pick => exact Hq.fn_l (d := D__law_pick) (c.def_ 29) rfl e8.2.1)
  (case c_law_pick => exact e5.2.2.2.2.2.2.2.2.2.2.2.2.2.2.2.2.2.2.2.2.2.2.1)
  (case k_law_pick => exact e5.2.2.2.2.2.2.2.2.2.2.2.2.2.2.2.2.2.2.2.2.2.2.2)
  (case alaw => exact e6.1)
  (case llaw => exact Hq.fn_l (d := D_law) (c.def_ 30) rfl e8.2.2.1)
  (case claw => exact e6.2.1)
  (case klaw => exact e6.2.2.1)
  (case emade_single => exact e6.2.2.2.1)
  (case ymade_single => exact Hq.flc_ok e8.2.2.2.2.2.1 e8.2.2.2.2.2.2.1)
  (case ypmade_single => exact e6.2.2.2.2.1)
  (case yqmade_single => exact e6.2.2.2.2.2.1)
  (case yrmade_single => exact e6.2.2.2.2.2.2.1)
  (case ysmade_single => exact e6.2.2.2.2.2.2.2.1)
  (case yumade_single => exact e6.2.2.2.2.2.2.2.2.1)
  (case ywmade_single => exact e6.2.2.2.2.2.2.2.2.2.1)
  (case ynmade_single => exact e6.2.2.2.2.2.2.2.2.2.2.1)
  (case ykmade_single => exact Hq.no_ok e8.2.2.2.2.2.2.2.1)
  (case owmade_single => exact c.tb _ (by simp [tpL]))
  (case emade_evenly => exact e6.2.2.2.2.2.2.2.2.2.2.2.1)
  (case ymade_evenly => exact Hq.flc_ok e8.2.2.2.2.2.2.2.2.1 e8.2.2.2.2.2.2.2.2.2.1)
  (case ypmade_evenly => exact e6.2.2.2.2.2.2.2.2.2.2.2.2.1)
  (case yqmade_evenly => exact e6.2.2.2.2.2.2.2.2.2.2.2.2.2.1)
  (case yrmade_evenly => exact e6.2.2.2.2.2.2.2.2.2.2.2.2.2.2.1)
  (case ysmade_evenly => exact e6.2.2.2.2.2.2.2.2.2.2.2.2.2.2.2.1)
  (case yumade_evenly => exact e6.2.2.2.2.2.2.2.2.2.2.2.2.2.2.2.2.1)
  (case ywmade_evenly => exact e6.2.2.2.2.2.2.2.2.2.2.2.2.2.2.2.2.2.1)
  (case ynmade_evenly => exact e6.2.2.2.2.2.2.2.2.2.2.2.2.2.2.2.2.2.2.1)
  (case ykmade_evenly => exact Hq.no_ok e8.2.2.2.2.2.2.2.2.2.2)
  (case owmade_evenly => exact c.tb _ (by simp [tpL]))
  (case yzmade_evenly_made_single => exact e6.2.2.2.2.2.2.2.2.2.2.2.2.2.2.2.2.2.2.2.1)
theorem walk {q : Program} {loose : List Str} {XP : (Str → Option Value) → Heap → Prop} {d : DefRec} (hdf : d.params.defaults = []) (hname : d.name = ("law" : Str))
    (law_true : ∀ ns : List Int, ns.length ≤ 63 → ∃ B, f_law [.scr (ns.map D.int)] [] = .ok (.bool true) B) : PySem.W.WalkO q loose XP (Hq.hookF stg fnL tpL exL).says PySem.Challenge.rw_halfread_k31_evenly_changing_codes.row.toRowW d [] (fun f vs => PySem.call f vs) := by
  refine Hf.walkQ (l := PySem.Challenge.rw_halfread_k31_evenly_changing_codes) (k := 11) (x := "_law_script") (CX := fun w => L2N.CX PySem.Challenge.rw_halfread_k31_evenly_changing_codes.prog w) rfl hdf ⟨rfl, by decide, by decide⟩ hname (fun w mg fa h K KX c G hfa => ?_) ?_
  · obtain ⟨fd, cs, t1, t2, t3, b1, b2⟩ := facts_use (w := w) KX c G hfa
    refine ⟨fd, cs, t1, t2, t3, b1, fun base c1 c2 c3 => ?_⟩
    obtain ⟨g, hg, ht, hF⟩ := b2 base c1 c2 c3
    exact ⟨g, hg, top_promiseT ht hF law_true⟩
  · rintro w H s e s' ⟨_, _, _, _, _, _, _, _, _, _, _, _, z⟩
    exact z.elim
end Hk

set_option Elab.async false
set_option linter.all false
set_option maxRecDepth 100000
namespace Hk
open PySem PySem.Spec PyProof.Rows L2 Hf

/-! ### the pen -/
structure PenOk (B : Bs) (n : Nat) : Prop where
  at_ : ∃ a b c : Int, B[n]? = some (.lst [.int a, .int b, .int c]) ∧ 0 ≤ b ∧ b < 2 ^ 31
structure PenStep (n : Nat) (B B' : Bs) : Prop where
  ok : PenOk B' n
  len : B'.length = B.length
  oth : ∀ m, m ≠ n → B'[m]? = B[m]?
theorem pen_set {B : Bs} {n : Nat} {a b c : Int} {d : D} (h : B[n]? = some d) (h0 : 0 ≤ b) (h1 : b < 2 ^ 31) : PenStep n B (B.set n (.lst [.int a, .int b, .int c])) := by
  have hn : n < B.length := (List.getElem?_eq_some_iff.mp h).1
  refine ⟨⟨a, b, c, by simp [hn], h0, h1⟩, by simp, fun m hm => ?_⟩
  rw [List.getElem?_set_ne (by omega)]
theorem law_draw_ok {B : Bs} {n : Nat} {k : Int} (P : PenOk B n) (h0 : 0 < k) (h1 : k < 1073741824) :
    ∃ (v : Int) (B' : Bs), f__law_draw [.box n, .int k] B = .ok (.int v) B' ∧ 0 ≤ v ∧ v < k ∧ PenStep n B B' := by
  obtain ⟨⟨a, b, c, hB, hb0, hb1⟩⟩ := P
  have hn : n < B.length := (List.getElem?_eq_some_iff.mp hB).1
  by_cases ha : 0 < a
  · refine ⟨a % k, _, ?_, Int.emod_nonneg _ (by omega), Int.emod_lt_of_pos _ h0, pen_set (a := a / k) (b := b) (c := c) hB hb0 hb1⟩
    simp [f__law_draw, m__law_draw, fIx, hB, atI, ha, z_fMod _ _ _ h0, z_fDiv _ _ _ h0 h1, mSetIx, ixN]
  · have e1 : ∀ x : Int, 0 ≤ x % 2147483647 ∧ x % 2147483647 < 2147483647 := fun x => ⟨Int.emod_nonneg _ (by decide), Int.emod_lt_of_pos _ (by decide)⟩
    have e2 : ∀ x : Int, 0 ≤ x % 2147483629 ∧ x % 2147483629 < 2147483629 := fun x => ⟨Int.emod_nonneg _ (by decide), Int.emod_lt_of_pos _ (by decide)⟩
    have w1 : wideB b = true := wide_of (by omega) (by omega)
    have w2 : ∀ x : Int, wideB (x % 2147483647) = true := fun x => wide_of (by have := e1 x; omega) (by have := e1 x; omega)
    have w3 : ∀ x : Int, wideB (x % 2147483629) = true := fun x => wide_of (by have := e2 x; omega) (by have := e2 x; omega)
    have w4 : wideB 1009 = true := by decide
    have w5 : wideB 69621 = true := by decide
    have w6 : wideB 40014 = true := by decide
    obtain ⟨r, hr⟩ : ∃ r, r = (b * 48271 + 1009 * (c + 1) + 7) % 2147483647 := ⟨_, rfl⟩
    obtain ⟨p, hp⟩ : ∃ p, p = (r * r + 69621 * r + 11) % 2147483629 := ⟨_, rfl⟩
    have wr : wideB r = true := hr ▸ w2 _
    have wp : wideB p = true := hp ▸ w3 _
    refine ⟨(p * p + 40014 * p) % 2147483587 / 16 % k, B.set n (.lst [.int a, .int r, .int (c + 1)]), ?_, Int.emod_nonneg _ (by omega), Int.emod_lt_of_pos _ h0, pen_set hB (hr ▸ (e1 _).1) (by have := e1 (b * 48271 + 1009 * (c + 1) + 7); omega)⟩
    have hs : ∀ x, (B.set n x)[n]? = some x := fun x => by simp [hn]
    clear hn
    simp [f__law_draw, m__law_draw, fIx, hB, atI, ha, mSetIx, ixN, hs, z_fMulI, w1, w4, w5, w6, ← hr, wr, ← hp, wp, z_fMod, z_fDiv, h0]
end Hk

set_option Elab.async false
set_option linter.all false
set_option maxRecDepth 100000
namespace Hk
open PySem PySem.Spec PyProof.Rows L2 Hf

/-! ### each number of values and bits: what is told, what is due (written by gen31.py) -/
def valR : Rs D → D
  | .ok a _ => a
  | _ => .none
def pn (p : Int × Int × Int) : D := .lst [.int p.1, .int p.2.1, .int p.2.2]
def tst : Et := (mOrT (mCmpT fNe (mBin fIs (mVar 8) (mC .none)) (mBin fIs (mVar 6) (mC .none))) (mAndT (mCmpT fIsNot (mVar 8) (mC .none)) (mCmpT fNe (mPrp 0 f_Code_words (mVar 8)) (mVar 6))))
structure EvOk (m w : Int) (T : D) : Prop where
  e1 : ∀ p, f_evenly [.int m, .int w] [pn p] = .ok T [pn p]
  e2 : ∀ p q, f_evenly [.int m, .int w] [pn p, pn q] = .ok T [pn p, pn q]
structure PairOk (m w : Int) (T U : D) : Prop where
  e : EvOk m w T
  d : ∀ B, f__law_due [.int m, .int w] B = .ok U B
  t : ∀ a0 a1 a2 a3 a7 B, tst [a0, a1, a2, a3, some (false, .int m), some (false, .int w), some (false, U), a7, some (false, T)] B = .ok false B
abbrev evV (m w : Int) : D := valR (f_evenly [.int m, .int w] [])
abbrev duV (m w : Int) : D := valR (f__law_due [.int m, .int w] [])
abbrev woV (m : Int) : D := valR (prpK 0 f_Code_words (evV m 4) [])
abbrev coV (m : Int) : D := valR (f__law_counts [woV m] [])
structure GrOk (m : Int) (T W C : D) : Prop where
  e : ∀ p, f_evenly [.int m, .int 4] [pn p] = .ok T [pn p]
  i : insL 0 [T] = true
  w : ∀ B, prpK 0 f_Code_words T B = .ok W B
  c : ∀ B, f__law_counts [W] B = .ok C B
  x : ∀ B, fMax1 C B = .ok (.int 4) B
  f : ∀ B, f__law_first_even [.int m, .int 4, .int 4] B = .ok W B
  q : ∀ B, fEq W W B = .ok (.bool true) B
end Hk

set_option Elab.async false
set_option linter.all false
set_option maxRecDepth 100000
namespace Hk
open PySem PySem.Spec PyProof.Rows L2 Hf

/-! ### pens, draws -/
def Pens (k : Nat) (B : Bs) : Prop := B.length = k ∧ ∀ d ∈ B, ∃ p, d = pn p
theorem pens_step {n k : Nat} {B B' : Bs} (h : Pens k B) (P : PenStep n B B') : Pens k B' := by
  refine ⟨P.len.trans h.1, fun d hd => ?_⟩
  obtain ⟨i, hi⟩ := List.getElem?_of_mem hd
  by_cases e : i = n
  · subst e
    obtain ⟨⟨a, b, c, h1, _⟩⟩ := P.ok
    rw [hi] at h1
    exact ⟨(a, b, c), by injection h1⟩
  · rw [P.oth i e] at hi
    exact h.2 d (List.mem_of_getElem? hi)
theorem pen_made31 (c : Int) {k : Nat} {B : Bs} (h : Pens k B) : ∃ B', f__law_pen [.int c] B = .ok (.box B.length) B' ∧ PenOk B' B.length ∧ Pens (k + 1) B' := by
  have h0 := Int.emod_nonneg c (show (2147483629 : Int) ≠ 0 by decide)
  have h1 := Int.emod_lt_of_pos c (show (0 : Int) < 2147483629 by decide)
  refine ⟨B ++ [.lst [.int (if c - 10 ^ 18 > 0 then c - 10 ^ 18 else 0), .int (c % 2147483629 + 1), .int 0]], ?_, ⟨(if c - 10 ^ 18 > 0 then c - 10 ^ 18 else 0), c % 2147483629 + 1, 0, by simp, by omega, by omega⟩, by simp [h.1], fun d hd => ?_⟩
  · have e : fPow (.int 10) (.int 18) B = .ok (.int (10 ^ 18)) B := rfl
    have z3 : 3 ≤ sizeLine := by decide
    simp [f__law_pen, m__law_pen, e, mBox, szL, z3, z_fMod]
  · rcases List.mem_append.mp hd with q | q
    · exact h.2 d q
    · exact ⟨(_, _, _), by simpa [pn] using q⟩
theorem cell_at_ok (ns : List Int) (k : Nat) (B : Bs) : ∃ c, f__law_cell_at [.scr (ns.map D.int), .int k] B = .ok (.int c) B := by
  by_cases h : k < ns.length
  · refine ⟨ns[k], ?_⟩
    have : (k : Int) < (ns.length : Int) := by omega
    simp [f__law_cell_at, m__law_cell_at, fIx, atI, ixN, h]
  · refine ⟨0, ?_⟩
    have : ¬ (k : Int) < (ns.length : Int) := by omega
    simp [f__law_cell_at, m__law_cell_at, h]
theorem add_lst1 {a b : List D} (h : a.length + b.length ≤ 1000000) (B : Bs) : fAdd (.lst a) (.lst b) B = .ok (.lst (a ++ b)) B := by
  have := size_big
  rw [fAdd, if_pos (by omega)]
theorem pick3 {B : Bs} {n : Nat} (P : PenOk B n) : ∃ (m : Int) (B' : Bs), f__law_pick [.box n, .lst [.int 4, .int 6, .int 7]] B = .ok (.int m) B' ∧ (m = 4 ∨ m = 6 ∨ m = 7) ∧ PenStep n B B' := by
  obtain ⟨v, B1, e1, a1, b1, S1⟩ := law_draw_ok (k := 3) P (by decide) (by decide)
  have len : fLen (.lst [.int 4, .int 6, .int 7]) B = .ok (.int 3) B := rfl
  have hv : v = 0 ∨ v = 1 ∨ v = 2 := by omega
  rcases hv with rfl | rfl | rfl
  · exact ⟨4, B1, by
      have x : fIx (.lst [.int 4, .int 6, .int 7]) (.int 0) B1 = .ok (.int 4) B1 := rfl
      simp [f__law_pick, m__law_pick, len, e1, x], by omega, S1⟩
  · exact ⟨6, B1, by
      have x : fIx (.lst [.int 4, .int 6, .int 7]) (.int 1) B1 = .ok (.int 6) B1 := rfl
      simp [f__law_pick, m__law_pick, len, e1, x], by omega, S1⟩
  · exact ⟨7, B1, by
      have x : fIx (.lst [.int 4, .int 6, .int 7]) (.int 2) B1 = .ok (.int 7) B1 := rfl
      simp [f__law_pick, m__law_pick, len, e1, x], by omega, S1⟩
/-! ### ten to sixteen values -/
theorem insL_cons {c : Nat} (d : D) (ds : List D) : insL c (d :: ds) = (insL c [d] && insL c ds) := by
  cases d <;> simp [insL]
abbrev g31 : Ms := (mSet 1 (mLc [2] (gN 2) (mItems (mTup (mCons (mC (.int 10)) (mCons (mC (.int 12)) (mCons (mC (.int 14)) (mCons (mC (.int 16)) mNil)))))) mYes (mCall f_evenly [] (mCons (mVar 2) (mCons (mC (.int 4)) mNil)))))
abbrev g32 : Ms := (mIf (mOrT (mCmpT (fInN 0 fIn) (mC .none) (mVar 1)) (mCmpT fNe (mLc [3] (gN 3) (mItems (mVar 1)) mYes (m1 fMax1 (mCall f__law_counts [] (mCons (mPrp 0 f_Code_words (mVar 3)) mNil)))) (mBin fMulL (mLst (mCons (mC (.int 4)) mNil)) (mC (.int 4))))) (mRet (mC (.bool false))) mSkip)
abbrev g33 : Ms := (mSet 4 (mCall f__law_draw [] (mCons (mVar 0) (mCons (mC (.int 4)) mNil))))
abbrev g34 : Ms := (mRet (mBin fEq (mPrp 0 f_Code_words (mBin fIx (mVar 1) (mVar 4))) (mCall f__law_first_even [] (mCons (mBin fAdd (mC (.int 10)) (mBin fMul (mC (.int 2)) (mVar 4))) (mCons (mC (.int 4)) (mCons (mC (.int 4)) mNil))))))
theorem g3eq : m__law_great_right = (mSeq g31 (mSeq g32 (mSeq g33 g34))) := rfl
structure Grs (T0 T1 T2 T3 W0 W1 W2 W3 C0 C1 C2 C3 : D) : Prop where
  a : GrOk 10 T0 W0 C0
  b : GrOk 12 T1 W1 C1
  c : GrOk 14 T2 W2 C2
  d : GrOk 16 T3 W3 C3
theorem great31 {T0 T1 T2 T3 W0 W1 W2 W3 C0 C1 C2 C3 : D} (G : Grs T0 T1 T2 T3 W0 W1 W2 W3 C0 C1 C2 C3) {n : Nat} {B : Bs} (h : Pens 1 B) (P : PenOk B n) : ∃ B', f__law_great_right [.box n] B = .ok (.bool true) B' ∧ PenStep n B B' := by
  obtain ⟨p, rfl⟩ : ∃ p, B = [pn p] := by
    obtain ⟨hl, hp⟩ := h
    match B, hl, hp with
    | [d], _, hp =>
      obtain ⟨p, rfl⟩ := hp d (by simp)
      exact ⟨p, rfl⟩
  obtain ⟨v, B1, e1, v0, v1, S1⟩ := law_draw_ok (k := 4) P (by decide) (by decide)
  refine ⟨B1, ?_, S1⟩
  have hm : f__law_great_right [.box n] [pn p] = (m__law_great_right [some (false, .box n), none, none, none, none] [pn p]).fin := rfl
  rw [hm, g3eq]
  have s4 : ∀ a b c d : D, szL [a, b, c, d] = true := fun _ _ _ _ => decide_eq_true (show 4 ≤ sizeLine by decide)
  have a0 := G.a.e p
  have b0 := G.b.e p
  have c0 := G.c.e p
  have d0 := G.d.e p
  generalize hPN : [pn p] = PN at *
  have k1 : g31 [some (false, .box n), none, none, none, none] PN = .next [some (false, .box n), some (false, .lst [T0, T1, T2, T3]), none, none, none] PN := by
    unfold g31
    generalize f_evenly = F at *
    simp [mLc, lcL, wipeI, s4, a0, b0, c0, d0, itemsOf, noX]
  have k2 : g32 [some (false, .box n), some (false, .lst [T0, T1, T2, T3]), none, none, none] PN = .next [some (false, .box n), some (false, .lst [T0, T1, T2, T3]), none, none, none] PN := by
    have ni : fInN 0 fIn .none (.lst [T0, T1, T2, T3]) PN = .ok (.bool false) PN := by
      show (if insL 0 [T0, T1, T2, T3] = true then _ else _) = _
      rw [insL_cons T0 [T1, T2, T3], insL_cons T1 [T2, T3], insL_cons T2 [T3], G.a.i, G.b.i, G.c.i, G.d.i]
      rfl
    have a1 := G.a.w PN; have a2 := G.a.c PN; have a3 := G.a.x PN
    have b1 := G.b.w PN; have b2 := G.b.c PN; have b3 := G.b.x PN
    have c1 := G.c.w PN; have c2 := G.c.c PN; have c3 := G.c.x PN
    have d1 := G.d.w PN; have d2 := G.d.c PN; have d3 := G.d.x PN
    have m4 : fMulL (.lst [.int 4]) (.int 4) PN = .ok (.lst [.int 4, .int 4, .int 4, .int 4]) PN := rfl
    have ne : fNe (.lst [.int 4, .int 4, .int 4, .int 4]) (.lst [.int 4, .int 4, .int 4, .int 4]) PN = .ok (.bool false) PN := by kernel_rfl
    have s1 : ∀ a : D, szL [a] = true := fun _ => decide_eq_true (show 1 ≤ sizeLine by decide)
    have lc : mLc [3] (gN 3) (mItems (mVar 1)) mYes (m1 fMax1 (mCall f__law_counts [] (mCons (mPrp 0 f_Code_words (mVar 3)) mNil))) [some (false, .box n), some (false, .lst [T0, T1, T2, T3]), none, none, none] PN = .ok (.lst [.int 4, .int 4, .int 4, .int 4]) PN := by
      generalize f__law_counts = F at *
      generalize f_Code_words = W at *
      simp [mLc, lcL, wipeI, s4, a1, a2, a3, b1, b2, b3, c1, c2, c3, d1, d2, d3, itemsOf, noX]
    unfold g32
    generalize mLc [3] (gN 3) (mItems (mVar 1)) mYes (m1 fMax1 (mCall f__law_counts [] (mCons (mPrp 0 f_Code_words (mVar 3)) mNil))) = M at *
    generalize fInN 0 fIn = IN at *
    simp [ni, lc, m4, ne, s1, toB]
  have k3 : g33 [some (false, .box n), some (false, .lst [T0, T1, T2, T3]), none, none, none] PN = .next [some (false, .box n), some (false, .lst [T0, T1, T2, T3]), none, none, some (false, .int v)] B1 := by
    unfold g33
    generalize f__law_draw = F at *
    simp [e1]
  have k4 : ∀ {T W C : D} {m : Int}, GrOk m T W C → fIx (.lst [T0, T1, T2, T3]) (.int v) B1 = .ok T B1 → 10 + 2 * v = m → g34 [some (false, .box n), some (false, .lst [T0, T1, T2, T3]), none, none, some (false, .int v)] B1 = .ret (.bool true) B1 := fun {T W C m} g hx hv => by
    have w := g.w B1
    have f := g.f B1
    have q := g.q B1
    have m2 : fMul (.int 2) (.int v) B1 = .ok (.int (2 * v)) B1 := by
      have w1 : wideB 2 = true := by decide
      have w2 : wideB v = true := wide_of (by omega) (by omega)
      simp [z_fMulI, w1, w2]
    unfold g34
    generalize f__law_first_even = F at *
    generalize f_Code_words = W at *
    simp [hx, w, m2, hv, f, q]
  have hv : v = 0 ∨ v = 1 ∨ v = 2 ∨ v = 3 := by omega
  have k4 : g34 [some (false, .box n), some (false, .lst [T0, T1, T2, T3]), none, none, some (false, .int v)] B1 = .ret (.bool true) B1 := by
    rcases hv with rfl | rfl | rfl | rfl
    · exact k4 G.a rfl rfl
    · exact k4 G.b rfl rfl
    · exact k4 G.c rfl rfl
    · exact k4 G.d rfl rfl
  simp only [z_mSeq, k1, k2, k3, k4, z_seq_next, z_fin_ret]
/-! ### a pair of numbers -/
abbrev pTurn : Ms := (mSeq (mSet 8 (mCall f_evenly [] (mCons (mVar 4) (mCons (mVar 5) mNil)))) (mIf tst (mRet (mC (.bool false))) mSkip))
abbrev pBody : Ms := (mSeq (mSet 6 (mCall f__law_due [] (mCons (mVar 4) (mCons (mVar 5) mNil)))) (mFor (gN 7) (mRng1 (mC (.int 2))) pTurn))
theorem ev_pens {m w : Int} {T : D} (h : EvOk m w T) {k : Nat} {B : Bs} (hk : 1 ≤ k ∧ k ≤ 2) (P : Pens k B) : f_evenly [.int m, .int w] B = .ok T B := by
  obtain ⟨rfl, hp⟩ := P
  match B, hk, hp with
  | [a], _, hp =>
    obtain ⟨p, rfl⟩ := hp a (by simp)
    exact h.e1 p
  | [a, b], _, hp =>
    obtain ⟨p, rfl⟩ := hp a (by simp)
    obtain ⟨q, rfl⟩ := hp b (by simp)
    exact h.e2 p q
  | _ :: _ :: _ :: _, hk, _ => exact absurd hk.2 (by simp)
  | [], hk, _ => exact absurd hk.1 (by simp)
theorem pair_ok {m w : Int} {T U : D} (h : PairOk m w T U) {k : Nat} {B : Bs} (hk : 1 ≤ k ∧ k ≤ 2) (P : Pens k B) (a0 a1 a2 a3 a6 a7 a8 : Option (Bool × D)) :
    ∃ u7, pBody [a0, a1, a2, a3, some (false, .int m), some (false, .int w), a6, a7, a8] B = .next [a0, a1, a2, a3, some (false, .int m), some (false, .int w), some (false, U), u7, some (false, T)] B := by
  have ev := ev_pens h.e hk P
  have du := h.d B
  have tn : ∀ x7 x8, pTurn [a0, a1, a2, a3, some (false, .int m), some (false, .int w), some (false, U), x7, x8] B = .next [a0, a1, a2, a3, some (false, .int m), some (false, .int w), some (false, U), x7, some (false, T)] B := fun x7 x8 => by
    have t := h.t a0 a1 a2 a3 x7 B
    unfold pTurn
    generalize tst = TT at *
    generalize f_evenly = F at *
    simp [ev, t]
  refine ⟨some (false, .int 1), ?_⟩
  have k1 : mSet 6 (mCall f__law_due [] (mCons (mVar 4) (mCons (mVar 5) mNil))) [a0, a1, a2, a3, some (false, .int m), some (false, .int w), a6, a7, a8] B = .next [a0, a1, a2, a3, some (false, .int m), some (false, .int w), some (false, U), a7, a8] B := by
    generalize f__law_due = F at *
    simp [du]
  have k2 : mFor (gN 7) (mRng1 (mC (.int 2))) pTurn [a0, a1, a2, a3, some (false, .int m), some (false, .int w), some (false, U), a7, a8] B = .next [a0, a1, a2, a3, some (false, .int m), some (false, .int w), some (false, U), some (false, .int 1), some (false, T)] B := by
    have it : (mRng1 (mC (.int 2))) [a0, a1, a2, a3, some (false, .int m), some (false, .int w), some (false, U), a7, a8] B = .ok [.int 0, .int 1] B := rfl
    have t0 := tn (some (false, .int 0)) a8
    have t1 := tn (some (false, .int 1)) (some (false, T))
    unfold mFor
    rw [it, z_st_ok]
    generalize pTurn = PT at *
    simp [forL, t0, t1]
  show mSeq _ _ _ B = _
  rw [z_mSeq, k1, z_seq_next, k2]
/-! ### the law -/
def Known (m w : Int) : Prop := ∃ T U, PairOk m w T U
structure All31 : Prop where
  s : ∀ m w : Int, 2 ≤ m → m ≤ 10 → 1 ≤ w → w ≤ 3 → Known m w
  a : Known 4 4
  b : Known 6 4
  c : Known 7 4
  d : Known 8 4
abbrev lGr : Ms := (mIf (mAndT (mCmpT fEq (mVar 1) (mC (.int 0))) (mNotT (mT (mCall f__law_great_right [] (mCons (mVar 2) mNil))))) (mRet (mC (.bool false))) mSkip)
abbrev lSo : Ms := (mSet 3 (mLc [7] (gN 7) (mRng1 (mC (.int 9))) mYes (mTup (mCons (mBin fAdd (mC (.int 2)) (mCall f__law_draw [] (mCons (mVar 2) (mCons (mC (.int 9)) mNil)))) (mCons (mBin fAdd (mC (.int 1)) (mCall f__law_draw [] (mCons (mVar 2) (mCons (mC (.int 3)) mNil)))) mNil)))))
abbrev lPi : Ei := (mItems (mBin fAdd (mVar 3) (mLst (mCons (mTup (mCons (mCall f__law_pick [] (mCons (mVar 2) (mCons (mLst (mCons (mC (.int 4)) (mCons (mC (.int 6)) (mCons (mC (.int 7)) mNil)))) mNil))) (mCons (mC (.int 4)) mNil))) (mCons (mTup (mCons (mC (.int 8)) (mCons (mC (.int 4)) mNil))) mNil)))))
abbrev lPa : Ms := (mFor (gT (gsC (gN 4) (gsC (gN 5) gs0))) lPi pBody)
abbrev lBo : Ms := (mSeq lGr (mSeq lSo lPa))
theorem law31_eq : m_law = mSeq (mFor (gN 1) (mRng1 (mBin fMax2 (mC (.int 1)) (mBin fMin2 (m1 fLen (mVar 0)) (mC (.int 2))))) (mSeq (mSet 2 (mCall f__law_pen [] (mCons (mCall f__law_cell_at [] (mCons (mVar 0) (mCons (mVar 1) mNil))) mNil))) lBo)) (mRet (mC (.bool true))) := rfl
def PairD (d : D) : Prop := ∃ m w : Int, d = .tup [.int m, .int w] ∧ Known m w
theorem some31 (K : All31) {k n : Nat} {B : Bs} (hp : Pens k B) (P : PenOk B n) (a0 a1 a3 a4 a5 a6 a7 a8 : Option (Bool × D)) :
    ∃ ds B', lSo [a0, a1, some (false, .box n), a3, a4, a5, a6, a7, a8] B = .next [a0, a1, some (false, .box n), some (false, .lst ds), a4, a5, a6, a7, a8] B' ∧ ds.length = 9 ∧ (∀ d ∈ ds, PairD d) ∧ Pens k B' ∧ PenOk B' n := by
  have it : (mRng1 (mC (.int 9))) [a0, a1, some (false, .box n), a3, a4, a5, a6, a7, a8] B = .ok (rngD 0 9) B := rfl
  obtain ⟨es, B', h1, ⟨h2, h3, h4⟩, h5⟩ := mLc_inv (vs := [7]) (i := 7) (mi := mRng1 (mC (.int 9))) (me := mTup (mCons (mBin fAdd (mC (.int 2)) (mCall f__law_draw [] (mCons (mVar 2) (mCons (mC (.int 9)) mNil)))) (mCons (mBin fAdd (mC (.int 1)) (mCall f__law_draw [] (mCons (mVar 2) (mCons (mC (.int 3)) mNil)))) mNil)))
    (σ := [a0, a1, some (false, .box n), a3, a4, a5, a6, a7, a8]) (B := B) (ds := rngD 0 9) (fun B acc => Pens k B ∧ PenOk B n ∧ ∀ d ∈ acc, PairD d) it (by decide) ⟨hp, P, fun d hd => by cases hd⟩ (by
      rintro d _ B2 acc _ ⟨hp2, P2, ha⟩
      obtain ⟨v1, B3, e1, q1, q2, S1⟩ := law_draw_ok (k := 9) P2 (by decide) (by decide)
      obtain ⟨v2, B4, e2, q3, q4, S2⟩ := law_draw_ok (k := 3) S1.ok (by decide) (by decide)
      have s2 : ∀ a b : D, szL [a, b] = true := fun _ _ => decide_eq_true (show 2 ≤ sizeLine by decide)
      refine ⟨.tup [.int (2 + v1), .int (1 + v2)], B4, ?_, pens_step (pens_step hp2 S1) S2, S2.ok, fun d hd => ?_⟩
      · generalize f__law_draw = F at *
        simp [wipeI, e1, e2, s2]
      · rcases List.mem_append.mp hd with h | h
        · exact ha d h
        · rw [List.mem_singleton] at h
          exact ⟨_, _, h, K.s _ _ (by omega) (by omega) (by omega) (by omega)⟩)
  refine ⟨es, B', ?_, by rw [h5]; rfl, h4, h2, h3⟩
  unfold lSo mSet
  rw [h1]
  rfl
theorem body31 (K : All31) {T0 T1 T2 T3 W0 W1 W2 W3 C0 C1 C2 C3 : D} (G : Grs T0 T1 T2 T3 W0 W1 W2 W3 C0 C1 C2 C3) {i n : Nat} (hi : i < 2) {B : Bs} (hp : Pens (i + 1) B) (P : PenOk B n) (a0 a3 a4 a5 a6 a7 a8 : Option (Bool × D)) :
    ∃ b3 b4 b5 b6 b7 b8 B', lBo [a0, some (false, .int i), some (false, .box n), a3, a4, a5, a6, a7, a8] B = .next [a0, some (false, .int i), some (false, .box n), b3, b4, b5, b6, b7, b8] B' ∧ Pens (i + 1) B' := by
  obtain ⟨B1, k1, hp1, P1⟩ : ∃ B1, lGr [a0, some (false, .int i), some (false, .box n), a3, a4, a5, a6, a7, a8] B = .next [a0, some (false, .int i), some (false, .box n), a3, a4, a5, a6, a7, a8] B1 ∧ Pens (i + 1) B1 ∧ PenOk B1 n := by
    by_cases h0 : i = 0
    · subst h0
      obtain ⟨B1, g, S⟩ := great31 G hp P
      refine ⟨B1, ?_, pens_step hp S, S.ok⟩
      have q : fEq (.int ((0 : Nat) : Int)) (.int 0) B = .ok (.bool true) B := by kernel_rfl
      unfold lGr
      generalize f__law_great_right = F at *
      simp only [Int.natCast_zero] at *
      simp [g, q, toB]
    · refine ⟨B, ?_, hp, P⟩
      obtain rfl : i = 1 := by omega
      have q : fEq (.int 1) (.int 0) B = .ok (.bool false) B := by kernel_rfl
      unfold lGr
      generalize f__law_great_right = F at *
      simp [q, toB]
  obtain ⟨ds, B2, k2, hl, hd, hp2, P2⟩ := some31 K hp1 P1 a0 (some (false, .int i)) a3 a4 a5 a6 a7 a8
  obtain ⟨m, B3, e3, hm, S3⟩ := pick3 P2
  have s2 : ∀ a b : D, szL [a, b] = true := fun _ _ => decide_eq_true (show 2 ≤ sizeLine by decide)
  have s3 : ∀ a b c : D, szL [a, b, c] = true := fun _ _ _ => decide_eq_true (show 3 ≤ sizeLine by decide)
  have hp3 := pens_step hp2 S3
  have ad := add_lst1 (a := ds) (b := [.tup [.int m, .int 4], .tup [.int 8, .int 4]]) (by simp; omega) B3
  have it : lPi [a0, some (false, .int i), some (false, .box n), some (false, .lst ds), a4, a5, a6, a7, a8] B2 = .ok (ds ++ [.tup [.int m, .int 4], .tup [.int 8, .int 4]]) B3 := by
    unfold lPi
    generalize f__law_pick = F at *
    simp [e3, s2, s3, ad, itemsOf]
  have all : ∀ d ∈ ds ++ [.tup [.int m, .int 4], .tup [.int 8, .int 4]], PairD d := fun d h => by
    rcases List.mem_append.mp h with h | h
    · exact hd d h
    · simp only [List.mem_cons, List.not_mem_nil, or_false] at h
      rcases h with rfl | rfl
      · rcases hm with rfl | rfl | rfl
        · exact ⟨_, _, rfl, K.a⟩
        · exact ⟨_, _, rfl, K.b⟩
        · exact ⟨_, _, rfl, K.c⟩
      · exact ⟨_, _, rfl, K.d⟩
  obtain ⟨σ', B', f1, ⟨b4, b5, b6, b7, b8, rfl⟩, rfl⟩ := forL_inv (t := gT (gsC (gN 4) (gsC (gN 5) gs0))) (b := pBody)
    (fun _ σ B' => (∃ b4 b5 b6 b7 b8, σ = [a0, some (false, .int i), some (false, .box n), some (false, .lst ds), b4, b5, b6, b7, b8]) ∧ B' = B3) (ds ++ [.tup [.int m, .int 4], .tup [.int 8, .int 4]]) 0
    [a0, some (false, .int i), some (false, .box n), some (false, .lst ds), a4, a5, a6, a7, a8] B3 (by
      rintro j d σ B' hd' ⟨⟨b4, b5, b6, b7, b8, rfl⟩, rfl⟩
      obtain ⟨m, w, rfl, T, U, h⟩ := all d (List.mem_of_getElem? hd')
      obtain ⟨u7, h7⟩ := pair_ok h (k := i + 1) ⟨by omega, by omega⟩ hp3 a0 (some (false, .int i)) (some (false, .box n)) (some (false, .lst ds)) b6 b7 b8
      exact ⟨_, rfl, _, B', h7, ⟨_, _, _, _, _, rfl⟩, rfl⟩) ⟨⟨_, _, _, _, _, rfl⟩, rfl⟩
  refine ⟨some (false, .lst ds), b4, b5, b6, b7, b8, B', ?_, hp3⟩
  have k3 : lPa [a0, some (false, .int i), some (false, .box n), some (false, .lst ds), a4, a5, a6, a7, a8] B2 = .next [a0, some (false, .int i), some (false, .box n), some (false, .lst ds), b4, b5, b6, b7, b8] B' := by
    unfold lPa mFor
    rw [it, z_st_ok]
    exact f1
  show mSeq _ _ _ B = _
  rw [z_mSeq, k1, z_seq_next, z_mSeq, k2, z_seq_next, k3]
theorem law31 (K : All31) {T0 T1 T2 T3 W0 W1 W2 W3 C0 C1 C2 C3 : D} (G : Grs T0 T1 T2 T3 W0 W1 W2 W3 C0 C1 C2 C3) (ns : List Int) : ∃ B, f_law [.scr (ns.map D.int)] [] = .ok (.bool true) B := by
  obtain ⟨N, hK⟩ : ∃ N : Nat, (if (if (2 : Int) < (ns.length : Int) then (2 : Int) else (ns.length : Int)) > 1 then (if (2 : Int) < (ns.length : Int) then (2 : Int) else (ns.length : Int)) else 1) = (N : Int) ∧ 1 ≤ N ∧ N ≤ 2 :=
    ⟨(if (if (2 : Int) < (ns.length : Int) then (2 : Int) else (ns.length : Int)) > 1 then (if (2 : Int) < (ns.length : Int) then (2 : Int) else (ns.length : Int)) else 1).toNat, by split <;> split <;> omega, by split <;> split <;> omega, by split <;> split <;> omega⟩
  have lenR : (rngD 0 N).length = N := by simp [rngD]
  obtain ⟨σ', B', e, h, a1, a2, a3, a4, a5, a6, a7, a8, rfl⟩ := forL_inv (t := gN 1) (b := mSeq (mSet 2 (mCall f__law_pen [] (mCons (mCall f__law_cell_at [] (mCons (mVar 0) (mCons (mVar 1) mNil))) mNil))) lBo)
    (fun i σ B => Pens i B ∧ ∃ a1 a2 a3 a4 a5 a6 a7 a8, σ = [some (false, .scr (ns.map D.int)), a1, a2, a3, a4, a5, a6, a7, a8]) (rngD 0 N) 0
    [some (false, .scr (ns.map D.int)), none, none, none, none, none, none, none, none] [] (by
      rintro i d σ B hd ⟨hp, a1, a2, a3, a4, a5, a6, a7, a8, rfl⟩
      have hlt : i < N := by
        have := (List.getElem?_eq_some_iff.mp hd).1
        omega
      obtain ⟨rfl, hi⟩ := rngD_get hd
      rw [Nat.zero_add] at hp ⊢
      obtain ⟨x, c1⟩ := cell_at_ok ns i B
      obtain ⟨B1, c2, P1, hp1⟩ := pen_made31 x hp
      obtain ⟨b3, b4, b5, b6, b7, b8, B2, c3, hp2⟩ := body31 K G (i := i) (by omega) hp1 P1 (some (false, .scr (ns.map D.int))) a3 a4 a5 a6 a7 a8
      refine ⟨_, rfl, [some (false, .scr (ns.map D.int)), some (false, .int i), some (false, .box B.length), b3, b4, b5, b6, b7, b8], B2, ?_, hp2, _, _, _, _, _, _, _, _, rfl⟩
      generalize lBo = LB at *
      generalize f__law_pen = F1 at *
      generalize f__law_cell_at = F2 at *
      simp [c1, c2]
      exact c3) ⟨⟨rfl, fun d hd => absurd hd (by simp)⟩, _, _, _, _, _, _, _, _, rfl⟩
  have r4 : rngB (N : Int) = true := by simp [rngB]; omega
  have s1 : mRng1 (mBin fMax2 (mC (.int 1)) (mBin fMin2 (m1 fLen (mVar 0)) (mC (.int 2)))) [some (false, .scr (ns.map D.int)), none, none, none, none, none, none, none, none] [] = .ok (rngD 0 N) [] := by
    have l : ((ns.map D.int).length : Int) = (ns.length : Int) := by simp
    simp only [z_mRng1, z_mBin, z_mC, z_m1, z_mVar, List.getElem?_cons_zero, z_bind_ok, z_lenS, z_fMin2, z_fMax2, z_asI, l, hK.1, r4, if_true, Int.toNat_natCast]
  refine ⟨B', ?_⟩
  have hf : f_law [.scr (ns.map D.int)] [] = (m_law [some (false, .scr (ns.map D.int)), none, none, none, none, none, none, none, none] []).fin := rfl
  rw [hf, law31_eq]
  simp only [z_mSeq, mFor, s1, z_st_ok, e, z_seq_next, z_mRet, z_mC]
  rfl
end Hk

set_option Elab.async false
set_option linter.all false
set_option maxRecDepth 100000
namespace Hk
open PySem PySem.Spec PyProof.Rows L2 Hf

theorem pr_2_1 : PairOk 2 1 (evV 2 1) (duV 2 1) := ⟨⟨fun p => by kernel_rfl, fun p q => by kernel_rfl⟩, fun B => by kernel_rfl, fun a0 a1 a2 a3 a7 B => by kernel_rfl⟩
theorem pr_3_1 : PairOk 3 1 (evV 3 1) (duV 3 1) := ⟨⟨fun p => by kernel_rfl, fun p q => by kernel_rfl⟩, fun B => by kernel_rfl, fun a0 a1 a2 a3 a7 B => by kernel_rfl⟩
theorem pr_4_1 : PairOk 4 1 (evV 4 1) (duV 4 1) := ⟨⟨fun p => by kernel_rfl, fun p q => by kernel_rfl⟩, fun B => by kernel_rfl, fun a0 a1 a2 a3 a7 B => by kernel_rfl⟩
theorem pr_5_1 : PairOk 5 1 (evV 5 1) (duV 5 1) := ⟨⟨fun p => by kernel_rfl, fun p q => by kernel_rfl⟩, fun B => by kernel_rfl, fun a0 a1 a2 a3 a7 B => by kernel_rfl⟩
theorem pr_6_1 : PairOk 6 1 (evV 6 1) (duV 6 1) := ⟨⟨fun p => by kernel_rfl, fun p q => by kernel_rfl⟩, fun B => by kernel_rfl, fun a0 a1 a2 a3 a7 B => by kernel_rfl⟩
theorem pr_7_1 : PairOk 7 1 (evV 7 1) (duV 7 1) := ⟨⟨fun p => by kernel_rfl, fun p q => by kernel_rfl⟩, fun B => by kernel_rfl, fun a0 a1 a2 a3 a7 B => by kernel_rfl⟩
theorem pr_8_1 : PairOk 8 1 (evV 8 1) (duV 8 1) := ⟨⟨fun p => by kernel_rfl, fun p q => by kernel_rfl⟩, fun B => by kernel_rfl, fun a0 a1 a2 a3 a7 B => by kernel_rfl⟩
theorem pr_9_1 : PairOk 9 1 (evV 9 1) (duV 9 1) := ⟨⟨fun p => by kernel_rfl, fun p q => by kernel_rfl⟩, fun B => by kernel_rfl, fun a0 a1 a2 a3 a7 B => by kernel_rfl⟩
theorem pr_10_1 : PairOk 10 1 (evV 10 1) (duV 10 1) := ⟨⟨fun p => by kernel_rfl, fun p q => by kernel_rfl⟩, fun B => by kernel_rfl, fun a0 a1 a2 a3 a7 B => by kernel_rfl⟩
theorem pr_2_2 : PairOk 2 2 (evV 2 2) (duV 2 2) := ⟨⟨fun p => by kernel_rfl, fun p q => by kernel_rfl⟩, fun B => by kernel_rfl, fun a0 a1 a2 a3 a7 B => by kernel_rfl⟩
theorem pr_3_2 : PairOk 3 2 (evV 3 2) (duV 3 2) := ⟨⟨fun p => by kernel_rfl, fun p q => by kernel_rfl⟩, fun B => by kernel_rfl, fun a0 a1 a2 a3 a7 B => by kernel_rfl⟩
theorem pr_4_2 : PairOk 4 2 (evV 4 2) (duV 4 2) := ⟨⟨fun p => by kernel_rfl, fun p q => by kernel_rfl⟩, fun B => by kernel_rfl, fun a0 a1 a2 a3 a7 B => by kernel_rfl⟩
theorem pr_5_2 : PairOk 5 2 (evV 5 2) (duV 5 2) := ⟨⟨fun p => by kernel_rfl, fun p q => by kernel_rfl⟩, fun B => by kernel_rfl, fun a0 a1 a2 a3 a7 B => by kernel_rfl⟩
theorem pr_6_2 : PairOk 6 2 (evV 6 2) (duV 6 2) := ⟨⟨fun p => by kernel_rfl, fun p q => by kernel_rfl⟩, fun B => by kernel_rfl, fun a0 a1 a2 a3 a7 B => by kernel_rfl⟩
theorem pr_7_2 : PairOk 7 2 (evV 7 2) (duV 7 2) := ⟨⟨fun p => by kernel_rfl, fun p q => by kernel_rfl⟩, fun B => by kernel_rfl, fun a0 a1 a2 a3 a7 B => by kernel_rfl⟩
theorem pr_8_2 : PairOk 8 2 (evV 8 2) (duV 8 2) := ⟨⟨fun p => by kernel_rfl, fun p q => by kernel_rfl⟩, fun B => by kernel_rfl, fun a0 a1 a2 a3 a7 B => by kernel_rfl⟩
theorem pr_9_2 : PairOk 9 2 (evV 9 2) (duV 9 2) := ⟨⟨fun p => by kernel_rfl, fun p q => by kernel_rfl⟩, fun B => by kernel_rfl, fun a0 a1 a2 a3 a7 B => by kernel_rfl⟩
theorem pr_10_2 : PairOk 10 2 (evV 10 2) (duV 10 2) := ⟨⟨fun p => by kernel_rfl, fun p q => by kernel_rfl⟩, fun B => by kernel_rfl, fun a0 a1 a2 a3 a7 B => by kernel_rfl⟩
theorem pr_2_3 : PairOk 2 3 (evV 2 3) (duV 2 3) := ⟨⟨fun p => by kernel_rfl, fun p q => by kernel_rfl⟩, fun B => by kernel_rfl, fun a0 a1 a2 a3 a7 B => by kernel_rfl⟩
theorem pr_3_3 : PairOk 3 3 (evV 3 3) (duV 3 3) := ⟨⟨fun p => by kernel_rfl, fun p q => by kernel_rfl⟩, fun B => by kernel_rfl, fun a0 a1 a2 a3 a7 B => by kernel_rfl⟩
theorem pr_4_3 : PairOk 4 3 (evV 4 3) (duV 4 3) := ⟨⟨fun p => by kernel_rfl, fun p q => by kernel_rfl⟩, fun B => by kernel_rfl, fun a0 a1 a2 a3 a7 B => by kernel_rfl⟩
theorem pr_5_3 : PairOk 5 3 (evV 5 3) (duV 5 3) := ⟨⟨fun p => by kernel_rfl, fun p q => by kernel_rfl⟩, fun B => by kernel_rfl, fun a0 a1 a2 a3 a7 B => by kernel_rfl⟩
theorem pr_6_3 : PairOk 6 3 (evV 6 3) (duV 6 3) := ⟨⟨fun p => by kernel_rfl, fun p q => by kernel_rfl⟩, fun B => by kernel_rfl, fun a0 a1 a2 a3 a7 B => by kernel_rfl⟩
theorem pr_7_3 : PairOk 7 3 (evV 7 3) (duV 7 3) := ⟨⟨fun p => by kernel_rfl, fun p q => by kernel_rfl⟩, fun B => by kernel_rfl, fun a0 a1 a2 a3 a7 B => by kernel_rfl⟩
theorem pr_8_3 : PairOk 8 3 (evV 8 3) (duV 8 3) := ⟨⟨fun p => by kernel_rfl, fun p q => by kernel_rfl⟩, fun B => by kernel_rfl, fun a0 a1 a2 a3 a7 B => by kernel_rfl⟩
theorem pr_9_3 : PairOk 9 3 (evV 9 3) (duV 9 3) := ⟨⟨fun p => by kernel_rfl, fun p q => by kernel_rfl⟩, fun B => by kernel_rfl, fun a0 a1 a2 a3 a7 B => by kernel_rfl⟩
theorem pr_10_3 : PairOk 10 3 (evV 10 3) (duV 10 3) := ⟨⟨fun p => by kernel_rfl, fun p q => by kernel_rfl⟩, fun B => by kernel_rfl, fun a0 a1 a2 a3 a7 B => by kernel_rfl⟩
end Hk

set_option Elab.async false
set_option linter.all false
set_option maxRecDepth 100000
namespace Hk
open PySem PySem.Spec PyProof.Rows L2 Hf

theorem pr_4_4 : PairOk 4 4 (evV 4 4) (duV 4 4) := ⟨⟨fun p => by kernel_rfl, fun p q => by kernel_rfl⟩, fun B => by kernel_rfl, fun a0 a1 a2 a3 a7 B => by kernel_rfl⟩
theorem pr_6_4 : PairOk 6 4 (evV 6 4) (duV 6 4) := ⟨⟨fun p => by kernel_rfl, fun p q => by kernel_rfl⟩, fun B => by kernel_rfl, fun a0 a1 a2 a3 a7 B => by kernel_rfl⟩
theorem pr_7_4 : PairOk 7 4 (evV 7 4) (duV 7 4) := ⟨⟨fun p => by kernel_rfl, fun p q => by kernel_rfl⟩, fun B => by kernel_rfl, fun a0 a1 a2 a3 a7 B => by kernel_rfl⟩
theorem all_pairs {m w : Int} (h1 : 2 ≤ m) (h2 : m ≤ 10) (h3 : 1 ≤ w) (h4 : w ≤ 3) : ∃ T U, PairOk m w T U := by
  have hw : w = 1 ∨ w = 2 ∨ w = 3 := by omega
  have hm : m = 2 ∨ m = 3 ∨ m = 4 ∨ m = 5 ∨ m = 6 ∨ m = 7 ∨ m = 8 ∨ m = 9 ∨ m = 10 := by omega
  rcases hw with rfl | rfl | rfl
  · rcases hm with rfl | rfl | rfl | rfl | rfl | rfl | rfl | rfl | rfl
    · exact ⟨_, _, pr_2_1⟩
    · exact ⟨_, _, pr_3_1⟩
    · exact ⟨_, _, pr_4_1⟩
    · exact ⟨_, _, pr_5_1⟩
    · exact ⟨_, _, pr_6_1⟩
    · exact ⟨_, _, pr_7_1⟩
    · exact ⟨_, _, pr_8_1⟩
    · exact ⟨_, _, pr_9_1⟩
    · exact ⟨_, _, pr_10_1⟩
  · rcases hm with rfl | rfl | rfl | rfl | rfl | rfl | rfl | rfl | rfl
    · exact ⟨_, _, pr_2_2⟩
    · exact ⟨_, _, pr_3_2⟩
    · exact ⟨_, _, pr_4_2⟩
    · exact ⟨_, _, pr_5_2⟩
    · exact ⟨_, _, pr_6_2⟩
    · exact ⟨_, _, pr_7_2⟩
    · exact ⟨_, _, pr_8_2⟩
    · exact ⟨_, _, pr_9_2⟩
    · exact ⟨_, _, pr_10_2⟩
  · rcases hm with rfl | rfl | rfl | rfl | rfl | rfl | rfl | rfl | rfl
    · exact ⟨_, _, pr_2_3⟩
    · exact ⟨_, _, pr_3_3⟩
    · exact ⟨_, _, pr_4_3⟩
    · exact ⟨_, _, pr_5_3⟩
    · exact ⟨_, _, pr_6_3⟩
    · exact ⟨_, _, pr_7_3⟩
    · exact ⟨_, _, pr_8_3⟩
    · exact ⟨_, _, pr_9_3⟩
    · exact ⟨_, _, pr_10_3⟩
end Hk

set_option Elab.async false
set_option linter.all false
set_option maxRecDepth 100000
namespace Hk
open PySem PySem.Spec PyProof.Rows L2 Hf

/-! ### ten to sixteen values of four bits (written by gen31.py) -/
theorem gr_10 : GrOk 10 (evV 10 4) (woV 10) (coV 10) := ⟨fun p => by kernel_rfl, by kernel_rfl, fun B => by kernel_rfl, fun B => by kernel_rfl, fun B => by kernel_rfl, fun B => by kernel_rfl, fun B => by kernel_rfl⟩
theorem gr_12 : GrOk 12 (evV 12 4) (woV 12) (coV 12) := ⟨fun p => by kernel_rfl, by kernel_rfl, fun B => by kernel_rfl, fun B => by kernel_rfl, fun B => by kernel_rfl, fun B => by kernel_rfl, fun B => by kernel_rfl⟩
theorem gr_14 : GrOk 14 (evV 14 4) (woV 14) (coV 14) := ⟨fun p => by kernel_rfl, by kernel_rfl, fun B => by kernel_rfl, fun B => by kernel_rfl, fun B => by kernel_rfl, fun B => by kernel_rfl, fun B => by kernel_rfl⟩
theorem gr_16 : GrOk 16 (evV 16 4) (woV 16) (coV 16) := ⟨fun p => by kernel_rfl, by kernel_rfl, fun B => by kernel_rfl, fun B => by kernel_rfl, fun B => by kernel_rfl, fun B => by kernel_rfl, fun B => by kernel_rfl⟩
end Hk

set_option Elab.async false
set_option linter.all false
set_option maxRecDepth 100000
namespace Hk
open PySem PySem.Spec PyProof.Rows L2 Hf

/-! ### eight values of four bits (written by gen31.py) -/
def wd4 (k : Nat) : D := .tup [.int ((k / 8 % 2 : Nat) : Int), .int ((k / 4 % 2 : Nat) : Int), .int ((k / 2 % 2 : Nat) : Int), .int ((k % 2 : Nat) : Int)]
def rg4 (r : List Nat) : D := .tup (r.map wd4)
def RL0 : List (List Nat) := [[0, 1, 3, 2, 6, 4, 12, 8], [0, 1, 3, 2, 6, 7, 5, 4], [0, 1, 3, 2, 6, 14, 10, 8], [0, 1, 3, 2, 6, 14, 12, 4], [0, 1, 3, 2, 6, 14, 12, 8], [0, 1, 3, 2, 10, 8, 12, 4], [0, 1, 3, 2, 10, 11, 9, 8], [0, 1, 3, 2, 10, 14, 6, 4], [0, 1, 3, 2, 10, 14, 12, 4], [0, 1, 3, 2, 10, 14, 12, 8], [0, 1, 3, 7, 5, 4, 6, 2], [0, 1, 3, 7, 5, 4, 12, 8], [0, 1, 3, 7, 5, 13, 9, 8], [0, 1, 3, 7, 5, 13, 12, 4], [0, 1, 3, 7, 5, 13, 12, 8], [0, 1, 3, 7, 6, 2, 10, 8], [0, 1, 3, 7, 6, 4, 12, 8], [0, 1, 3, 7, 6, 14, 10, 2], [0, 1, 3, 7, 6, 14, 10, 8], [0, 1, 3, 7, 6, 14, 12, 4], [0, 1, 3, 7, 6, 14, 12, 8], [0, 1, 3, 7, 15, 11, 9, 8], [0, 1, 3, 7, 15, 11, 10, 2], [0, 1, 3, 7, 15, 11, 10, 8], [0, 1, 3, 7, 15, 13, 5, 4], [0, 1, 3, 7, 15, 13, 9, 8], [0, 1, 3, 7, 15, 13, 12, 4], [0, 1, 3, 7, 15, 13, 12, 8], [0, 1, 3, 7, 15, 14, 6, 2], [0, 1, 3, 7, 15, 14, 6, 4], [0, 1, 3, 7, 15, 14, 10, 2], [0, 1, 3, 7, 15, 14, 10, 8], [0, 1, 3, 7, 15, 14, 12, 4], [0, 1, 3, 7, 15, 14, 12, 8], [0, 1, 3, 11, 9, 8, 10, 2], [0, 1, 3, 11, 9, 8, 12, 4], [0, 1, 3, 11, 9, 13, 5, 4], [0, 1, 3, 11, 9, 13, 12, 4], [0, 1, 3, 11, 9, 13, 12, 8], [0, 1, 3, 11, 10, 2, 6, 4], [0, 1, 3, 11, 10, 8, 12, 4], [0, 1, 3, 11, 10, 14, 6, 2], [0, 1, 3, 11, 10, 14, 6, 4], [0, 1, 3, 11, 10, 14, 12, 4], [0, 1, 3, 11, 10, 14, 12, 8], [0, 1, 3, 11, 15, 7, 5, 4], [0, 1, 3, 11, 15, 7, 6, 2], [0, 1, 3, 11, 15, 7, 6, 4], [0, 1, 3, 11, 15, 13, 5, 4], [0, 1, 3, 11, 15, 13, 9, 8], [0, 1, 3, 11, 15, 13, 12, 4], [0, 1, 3, 11, 15, 13, 12, 8], [0, 1, 3, 11, 15, 14, 6, 2], [0, 1, 3, 11, 15, 14, 6, 4], [0, 1, 3, 11, 15, 14, 10, 2], [0, 1, 3, 11, 15, 14, 10, 8], [0, 1, 3, 11, 15, 14, 12, 4], [0, 1, 3, 11, 15, 14, 12, 8], [0, 1, 5, 4, 6, 2, 10, 8], [0, 1, 5, 4, 6, 7, 3, 2], [0, 1, 5, 4, 6, 14, 10, 2], [0, 1, 5, 4, 6, 14, 10, 8], [0, 1, 5, 4, 6, 14, 12, 8], [0, 1, 5, 4, 12, 8, 10, 2], [0, 1, 5, 4, 12, 13, 9, 8], [0, 1, 5, 4, 12, 14, 6, 2], [0, 1, 5, 4, 12, 14, 10, 2], [0, 1, 5, 4, 12, 14, 10, 8], [0, 1, 5, 7, 3, 2, 6, 4], [0, 1, 5, 7, 3, 2, 10, 8], [0, 1, 5, 7, 3, 11, 9, 8], [0, 1, 5, 7, 3, 11, 10, 2], [0, 1, 5, 7, 3, 11, 10, 8], [0, 1, 5, 7, 6, 2, 10, 8], [0, 1, 5, 7, 6, 4, 12, 8], [0, 1, 5, 7, 6, 14, 10, 2], [0, 1, 5, 7, 6, 14, 10, 8], [0, 1, 5, 7, 6, 14, 12, 4], [0, 1, 5, 7, 6, 14, 12, 8], [0, 1, 5, 7, 15, 11, 3, 2], [0, 1, 5, 7, 15, 11, 9, 8], [0, 1, 5, 7, 15, 11, 10, 2], [0, 1, 5, 7, 15, 11, 10, 8], [0, 1, 5, 7, 15, 13, 9, 8], [0, 1, 5, 7, 15, 13, 12, 4], [0, 1, 5, 7, 15, 13, 12, 8], [0, 1, 5, 7, 15, 14, 6, 2], [0, 1, 5, 7, 15, 14, 6, 4], [0, 1, 5, 7, 15, 14, 10, 2], [0, 1, 5, 7, 15, 14, 10, 8], [0, 1, 5, 7, 15, 14, 12, 4], [0, 1, 5, 7, 15, 14, 12, 8], [0, 1, 5, 13, 9, 8, 10, 2], [0, 1, 5, 13, 9, 8, 12, 4], [0, 1, 5, 13, 9, 11, 3, 2], [0, 1, 5, 13, 9, 11, 10, 2], [0, 1, 5, 13, 9, 11, 10, 8], [0, 1, 5, 13, 12, 4, 6, 2], [0, 1, 5, 13, 12, 8, 10, 2], [0, 1, 5, 13, 12, 14, 6, 2]]
def RL1 : List (List Nat) := [[0, 1, 5, 13, 12, 14, 6, 4], [0, 1, 5, 13, 12, 14, 10, 2], [0, 1, 5, 13, 12, 14, 10, 8], [0, 1, 5, 13, 15, 7, 3, 2], [0, 1, 5, 13, 15, 7, 6, 2], [0, 1, 5, 13, 15, 7, 6, 4], [0, 1, 5, 13, 15, 11, 3, 2], [0, 1, 5, 13, 15, 11, 9, 8], [0, 1, 5, 13, 15, 11, 10, 2], [0, 1, 5, 13, 15, 11, 10, 8], [0, 1, 5, 13, 15, 14, 6, 2], [0, 1, 5, 13, 15, 14, 6, 4], [0, 1, 5, 13, 15, 14, 10, 2], [0, 1, 5, 13, 15, 14, 10, 8], [0, 1, 5, 13, 15, 14, 12, 4], [0, 1, 5, 13, 15, 14, 12, 8], [0, 1, 9, 8, 10, 2, 6, 4], [0, 1, 9, 8, 10, 11, 3, 2], [0, 1, 9, 8, 10, 14, 6, 2], [0, 1, 9, 8, 10, 14, 6, 4], [0, 1, 9, 8, 10, 14, 12, 4], [0, 1, 9, 8, 12, 4, 6, 2], [0, 1, 9, 8, 12, 13, 5, 4], [0, 1, 9, 8, 12, 14, 6, 2], [0, 1, 9, 8, 12, 14, 6, 4], [0, 1, 9, 8, 12, 14, 10, 2], [0, 1, 9, 11, 3, 2, 6, 4], [0, 1, 9, 11, 3, 2, 10, 8], [0, 1, 9, 11, 3, 7, 5, 4], [0, 1, 9, 11, 3, 7, 6, 2], [0, 1, 9, 11, 3, 7, 6, 4], [0, 1, 9, 11, 10, 2, 6, 4], [0, 1, 9, 11, 10, 8, 12, 4], [0, 1, 9, 11, 10, 14, 6, 2], [0, 1, 9, 11, 10, 14, 6, 4], [0, 1, 9, 11, 10, 14, 12, 4], [0, 1, 9, 11, 10, 14, 12, 8], [0, 1, 9, 11, 15, 7, 3, 2], [0, 1, 9, 11, 15, 7, 5, 4], [0, 1, 9, 11, 15, 7, 6, 2], [0, 1, 9, 11, 15, 7, 6, 4], [0, 1, 9, 11, 15, 13, 5, 4], [0, 1, 9, 11, 15, 13, 12, 4], [0, 1, 9, 11, 15, 13, 12, 8], [0, 1, 9, 11, 15, 14, 6, 2], [0, 1, 9, 11, 15, 14, 6, 4], [0, 1, 9, 11, 15, 14, 10, 2], [0, 1, 9, 11, 15, 14, 10, 8], [0, 1, 9, 11, 15, 14, 12, 4], [0, 1, 9, 11, 15, 14, 12, 8], [0, 1, 9, 13, 5, 4, 6, 2], [0, 1, 9, 13, 5, 4, 12, 8], [0, 1, 9, 13, 5, 7, 3, 2], [0, 1, 9, 13, 5, 7, 6, 2], [0, 1, 9, 13, 5, 7, 6, 4], [0, 1, 9, 13, 12, 4, 6, 2], [0, 1, 9, 13, 12, 8, 10, 2], [0, 1, 9, 13, 12, 14, 6, 2], [0, 1, 9, 13, 12, 14, 6, 4], [0, 1, 9, 13, 12, 14, 10, 2], [0, 1, 9, 13, 12, 14, 10, 8], [0, 1, 9, 13, 15, 7, 3, 2], [0, 1, 9, 13, 15, 7, 5, 4], [0, 1, 9, 13, 15, 7, 6, 2], [0, 1, 9, 13, 15, 7, 6, 4], [0, 1, 9, 13, 15, 11, 3, 2], [0, 1, 9, 13, 15, 11, 10, 2], [0, 1, 9, 13, 15, 11, 10, 8], [0, 1, 9, 13, 15, 14, 6, 2], [0, 1, 9, 13, 15, 14, 6, 4], [0, 1, 9, 13, 15, 14, 10, 2], [0, 1, 9, 13, 15, 14, 10, 8], [0, 1, 9, 13, 15, 14, 12, 4], [0, 1, 9, 13, 15, 14, 12, 8], [0, 2, 3, 1, 5, 4, 12, 8], [0, 2, 3, 1, 5, 7, 6, 4], [0, 2, 3, 1, 5, 13, 9, 8], [0, 2, 3, 1, 5, 13, 12, 4], [0, 2, 3, 1, 5, 13, 12, 8], [0, 2, 3, 1, 9, 8, 12, 4], [0, 2, 3, 1, 9, 11, 10, 8], [0, 2, 3, 1, 9, 13, 5, 4], [0, 2, 3, 1, 9, 13, 12, 4], [0, 2, 3, 1, 9, 13, 12, 8], [0, 2, 3, 7, 5, 1, 9, 8], [0, 2, 3, 7, 5, 4, 12, 8], [0, 2, 3, 7, 5, 13, 9, 1], [0, 2, 3, 7, 5, 13, 9, 8], [0, 2, 3, 7, 5, 13, 12, 4], [0, 2, 3, 7, 5, 13, 12, 8], [0, 2, 3, 7, 6, 4, 5, 1], [0, 2, 3, 7, 6, 4, 12, 8], [0, 2, 3, 7, 6, 14, 10, 8], [0, 2, 3, 7, 6, 14, 12, 4], [0, 2, 3, 7, 6, 14, 12, 8], [0, 2, 3, 7, 15, 11, 9, 1], [0, 2, 3, 7, 15, 11, 9, 8], [0, 2, 3, 7, 15, 11, 10, 8], [0, 2, 3, 7, 15, 13, 5, 1], [0, 2, 3, 7, 15, 13, 5, 4]]
def RL2 : List (List Nat) := [[0, 2, 3, 7, 15, 13, 9, 1], [0, 2, 3, 7, 15, 13, 9, 8], [0, 2, 3, 7, 15, 13, 12, 4], [0, 2, 3, 7, 15, 13, 12, 8], [0, 2, 3, 7, 15, 14, 6, 4], [0, 2, 3, 7, 15, 14, 10, 8], [0, 2, 3, 7, 15, 14, 12, 4], [0, 2, 3, 7, 15, 14, 12, 8], [0, 2, 3, 11, 9, 1, 5, 4], [0, 2, 3, 11, 9, 8, 12, 4], [0, 2, 3, 11, 9, 13, 5, 1], [0, 2, 3, 11, 9, 13, 5, 4], [0, 2, 3, 11, 9, 13, 12, 4], [0, 2, 3, 11, 9, 13, 12, 8], [0, 2, 3, 11, 10, 8, 9, 1], [0, 2, 3, 11, 10, 8, 12, 4], [0, 2, 3, 11, 10, 14, 6, 4], [0, 2, 3, 11, 10, 14, 12, 4], [0, 2, 3, 11, 10, 14, 12, 8], [0, 2, 3, 11, 15, 7, 5, 1], [0, 2, 3, 11, 15, 7, 5, 4], [0, 2, 3, 11, 15, 7, 6, 4], [0, 2, 3, 11, 15, 13, 5, 1], [0, 2, 3, 11, 15, 13, 5, 4], [0, 2, 3, 11, 15, 13, 9, 1], [0, 2, 3, 11, 15, 13, 9, 8], [0, 2, 3, 11, 15, 13, 12, 4], [0, 2, 3, 11, 15, 13, 12, 8], [0, 2, 3, 11, 15, 14, 6, 4], [0, 2, 3, 11, 15, 14, 10, 8], [0, 2, 3, 11, 15, 14, 12, 4], [0, 2, 3, 11, 15, 14, 12, 8], [0, 2, 6, 4, 5, 1, 9, 8], [0, 2, 6, 4, 5, 7, 3, 1], [0, 2, 6, 4, 5, 13, 9, 1], [0, 2, 6, 4, 5, 13, 9, 8], [0, 2, 6, 4, 5, 13, 12, 8], [0, 2, 6, 4, 12, 8, 9, 1], [0, 2, 6, 4, 12, 13, 5, 1], [0, 2, 6, 4, 12, 13, 9, 1], [0, 2, 6, 4, 12, 13, 9, 8], [0, 2, 6, 4, 12, 14, 10, 8], [0, 2, 6, 7, 3, 1, 5, 4], [0, 2, 6, 7, 3, 1, 9, 8], [0, 2, 6, 7, 3, 11, 9, 1], [0, 2, 6, 7, 3, 11, 9, 8], [0, 2, 6, 7, 3, 11, 10, 8], [0, 2, 6, 7, 5, 1, 9, 8], [0, 2, 6, 7, 5, 4, 12, 8], [0, 2, 6, 7, 5, 13, 9, 1], [0, 2, 6, 7, 5, 13, 9, 8], [0, 2, 6, 7, 5, 13, 12, 4], [0, 2, 6, 7, 5, 13, 12, 8], [0, 2, 6, 7, 15, 11, 3, 1], [0, 2, 6, 7, 15, 11, 9, 1], [0, 2, 6, 7, 15, 11, 9, 8], [0, 2, 6, 7, 15, 11, 10, 8], [0, 2, 6, 7, 15, 13, 5, 1], [0, 2, 6, 7, 15, 13, 5, 4], [0, 2, 6, 7, 15, 13, 9, 1], [0, 2, 6, 7, 15, 13, 9, 8], [0, 2, 6, 7, 15, 13, 12, 4], [0, 2, 6, 7, 15, 13, 12, 8], [0, 2, 6, 7, 15, 14, 10, 8], [0, 2, 6, 7, 15, 14, 12, 4], [0, 2, 6, 7, 15, 14, 12, 8], [0, 2, 6, 14, 10, 8, 9, 1], [0, 2, 6, 14, 10, 8, 12, 4], [0, 2, 6, 14, 10, 11, 3, 1], [0, 2, 6, 14, 10, 11, 9, 1], [0, 2, 6, 14, 10, 11, 9, 8], [0, 2, 6, 14, 12, 4, 5, 1], [0, 2, 6, 14, 12, 8, 9, 1], [0, 2, 6, 14, 12, 13, 5, 1], [0, 2, 6, 14, 12, 13, 5, 4], [0, 2, 6, 14, 12, 13, 9, 1], [0, 2, 6, 14, 12, 13, 9, 8], [0, 2, 6, 14, 15, 7, 3, 1], [0, 2, 6, 14, 15, 7, 5, 1], [0, 2, 6, 14, 15, 7, 5, 4], [0, 2, 6, 14, 15, 11, 3, 1], [0, 2, 6, 14, 15, 11, 9, 1], [0, 2, 6, 14, 15, 11, 9, 8], [0, 2, 6, 14, 15, 11, 10, 8], [0, 2, 6, 14, 15, 13, 5, 1], [0, 2, 6, 14, 15, 13, 5, 4], [0, 2, 6, 14, 15, 13, 9, 1], [0, 2, 6, 14, 15, 13, 9, 8], [0, 2, 6, 14, 15, 13, 12, 4], [0, 2, 6, 14, 15, 13, 12, 8], [0, 2, 10, 8, 9, 1, 5, 4], [0, 2, 10, 8, 9, 11, 3, 1], [0, 2, 10, 8, 9, 13, 5, 1], [0, 2, 10, 8, 9, 13, 5, 4], [0, 2, 10, 8, 9, 13, 12, 4], [0, 2, 10, 8, 12, 4, 5, 1], [0, 2, 10, 8, 12, 13, 5, 1], [0, 2, 10, 8, 12, 13, 5, 4], [0, 2, 10, 8, 12, 13, 9, 1], [0, 2, 10, 8, 12, 14, 6, 4]]
def RL3 : List (List Nat) := [[0, 2, 10, 11, 3, 1, 5, 4], [0, 2, 10, 11, 3, 1, 9, 8], [0, 2, 10, 11, 3, 7, 5, 1], [0, 2, 10, 11, 3, 7, 5, 4], [0, 2, 10, 11, 3, 7, 6, 4], [0, 2, 10, 11, 9, 1, 5, 4], [0, 2, 10, 11, 9, 8, 12, 4], [0, 2, 10, 11, 9, 13, 5, 1], [0, 2, 10, 11, 9, 13, 5, 4], [0, 2, 10, 11, 9, 13, 12, 4], [0, 2, 10, 11, 9, 13, 12, 8], [0, 2, 10, 11, 15, 7, 3, 1], [0, 2, 10, 11, 15, 7, 5, 1], [0, 2, 10, 11, 15, 7, 5, 4], [0, 2, 10, 11, 15, 7, 6, 4], [0, 2, 10, 11, 15, 13, 5, 1], [0, 2, 10, 11, 15, 13, 5, 4], [0, 2, 10, 11, 15, 13, 9, 1], [0, 2, 10, 11, 15, 13, 9, 8], [0, 2, 10, 11, 15, 13, 12, 4], [0, 2, 10, 11, 15, 13, 12, 8], [0, 2, 10, 11, 15, 14, 6, 4], [0, 2, 10, 11, 15, 14, 12, 4], [0, 2, 10, 11, 15, 14, 12, 8], [0, 2, 10, 14, 6, 4, 5, 1], [0, 2, 10, 14, 6, 4, 12, 8], [0, 2, 10, 14, 6, 7, 3, 1], [0, 2, 10, 14, 6, 7, 5, 1], [0, 2, 10, 14, 6, 7, 5, 4], [0, 2, 10, 14, 12, 4, 5, 1], [0, 2, 10, 14, 12, 8, 9, 1], [0, 2, 10, 14, 12, 13, 5, 1], [0, 2, 10, 14, 12, 13, 5, 4], [0, 2, 10, 14, 12, 13, 9, 1], [0, 2, 10, 14, 12, 13, 9, 8], [0, 2, 10, 14, 15, 7, 3, 1], [0, 2, 10, 14, 15, 7, 5, 1], [0, 2, 10, 14, 15, 7, 5, 4], [0, 2, 10, 14, 15, 7, 6, 4], [0, 2, 10, 14, 15, 11, 3, 1], [0, 2, 10, 14, 15, 11, 9, 1], [0, 2, 10, 14, 15, 11, 9, 8], [0, 2, 10, 14, 15, 13, 5, 1], [0, 2, 10, 14, 15, 13, 5, 4], [0, 2, 10, 14, 15, 13, 9, 1], [0, 2, 10, 14, 15, 13, 9, 8], [0, 2, 10, 14, 15, 13, 12, 4], [0, 2, 10, 14, 15, 13, 12, 8], [0, 4, 5, 1, 3, 2, 10, 8], [0, 4, 5, 1, 3, 7, 6, 2], [0, 4, 5, 1, 3, 11, 9, 8], [0, 4, 5, 1, 3, 11, 10, 2], [0, 4, 5, 1, 3, 11, 10, 8], [0, 4, 5, 1, 9, 8, 10, 2], [0, 4, 5, 1, 9, 11, 3, 2], [0, 4, 5, 1, 9, 11, 10, 2], [0, 4, 5, 1, 9, 11, 10, 8], [0, 4, 5, 1, 9, 13, 12, 8], [0, 4, 5, 7, 3, 1, 9, 8], [0, 4, 5, 7, 3, 2, 10, 8], [0, 4, 5, 7, 3, 11, 9, 1], [0, 4, 5, 7, 3, 11, 9, 8], [0, 4, 5, 7, 3, 11, 10, 2], [0, 4, 5, 7, 3, 11, 10, 8], [0, 4, 5, 7, 6, 2, 3, 1], [0, 4, 5, 7, 6, 2, 10, 8], [0, 4, 5, 7, 6, 14, 10, 2], [0, 4, 5, 7, 6, 14, 10, 8], [0, 4, 5, 7, 6, 14, 12, 8], [0, 4, 5, 7, 15, 11, 3, 1], [0, 4, 5, 7, 15, 11, 3, 2], [0, 4, 5, 7, 15, 11, 9, 1], [0, 4, 5, 7, 15, 11, 9, 8], [0, 4, 5, 7, 15, 11, 10, 2], [0, 4, 5, 7, 15, 11, 10, 8], [0, 4, 5, 7, 15, 13, 9, 1], [0, 4, 5, 7, 15, 13, 9, 8], [0, 4, 5, 7, 15, 13, 12, 8], [0, 4, 5, 7, 15, 14, 6, 2], [0, 4, 5, 7, 15, 14, 10, 2], [0, 4, 5, 7, 15, 14, 10, 8], [0, 4, 5, 7, 15, 14, 12, 8], [0, 4, 5, 13, 9, 1, 3, 2], [0, 4, 5, 13, 9, 8, 10, 2], [0, 4, 5, 13, 9, 11, 3, 1], [0, 4, 5, 13, 9, 11, 3, 2], [0, 4, 5, 13, 9, 11, 10, 2], [0, 4, 5, 13, 9, 11, 10, 8], [0, 4, 5, 13, 12, 8, 9, 1], [0, 4, 5, 13, 12, 8, 10, 2], [0, 4, 5, 13, 12, 14, 6, 2], [0, 4, 5, 13, 12, 14, 10, 2], [0, 4, 5, 13, 12, 14, 10, 8], [0, 4, 5, 13, 15, 7, 3, 1], [0, 4, 5, 13, 15, 7, 3, 2], [0, 4, 5, 13, 15, 7, 6, 2], [0, 4, 5, 13, 15, 11, 3, 1], [0, 4, 5, 13, 15, 11, 3, 2], [0, 4, 5, 13, 15, 11, 9, 1], [0, 4, 5, 13, 15, 11, 9, 8]]
def RL4 : List (List Nat) := [[0, 4, 5, 13, 15, 11, 10, 2], [0, 4, 5, 13, 15, 11, 10, 8], [0, 4, 5, 13, 15, 14, 6, 2], [0, 4, 5, 13, 15, 14, 10, 2], [0, 4, 5, 13, 15, 14, 10, 8], [0, 4, 5, 13, 15, 14, 12, 8], [0, 4, 6, 2, 3, 1, 9, 8], [0, 4, 6, 2, 3, 7, 5, 1], [0, 4, 6, 2, 3, 11, 9, 1], [0, 4, 6, 2, 3, 11, 9, 8], [0, 4, 6, 2, 3, 11, 10, 8], [0, 4, 6, 2, 10, 8, 9, 1], [0, 4, 6, 2, 10, 11, 3, 1], [0, 4, 6, 2, 10, 11, 9, 1], [0, 4, 6, 2, 10, 11, 9, 8], [0, 4, 6, 2, 10, 14, 12, 8], [0, 4, 6, 7, 3, 1, 9, 8], [0, 4, 6, 7, 3, 2, 10, 8], [0, 4, 6, 7, 3, 11, 9, 1], [0, 4, 6, 7, 3, 11, 9, 8], [0, 4, 6, 7, 3, 11, 10, 2], [0, 4, 6, 7, 3, 11, 10, 8], [0, 4, 6, 7, 5, 1, 3, 2], [0, 4, 6, 7, 5, 1, 9, 8], [0, 4, 6, 7, 5, 13, 9, 1], [0, 4, 6, 7, 5, 13, 9, 8], [0, 4, 6, 7, 5, 13, 12, 8], [0, 4, 6, 7, 15, 11, 3, 1], [0, 4, 6, 7, 15, 11, 3, 2], [0, 4, 6, 7, 15, 11, 9, 1], [0, 4, 6, 7, 15, 11, 9, 8], [0, 4, 6, 7, 15, 11, 10, 2], [0, 4, 6, 7, 15, 11, 10, 8], [0, 4, 6, 7, 15, 13, 5, 1], [0, 4, 6, 7, 15, 13, 9, 1], [0, 4, 6, 7, 15, 13, 9, 8], [0, 4, 6, 7, 15, 13, 12, 8], [0, 4, 6, 7, 15, 14, 10, 2], [0, 4, 6, 7, 15, 14, 10, 8], [0, 4, 6, 7, 15, 14, 12, 8], [0, 4, 6, 14, 10, 2, 3, 1], [0, 4, 6, 14, 10, 8, 9, 1], [0, 4, 6, 14, 10, 11, 3, 1], [0, 4, 6, 14, 10, 11, 3, 2], [0, 4, 6, 14, 10, 11, 9, 1], [0, 4, 6, 14, 10, 11, 9, 8], [0, 4, 6, 14, 12, 8, 9, 1], [0, 4, 6, 14, 12, 8, 10, 2], [0, 4, 6, 14, 12, 13, 5, 1], [0, 4, 6, 14, 12, 13, 9, 1], [0, 4, 6, 14, 12, 13, 9, 8], [0, 4, 6, 14, 15, 7, 3, 1], [0, 4, 6, 14, 15, 7, 3, 2], [0, 4, 6, 14, 15, 7, 5, 1], [0, 4, 6, 14, 15, 11, 3, 1], [0, 4, 6, 14, 15, 11, 3, 2], [0, 4, 6, 14, 15, 11, 9, 1], [0, 4, 6, 14, 15, 11, 9, 8], [0, 4, 6, 14, 15, 11, 10, 2], [0, 4, 6, 14, 15, 11, 10, 8], [0, 4, 6, 14, 15, 13, 5, 1], [0, 4, 6, 14, 15, 13, 9, 1], [0, 4, 6, 14, 15, 13, 9, 8], [0, 4, 6, 14, 15, 13, 12, 8], [0, 4, 12, 8, 9, 1, 3, 2], [0, 4, 12, 8, 9, 11, 3, 1], [0, 4, 12, 8, 9, 11, 3, 2], [0, 4, 12, 8, 9, 11, 10, 2], [0, 4, 12, 8, 9, 13, 5, 1], [0, 4, 12, 8, 10, 2, 3, 1], [0, 4, 12, 8, 10, 11, 3, 1], [0, 4, 12, 8, 10, 11, 3, 2], [0, 4, 12, 8, 10, 11, 9, 1], [0, 4, 12, 8, 10, 14, 6, 2], [0, 4, 12, 13, 5, 1, 3, 2], [0, 4, 12, 13, 5, 1, 9, 8], [0, 4, 12, 13, 5, 7, 3, 1], [0, 4, 12, 13, 5, 7, 3, 2], [0, 4, 12, 13, 5, 7, 6, 2], [0, 4, 12, 13, 9, 1, 3, 2], [0, 4, 12, 13, 9, 8, 10, 2], [0, 4, 12, 13, 9, 11, 3, 1], [0, 4, 12, 13, 9, 11, 3, 2], [0, 4, 12, 13, 9, 11, 10, 2], [0, 4, 12, 13, 9, 11, 10, 8], [0, 4, 12, 13, 15, 7, 3, 1], [0, 4, 12, 13, 15, 7, 3, 2], [0, 4, 12, 13, 15, 7, 5, 1], [0, 4, 12, 13, 15, 7, 6, 2], [0, 4, 12, 13, 15, 11, 3, 1], [0, 4, 12, 13, 15, 11, 3, 2], [0, 4, 12, 13, 15, 11, 9, 1], [0, 4, 12, 13, 15, 11, 9, 8], [0, 4, 12, 13, 15, 11, 10, 2], [0, 4, 12, 13, 15, 11, 10, 8], [0, 4, 12, 13, 15, 14, 6, 2], [0, 4, 12, 13, 15, 14, 10, 2], [0, 4, 12, 13, 15, 14, 10, 8], [0, 4, 12, 14, 6, 2, 3, 1], [0, 4, 12, 14, 6, 2, 10, 8]]
def RL5 : List (List Nat) := [[0, 4, 12, 14, 6, 7, 3, 1], [0, 4, 12, 14, 6, 7, 3, 2], [0, 4, 12, 14, 6, 7, 5, 1], [0, 4, 12, 14, 10, 2, 3, 1], [0, 4, 12, 14, 10, 8, 9, 1], [0, 4, 12, 14, 10, 11, 3, 1], [0, 4, 12, 14, 10, 11, 3, 2], [0, 4, 12, 14, 10, 11, 9, 1], [0, 4, 12, 14, 10, 11, 9, 8], [0, 4, 12, 14, 15, 7, 3, 1], [0, 4, 12, 14, 15, 7, 3, 2], [0, 4, 12, 14, 15, 7, 5, 1], [0, 4, 12, 14, 15, 7, 6, 2], [0, 4, 12, 14, 15, 11, 3, 1], [0, 4, 12, 14, 15, 11, 3, 2], [0, 4, 12, 14, 15, 11, 9, 1], [0, 4, 12, 14, 15, 11, 9, 8], [0, 4, 12, 14, 15, 11, 10, 2], [0, 4, 12, 14, 15, 11, 10, 8], [0, 4, 12, 14, 15, 13, 5, 1], [0, 4, 12, 14, 15, 13, 9, 1], [0, 4, 12, 14, 15, 13, 9, 8], [0, 8, 9, 1, 3, 2, 6, 4], [0, 8, 9, 1, 3, 7, 5, 4], [0, 8, 9, 1, 3, 7, 6, 2], [0, 8, 9, 1, 3, 7, 6, 4], [0, 8, 9, 1, 3, 11, 10, 2], [0, 8, 9, 1, 5, 4, 6, 2], [0, 8, 9, 1, 5, 7, 3, 2], [0, 8, 9, 1, 5, 7, 6, 2], [0, 8, 9, 1, 5, 7, 6, 4], [0, 8, 9, 1, 5, 13, 12, 4], [0, 8, 9, 11, 3, 1, 5, 4], [0, 8, 9, 11, 3, 2, 6, 4], [0, 8, 9, 11, 3, 7, 5, 1], [0, 8, 9, 11, 3, 7, 5, 4], [0, 8, 9, 11, 3, 7, 6, 2], [0, 8, 9, 11, 3, 7, 6, 4], [0, 8, 9, 11, 10, 2, 3, 1], [0, 8, 9, 11, 10, 2, 6, 4], [0, 8, 9, 11, 10, 14, 6, 2], [0, 8, 9, 11, 10, 14, 6, 4], [0, 8, 9, 11, 10, 14, 12, 4], [0, 8, 9, 11, 15, 7, 3, 1], [0, 8, 9, 11, 15, 7, 3, 2], [0, 8, 9, 11, 15, 7, 5, 1], [0, 8, 9, 11, 15, 7, 5, 4], [0, 8, 9, 11, 15, 7, 6, 2], [0, 8, 9, 11, 15, 7, 6, 4], [0, 8, 9, 11, 15, 13, 5, 1], [0, 8, 9, 11, 15, 13, 5, 4], [0, 8, 9, 11, 15, 13, 12, 4], [0, 8, 9, 11, 15, 14, 6, 2], [0, 8, 9, 11, 15, 14, 6, 4], [0, 8, 9, 11, 15, 14, 10, 2], [0, 8, 9, 11, 15, 14, 12, 4], [0, 8, 9, 13, 5, 1, 3, 2], [0, 8, 9, 13, 5, 4, 6, 2], [0, 8, 9, 13, 5, 7, 3, 1], [0, 8, 9, 13, 5, 7, 3, 2], [0, 8, 9, 13, 5, 7, 6, 2], [0, 8, 9, 13, 5, 7, 6, 4], [0, 8, 9, 13, 12, 4, 5, 1], [0, 8, 9, 13, 12, 4, 6, 2], [0, 8, 9, 13, 12, 14, 6, 2], [0, 8, 9, 13, 12, 14, 6, 4], [0, 8, 9, 13, 12, 14, 10, 2], [0, 8, 9, 13, 15, 7, 3, 1], [0, 8, 9, 13, 15, 7, 3, 2], [0, 8, 9, 13, 15, 7, 5, 1], [0, 8, 9, 13, 15, 7, 5, 4], [0, 8, 9, 13, 15, 7, 6, 2], [0, 8, 9, 13, 15, 7, 6, 4], [0, 8, 9, 13, 15, 11, 3, 1], [0, 8, 9, 13, 15, 11, 3, 2], [0, 8, 9, 13, 15, 11, 10, 2], [0, 8, 9, 13, 15, 14, 6, 2], [0, 8, 9, 13, 15, 14, 6, 4], [0, 8, 9, 13, 15, 14, 10, 2], [0, 8, 9, 13, 15, 14, 12, 4], [0, 8, 10, 2, 3, 1, 5, 4], [0, 8, 10, 2, 3, 7, 5, 1], [0, 8, 10, 2, 3, 7, 5, 4], [0, 8, 10, 2, 3, 7, 6, 4], [0, 8, 10, 2, 3, 11, 9, 1], [0, 8, 10, 2, 6, 4, 5, 1], [0, 8, 10, 2, 6, 7, 3, 1], [0, 8, 10, 2, 6, 7, 5, 1], [0, 8, 10, 2, 6, 7, 5, 4], [0, 8, 10, 2, 6, 14, 12, 4], [0, 8, 10, 11, 3, 1, 5, 4], [0, 8, 10, 11, 3, 2, 6, 4], [0, 8, 10, 11, 3, 7, 5, 1], [0, 8, 10, 11, 3, 7, 5, 4], [0, 8, 10, 11, 3, 7, 6, 2], [0, 8, 10, 11, 3, 7, 6, 4], [0, 8, 10, 11, 9, 1, 3, 2], [0, 8, 10, 11, 9, 1, 5, 4], [0, 8, 10, 11, 9, 13, 5, 1], [0, 8, 10, 11, 9, 13, 5, 4]]
def RL6 : List (List Nat) := [[0, 8, 10, 11, 9, 13, 12, 4], [0, 8, 10, 11, 15, 7, 3, 1], [0, 8, 10, 11, 15, 7, 3, 2], [0, 8, 10, 11, 15, 7, 5, 1], [0, 8, 10, 11, 15, 7, 5, 4], [0, 8, 10, 11, 15, 7, 6, 2], [0, 8, 10, 11, 15, 7, 6, 4], [0, 8, 10, 11, 15, 13, 5, 1], [0, 8, 10, 11, 15, 13, 5, 4], [0, 8, 10, 11, 15, 13, 9, 1], [0, 8, 10, 11, 15, 13, 12, 4], [0, 8, 10, 11, 15, 14, 6, 2], [0, 8, 10, 11, 15, 14, 6, 4], [0, 8, 10, 11, 15, 14, 12, 4], [0, 8, 10, 14, 6, 2, 3, 1], [0, 8, 10, 14, 6, 4, 5, 1], [0, 8, 10, 14, 6, 7, 3, 1], [0, 8, 10, 14, 6, 7, 3, 2], [0, 8, 10, 14, 6, 7, 5, 1], [0, 8, 10, 14, 6, 7, 5, 4], [0, 8, 10, 14, 12, 4, 5, 1], [0, 8, 10, 14, 12, 4, 6, 2], [0, 8, 10, 14, 12, 13, 5, 1], [0, 8, 10, 14, 12, 13, 5, 4], [0, 8, 10, 14, 12, 13, 9, 1], [0, 8, 10, 14, 15, 7, 3, 1], [0, 8, 10, 14, 15, 7, 3, 2], [0, 8, 10, 14, 15, 7, 5, 1], [0, 8, 10, 14, 15, 7, 5, 4], [0, 8, 10, 14, 15, 7, 6, 2], [0, 8, 10, 14, 15, 7, 6, 4], [0, 8, 10, 14, 15, 11, 3, 1], [0, 8, 10, 14, 15, 11, 3, 2], [0, 8, 10, 14, 15, 11, 9, 1], [0, 8, 10, 14, 15, 13, 5, 1], [0, 8, 10, 14, 15, 13, 5, 4], [0, 8, 10, 14, 15, 13, 9, 1], [0, 8, 10, 14, 15, 13, 12, 4], [0, 8, 12, 4, 5, 1, 3, 2], [0, 8, 12, 4, 5, 7, 3, 1], [0, 8, 12, 4, 5, 7, 3, 2], [0, 8, 12, 4, 5, 7, 6, 2], [0, 8, 12, 4, 5, 13, 9, 1], [0, 8, 12, 4, 6, 2, 3, 1], [0, 8, 12, 4, 6, 7, 3, 1], [0, 8, 12, 4, 6, 7, 3, 2], [0, 8, 12, 4, 6, 7, 5, 1], [0, 8, 12, 4, 6, 14, 10, 2], [0, 8, 12, 13, 5, 1, 3, 2], [0, 8, 12, 13, 5, 4, 6, 2], [0, 8, 12, 13, 5, 7, 3, 1], [0, 8, 12, 13, 5, 7, 3, 2], [0, 8, 12, 13, 5, 7, 6, 2], [0, 8, 12, 13, 5, 7, 6, 4], [0, 8, 12, 13, 9, 1, 3, 2], [0, 8, 12, 13, 9, 1, 5, 4], [0, 8, 12, 13, 9, 11, 3, 1], [0, 8, 12, 13, 9, 11, 3, 2], [0, 8, 12, 13, 9, 11, 10, 2], [0, 8, 12, 13, 15, 7, 3, 1], [0, 8, 12, 13, 15, 7, 3, 2], [0, 8, 12, 13, 15, 7, 5, 1], [0, 8, 12, 13, 15, 7, 5, 4], [0, 8, 12, 13, 15, 7, 6, 2], [0, 8, 12, 13, 15, 7, 6, 4], [0, 8, 12, 13, 15, 11, 3, 1], [0, 8, 12, 13, 15, 11, 3, 2], [0, 8, 12, 13, 15, 11, 9, 1], [0, 8, 12, 13, 15, 11, 10, 2], [0, 8, 12, 13, 15, 14, 6, 2], [0, 8, 12, 13, 15, 14, 6, 4], [0, 8, 12, 13, 15, 14, 10, 2], [0, 8, 12, 14, 6, 2, 3, 1], [0, 8, 12, 14, 6, 4, 5, 1], [0, 8, 12, 14, 6, 7, 3, 1], [0, 8, 12, 14, 6, 7, 3, 2], [0, 8, 12, 14, 6, 7, 5, 1], [0, 8, 12, 14, 6, 7, 5, 4], [0, 8, 12, 14, 10, 2, 3, 1], [0, 8, 12, 14, 10, 2, 6, 4], [0, 8, 12, 14, 10, 11, 3, 1], [0, 8, 12, 14, 10, 11, 3, 2], [0, 8, 12, 14, 10, 11, 9, 1], [0, 8, 12, 14, 15, 7, 3, 1], [0, 8, 12, 14, 15, 7, 3, 2], [0, 8, 12, 14, 15, 7, 5, 1], [0, 8, 12, 14, 15, 7, 5, 4], [0, 8, 12, 14, 15, 7, 6, 2], [0, 8, 12, 14, 15, 7, 6, 4], [0, 8, 12, 14, 15, 11, 3, 1], [0, 8, 12, 14, 15, 11, 3, 2], [0, 8, 12, 14, 15, 11, 9, 1], [0, 8, 12, 14, 15, 11, 10, 2], [0, 8, 12, 14, 15, 13, 5, 1], [0, 8, 12, 14, 15, 13, 5, 4], [0, 8, 12, 14, 15, 13, 9, 1]]
def RL84 : List (List Nat) := RL0 ++ (RL1 ++ (RL2 ++ (RL3 ++ (RL4 ++ (RL5 ++ (RL6))))))
def rw4 (r : List Nat) : D := .lst (r.map wd4)
abbrev tW : Et := (mAndT (mCmpT fNe (mBor 4) (mLst mNil)) (mCmpT fLt (m1 fLen (mBor 3)) (mVar 2)))
abbrev bW : Ms := (mSeq (mPopO 5 4)
  (mSeq (mSet 6 (mBin fSub (mVar 0) (m1 fLen (mVar 5))))
  (mSeq (mIf (mCmpT fEq (mVar 6) (mC (.int 0))) (mApp 3 (m1 fTupO (mVar 5))) mSkip)
  (mFor (gN 7) (mItems (mBin fMulL (m1 fRev (mCall f__law_near [] (mCons (mBin fIx (mVar 5) (mNeg (mC (.int 1)))) mNil))) (m1 fInt (mBin fGt (mVar 6) (mC (.int 0)))))) (mIf (mAndT (mCmpT (fInD fun b => !b) (mVar 7) (mVar 5)) (mCmpT fLe (m1 fLen (mCall f__law_apart [] (mCons (mVar 7) (mCons (mBin fIx (mVar 5) (mC (.int 0))) mNil)))) (mVar 6))) (mApp 4 (mBin fAdd (mVar 5) (mLst (mCons (mVar 7) mNil)))) mSkip)))))
def sr (F : List (List Nat)) (W : List (List Nat)) (a b c : Option (Bool × D)) : Sl := [some (false, .int 8), some (false, .int 4), some (false, .int 1000000), some (true, .lst (F.map rg4)), some (true, .lst (W.map rw4)), a, b, c]
def runW (t : Et) (b : Ms) : Nat → Sl → Bs → Ss
  | 0, σ, B => .next σ B
  | n + 1, σ, B => (t σ B).st fun k B1 => if k then (b σ B1).seq (runW t b n) else .bad
theorem runW_ok {t : Et} {b : Ms} (k : Nat) : ∀ (n : Nat) {σ σ' : Sl} {B B' : Bs}, runW t b n σ B = .next σ' B' → whileL t b (n + k) σ B = whileL t b k σ' B'
  | 0, σ, σ', B, B', h => by
    have h : Ss.next σ B = .next σ' B' := h
    cases h
    rw [Nat.zero_add]
  | n + 1, σ, σ', B, B', h => by
    rw [Nat.add_right_comm]
    have h : (t σ B).st (fun k B1 => if k then (b σ B1).seq (runW t b n) else .bad) = .next σ' B' := h
    show (t σ B).st (fun c B1 => if c then (b σ B1).seq (whileL t b (n + k)) else .next σ B1) = _
    cases ht : t σ B with
    | ok c B1 =>
      rw [ht] at h
      simp only [z_st_ok] at h ⊢
      cases c with
      | false => simp at h
      | true =>
        simp only [if_true] at h ⊢
        cases hb : b σ B1 with
        | next σ2 B2 =>
          rw [hb] at h
          simp only [z_seq_next] at h ⊢
          exact runW_ok k n h
        | ret d B2 => rw [hb] at h; cases h
        | exc c z B2 => rw [hb] at h; cases h
        | bad => rw [hb] at h; cases h
    | exc c z B1 => rw [ht] at h; cases h
    | bad => rw [ht] at h; cases h
theorem rw_0 : ∀ B, runW tW bW 110 (sr (RL84.take 0) [[0]] none none none) B = .next (sr (RL84.take 43) [[0, 8], [0, 4], [0, 2], [0, 1, 9], [0, 1, 5], [0, 1, 3, 11, 15], [0, 1, 3, 11, 10, 14, 12]] (some (false, rw4 [0, 1, 3, 11, 10, 14, 6, 4])) (some (false, .int 0)) (some (false, wd4 2))) B := fun B => by kernel_rfl
theorem rw_1 : ∀ B, runW tW bW 110 (sr (RL84.take 43) [[0, 8], [0, 4], [0, 2], [0, 1, 9], [0, 1, 5], [0, 1, 3, 11, 15], [0, 1, 3, 11, 10, 14, 12]] (some (false, rw4 [0, 1, 3, 11, 10, 14, 6, 4])) (some (false, .int 0)) (some (false, wd4 2))) B = .next (sr (RL84.take 91) [[0, 8], [0, 4], [0, 2], [0, 1, 9], [0, 1, 5, 13], [0, 1, 5, 7, 15, 14, 12, 8]] (some (false, rw4 [0, 1, 5, 7, 15, 14, 12, 4])) (some (false, .int 0)) (some (false, wd4 4))) B := fun B => by kernel_rfl
theorem rw_2 : ∀ B, runW tW bW 110 (sr (RL84.take 91) [[0, 8], [0, 4], [0, 2], [0, 1, 9], [0, 1, 5, 13], [0, 1, 5, 7, 15, 14, 12, 8]] (some (false, rw4 [0, 1, 5, 7, 15, 14, 12, 4])) (some (false, .int 0)) (some (false, wd4 4))) B = .next (sr (RL84.take 135) [[0, 8], [0, 4], [0, 2], [0, 1, 9, 13], [0, 1, 9, 11, 15], [0, 1, 9, 11, 10, 14, 12, 8], [0, 1, 9, 11, 10, 14, 12, 4]] (some (false, rw4 [0, 1, 9, 11, 10, 14, 12])) (some (false, .int 1)) (some (false, wd4 4))) B := fun B => by kernel_rfl
theorem rw_3 : ∀ B, runW tW bW 110 (sr (RL84.take 135) [[0, 8], [0, 4], [0, 2], [0, 1, 9, 13], [0, 1, 9, 11, 15], [0, 1, 9, 11, 10, 14, 12, 8], [0, 1, 9, 11, 10, 14, 12, 4]] (some (false, rw4 [0, 1, 9, 11, 10, 14, 12])) (some (false, .int 1)) (some (false, wd4 4))) B = .next (sr (RL84.take 183) [[0, 8], [0, 4], [0, 2, 10], [0, 2, 6], [0, 2, 3, 11], [0, 2, 3, 7], [0, 2, 3, 1, 9, 13, 12, 8]] (some (false, rw4 [0, 2, 3, 1, 9, 13, 12, 4])) (some (false, .int 0)) (some (false, wd4 4))) B := fun B => by kernel_rfl
theorem rw_4 : ∀ B, runW tW bW 110 (sr (RL84.take 183) [[0, 8], [0, 4], [0, 2, 10], [0, 2, 6], [0, 2, 3, 11], [0, 2, 3, 7], [0, 2, 3, 1, 9, 13, 12, 8]] (some (false, rw4 [0, 2, 3, 1, 9, 13, 12, 4])) (some (false, .int 0)) (some (false, wd4 4))) B = .next (sr (RL84.take 232) [[0, 8], [0, 4], [0, 2, 10], [0, 2, 6, 14], [0, 2, 6, 7], [0, 2, 6, 4, 12], [0, 2, 6, 4, 5, 13], [0, 2, 6, 4, 5, 7], [0, 2, 6, 4, 5, 1]] (some (false, rw4 [0, 2, 6, 4, 5])) (some (false, .int 3)) (some (false, wd4 1))) B := fun B => by kernel_rfl
theorem rw_5 : ∀ B, runW tW bW 110 (sr (RL84.take 232) [[0, 8], [0, 4], [0, 2, 10], [0, 2, 6, 14], [0, 2, 6, 7], [0, 2, 6, 4, 12], [0, 2, 6, 4, 5, 13], [0, 2, 6, 4, 5, 7], [0, 2, 6, 4, 5, 1]] (some (false, rw4 [0, 2, 6, 4, 5])) (some (false, .int 3)) (some (false, wd4 1))) B = .next (sr (RL84.take 277) [[0, 8], [0, 4], [0, 2, 10], [0, 2, 6, 14, 15, 13], [0, 2, 6, 14, 15, 11], [0, 2, 6, 14, 15, 7, 5], [0, 2, 6, 14, 15, 7, 3]] (some (false, rw4 [0, 2, 6, 14, 15, 7])) (some (false, .int 2)) (some (false, wd4 3))) B := fun B => by kernel_rfl
theorem rw_6 : ∀ B, runW tW bW 110 (sr (RL84.take 277) [[0, 8], [0, 4], [0, 2, 10], [0, 2, 6, 14, 15, 13], [0, 2, 6, 14, 15, 11], [0, 2, 6, 14, 15, 7, 5], [0, 2, 6, 14, 15, 7, 3]] (some (false, rw4 [0, 2, 6, 14, 15, 7])) (some (false, .int 2)) (some (false, wd4 3))) B = .next (sr (RL84.take 324) [[0, 8], [0, 4], [0, 2, 10, 14, 15], [0, 2, 10, 14, 12], [0, 2, 10, 14, 6, 7], [0, 2, 10, 14, 6, 4, 12], [0, 2, 10, 14, 6, 4, 5, 1]] (some (false, rw4 [0, 2, 10, 14, 6, 4, 5])) (some (false, .int 1)) (some (false, wd4 1))) B := fun B => by kernel_rfl
theorem rw_7 : ∀ B, runW tW bW 110 (sr (RL84.take 324) [[0, 8], [0, 4], [0, 2, 10, 14, 15], [0, 2, 10, 14, 12], [0, 2, 10, 14, 6, 7], [0, 2, 10, 14, 6, 4, 12], [0, 2, 10, 14, 6, 4, 5, 1]] (some (false, rw4 [0, 2, 10, 14, 6, 4, 5])) (some (false, .int 1)) (some (false, wd4 1))) B = .next (sr (RL84.take 369) [[0, 8], [0, 4, 12], [0, 4, 6], [0, 4, 5, 13], [0, 4, 5, 7, 15, 14], [0, 4, 5, 7, 15, 13], [0, 4, 5, 7, 15, 11, 10], [0, 4, 5, 7, 15, 11, 9], [0, 4, 5, 7, 15, 11, 3]] (some (false, rw4 [0, 4, 5, 7, 15, 11])) (some (false, .int 2)) (some (false, wd4 3))) B := fun B => by kernel_rfl
theorem rw_8 : ∀ B, runW tW bW 110 (sr (RL84.take 369) [[0, 8], [0, 4, 12], [0, 4, 6], [0, 4, 5, 13], [0, 4, 5, 7, 15, 14], [0, 4, 5, 7, 15, 13], [0, 4, 5, 7, 15, 11, 10], [0, 4, 5, 7, 15, 11, 9], [0, 4, 5, 7, 15, 11, 3]] (some (false, rw4 [0, 4, 5, 7, 15, 11])) (some (false, .int 2)) (some (false, wd4 3))) B = .next (sr (RL84.take 416) [[0, 8], [0, 4, 12], [0, 4, 6, 14], [0, 4, 6, 7, 15], [0, 4, 6, 7, 5], [0, 4, 6, 7, 3, 11], [0, 4, 6, 7, 3, 2], [0, 4, 6, 7, 3, 1, 9]] (some (false, rw4 [0, 4, 6, 7, 3, 1, 5])) (some (false, .int 1)) (some (false, wd4 1))) B := fun B => by kernel_rfl
theorem rw_9 : ∀ B, runW tW bW 110 (sr (RL84.take 416) [[0, 8], [0, 4, 12], [0, 4, 6, 14], [0, 4, 6, 7, 15], [0, 4, 6, 7, 5], [0, 4, 6, 7, 3, 11], [0, 4, 6, 7, 3, 2], [0, 4, 6, 7, 3, 1, 9]] (some (false, rw4 [0, 4, 6, 7, 3, 1, 5])) (some (false, .int 1)) (some (false, wd4 1))) B = .next (sr (RL84.take 465) [[0, 8], [0, 4, 12, 14], [0, 4, 12, 13], [0, 4, 12, 8, 10], [0, 4, 12, 8, 9, 13], [0, 4, 12, 8, 9, 11, 10], [0, 4, 12, 8, 9, 11, 3]] (some (false, rw4 [0, 4, 12, 8, 9, 11])) (some (false, .int 2)) (some (false, wd4 3))) B := fun B => by kernel_rfl
theorem rw_10 : ∀ B, runW tW bW 110 (sr (RL84.take 465) [[0, 8], [0, 4, 12, 14], [0, 4, 12, 13], [0, 4, 12, 8, 10], [0, 4, 12, 8, 9, 13], [0, 4, 12, 8, 9, 11, 10], [0, 4, 12, 8, 9, 11, 3]] (some (false, rw4 [0, 4, 12, 8, 9, 11])) (some (false, .int 2)) (some (false, wd4 3))) B = .next (sr (RL84.take 512) [[0, 8], [0, 4, 12, 14, 15, 13], [0, 4, 12, 14, 15, 11], [0, 4, 12, 14, 15, 7, 6]] (some (false, rw4 [0, 4, 12, 14, 15, 7, 5, 1])) (some (false, .int 0)) (some (false, wd4 1))) B := fun B => by kernel_rfl
theorem rw_11 : ∀ B, runW tW bW 110 (sr (RL84.take 512) [[0, 8], [0, 4, 12, 14, 15, 13], [0, 4, 12, 14, 15, 11], [0, 4, 12, 14, 15, 7, 6]] (some (false, rw4 [0, 4, 12, 14, 15, 7, 5, 1])) (some (false, .int 0)) (some (false, wd4 1))) B = .next (sr (RL84.take 558) [[0, 8, 12], [0, 8, 10], [0, 8, 9, 13, 15], [0, 8, 9, 13, 12], [0, 8, 9, 13, 5, 7], [0, 8, 9, 13, 5, 4, 12]] (some (false, rw4 [0, 8, 9, 13, 5, 4, 6, 2])) (some (false, .int 0)) (some (false, wd4 2))) B := fun B => by kernel_rfl
theorem rw_12 : ∀ B, runW tW bW 110 (sr (RL84.take 558) [[0, 8, 12], [0, 8, 10], [0, 8, 9, 13, 15], [0, 8, 9, 13, 12], [0, 8, 9, 13, 5, 7], [0, 8, 9, 13, 5, 4, 12]] (some (false, rw4 [0, 8, 9, 13, 5, 4, 6, 2])) (some (false, .int 0)) (some (false, wd4 2))) B = .next (sr (RL84.take 604) [[0, 8, 12], [0, 8, 10, 14], [0, 8, 10, 11, 15, 14], [0, 8, 10, 11, 15, 13], [0, 8, 10, 11, 15, 7, 6], [0, 8, 10, 11, 15, 7, 5, 4]] (some (false, rw4 [0, 8, 10, 11, 15, 7, 5, 1])) (some (false, .int 0)) (some (false, wd4 1))) B := fun B => by kernel_rfl
theorem rw_13 : ∀ B, runW tW bW 110 (sr (RL84.take 604) [[0, 8, 12], [0, 8, 10, 14], [0, 8, 10, 11, 15, 14], [0, 8, 10, 11, 15, 13], [0, 8, 10, 11, 15, 7, 6], [0, 8, 10, 11, 15, 7, 5, 4]] (some (false, rw4 [0, 8, 10, 11, 15, 7, 5, 1])) (some (false, .int 0)) (some (false, wd4 1))) B = .next (sr (RL84.take 650) [[0, 8, 12, 14], [0, 8, 12, 13, 15], [0, 8, 12, 13, 9], [0, 8, 12, 13, 5, 7]] (some (false, rw4 [0, 8, 12, 13, 5, 4, 6, 2])) (some (false, .int 0)) (some (false, wd4 2))) B := fun B => by kernel_rfl
theorem rw_14 : ∀ B, runW tW bW 97 (sr (RL84.take 650) [[0, 8, 12, 14], [0, 8, 12, 13, 15], [0, 8, 12, 13, 9], [0, 8, 12, 13, 5, 7]] (some (false, rw4 [0, 8, 12, 13, 5, 4, 6, 2])) (some (false, .int 0)) (some (false, wd4 2))) B = .next (sr (RL84.take 696) [] (some (false, rw4 [0, 8, 12, 14, 15, 13, 9, 1])) (some (false, .int 0)) (some (false, wd4 1))) B := fun B => by kernel_rfl
theorem rings_fn (a b c : D) (B : Bs) : f__law_rings [a, b, c] B = (m__law_rings [some (false, a), some (false, b), some (false, c), none, none, none, none, none] B).fin := rfl
theorem rings84 : ∀ B, f__law_rings [.int 8, .int 4, .int 1000000] B = .ok (.lst (RL84.map rg4)) B := fun B => by
  have hm := rings_fn (.int 8) (.int 4) (.int 1000000) B
  rw [hm, m__law_rings]
  have k1 : (mPar2O 3 4 (mLst mNil) (mLst (mCons (mLst (mCons (mBin fMul (mTup (mCons (mC (.int 0)) mNil)) (mVar 1)) mNil)) mNil))) [some (false, .int 8), some (false, .int 4), some (false, .int 1000000), none, none, none, none, none] B = .next (sr (RL84.take 0) [[0]] none none none) B := by kernel_rfl
  have w : whileL tW bW 4000 (sr (RL84.take 0) [[0]] none none none) B = .next (sr (RL84.take 696) [] (some (false, rw4 [0, 8, 12, 14, 15, 13, 9, 1])) (some (false, .int 0)) (some (false, wd4 1))) B := by
    rw [show (4000 : Nat) = 110 + 3890 from rfl, runW_ok 3890 110 (rw_0 B)]
    rw [show (3890 : Nat) = 110 + 3780 from rfl, runW_ok 3780 110 (rw_1 B)]
    rw [show (3780 : Nat) = 110 + 3670 from rfl, runW_ok 3670 110 (rw_2 B)]
    rw [show (3670 : Nat) = 110 + 3560 from rfl, runW_ok 3560 110 (rw_3 B)]
    rw [show (3560 : Nat) = 110 + 3450 from rfl, runW_ok 3450 110 (rw_4 B)]
    rw [show (3450 : Nat) = 110 + 3340 from rfl, runW_ok 3340 110 (rw_5 B)]
    rw [show (3340 : Nat) = 110 + 3230 from rfl, runW_ok 3230 110 (rw_6 B)]
    rw [show (3230 : Nat) = 110 + 3120 from rfl, runW_ok 3120 110 (rw_7 B)]
    rw [show (3120 : Nat) = 110 + 3010 from rfl, runW_ok 3010 110 (rw_8 B)]
    rw [show (3010 : Nat) = 110 + 2900 from rfl, runW_ok 2900 110 (rw_9 B)]
    rw [show (2900 : Nat) = 110 + 2790 from rfl, runW_ok 2790 110 (rw_10 B)]
    rw [show (2790 : Nat) = 110 + 2680 from rfl, runW_ok 2680 110 (rw_11 B)]
    rw [show (2680 : Nat) = 110 + 2570 from rfl, runW_ok 2570 110 (rw_12 B)]
    rw [show (2570 : Nat) = 110 + 2460 from rfl, runW_ok 2460 110 (rw_13 B)]
    rw [show (2460 : Nat) = 97 + 2363 from rfl, runW_ok 2363 97 (rw_14 B)]
    rw [show (2363 : Nat) = 2362 + 1 from rfl]
    have c : tW (sr (RL84.take 696) [] (some (false, rw4 [0, 8, 12, 14, 15, 13, 9, 1])) (some (false, .int 0)) (some (false, wd4 1))) B = .ok false B := by kernel_rfl
    unfold whileL
    rw [c]
    rfl
  have k3 : (mFrz 3 (mRet (mVar 3))) (sr (RL84.take 696) [] (some (false, rw4 [0, 8, 12, 14, 15, 13, 9, 1])) (some (false, .int 0)) (some (false, wd4 1))) B = .ret (.lst (RL84.map rg4)) B := by kernel_rfl
  rw [z_mSeq, k1, z_seq_next, z_mSeq, w, z_seq_next, k3]
  rfl
end Hk

set_option Elab.async false
set_option linter.all false
set_option maxRecDepth 100000
namespace Hk
open PySem PySem.Spec PyProof.Rows L2 Hf

abbrev dBody : Ms := (mSet 3 (mIte (mOrT (mCmpT fIs (mVar 3) (mC .none)) (mCmpT fLt (m1 fMax1 (mCall f__law_counts [] (mCons (mVar 4) mNil))) (m1 fMax1 (mCall f__law_counts [] (mCons (mVar 3) mNil))))) (mVar 4) (mVar 3)))
abbrev due84 (b : D) (a2 : D) (o4 : Option (Bool × D)) : Sl := [some (false, .int 8), some (false, .int 4), some (false, a2), some (false, b), o4]
def LA (c : List (List Nat)) : D := rg4 (c.getLast?.getD [])
theorem ch0 : ∀ (a2 : D) (o4 : Option (Bool × D)) (B : Bs), forL (gN 4) dBody (RL0.map rg4) (due84 .none a2 o4) B = .next (due84 (rg4 [0, 1, 3, 2, 6, 4, 12, 8]) a2 (some (false, LA RL0))) B := fun a2 o4 B => by kernel_rfl
theorem ch1 : ∀ (a2 : D) (o4 : Option (Bool × D)) (B : Bs), forL (gN 4) dBody (RL1.map rg4) (due84 (rg4 [0, 1, 3, 2, 6, 4, 12, 8]) a2 o4) B = .next (due84 (rg4 [0, 1, 3, 2, 6, 4, 12, 8]) a2 (some (false, LA RL1))) B := fun a2 o4 B => by kernel_rfl
theorem ch2 : ∀ (a2 : D) (o4 : Option (Bool × D)) (B : Bs), forL (gN 4) dBody (RL2.map rg4) (due84 (rg4 [0, 1, 3, 2, 6, 4, 12, 8]) a2 o4) B = .next (due84 (rg4 [0, 1, 3, 2, 6, 4, 12, 8]) a2 (some (false, LA RL2))) B := fun a2 o4 B => by kernel_rfl
theorem ch3 : ∀ (a2 : D) (o4 : Option (Bool × D)) (B : Bs), forL (gN 4) dBody (RL3.map rg4) (due84 (rg4 [0, 1, 3, 2, 6, 4, 12, 8]) a2 o4) B = .next (due84 (rg4 [0, 1, 3, 2, 6, 4, 12, 8]) a2 (some (false, LA RL3))) B := fun a2 o4 B => by kernel_rfl
theorem ch4 : ∀ (a2 : D) (o4 : Option (Bool × D)) (B : Bs), forL (gN 4) dBody (RL4.map rg4) (due84 (rg4 [0, 1, 3, 2, 6, 4, 12, 8]) a2 o4) B = .next (due84 (rg4 [0, 1, 3, 2, 6, 4, 12, 8]) a2 (some (false, LA RL4))) B := fun a2 o4 B => by kernel_rfl
theorem ch5 : ∀ (a2 : D) (o4 : Option (Bool × D)) (B : Bs), forL (gN 4) dBody (RL5.map rg4) (due84 (rg4 [0, 1, 3, 2, 6, 4, 12, 8]) a2 o4) B = .next (due84 (rg4 [0, 1, 3, 2, 6, 4, 12, 8]) a2 (some (false, LA RL5))) B := fun a2 o4 B => by kernel_rfl
theorem ch6 : ∀ (a2 : D) (o4 : Option (Bool × D)) (B : Bs), forL (gN 4) dBody (RL6.map rg4) (due84 (rg4 [0, 1, 3, 2, 6, 4, 12, 8]) a2 o4) B = .next (due84 (rg4 [0, 1, 3, 2, 6, 4, 12, 8]) a2 (some (false, LA RL6))) B := fun a2 o4 B => by kernel_rfl
theorem forL_app (t : Tg) (b : Ms) : ∀ (xs ys : List D) (σ σ1 : Sl) (B B1 : Bs), forL t b xs σ B = .next σ1 B1 → forL t b (xs ++ ys) σ B = forL t b ys σ1 B1
  | [], ys, σ, σ1, B, B1, h => by
    have h : Ss.next σ B = .next σ1 B1 := h
    cases h
    rfl
  | x :: xs, ys, σ, σ1, B, B1, h => by
    have h : (match t x σ with
      | some σ' => (b σ' B).seq (forL t b xs)
      | Option.none => Ss.bad) = .next σ1 B1 := h
    show (match t x σ with
      | some σ' => (b σ' B).seq (forL t b (xs ++ ys))
      | Option.none => Ss.bad) = _
    cases ht : t x σ with
    | none => rw [ht] at h; cases h
    | some σ' =>
      rw [ht] at h
      simp only at h ⊢
      cases hb : b σ' B with
      | next σ2 B2 =>
        rw [hb] at h
        simp only [z_seq_next] at h ⊢
        exact forL_app t b xs ys σ2 σ1 B2 B1 h
      | ret d B2 => rw [hb] at h; cases h
      | exc c z B2 => rw [hb] at h; cases h
      | bad => rw [hb] at h; cases h
abbrev mT2 : Et := (mAndT (mCmpT fEq (mBin fMod (mVar 0) (mC (.int 2))) (mC (.int 0))) (mCmpT fLe (mVar 0) (m1 fLen (mCall f__law_all [] (mCons (mVar 1) mNil)))))
abbrev mR2 : Ev := (mCall f__law_rings [] (mCons (mVar 0) (mCons (mVar 1) (mCons (mBin fPow (mC (.int 10)) (mC (.int 6))) mNil))))
theorem due_shape : m__law_due = mSeq (mSet 2 (mIte mT2 mR2 (mLst mNil))) (mSeq (mSet 3 (mC .none)) (mSeq (mFor (gN 4) (mItems (mVar 2)) dBody) (mRet (mVar 3)))) := rfl
theorem due_fn (a b : D) (B : Bs) : f__law_due [a, b] B = (m__law_due [some (false, a), some (false, b), none, none, none] B).fin := rfl
theorem due_parts {a b : D} {T : Et} {M : Ev} {K : Ms} {LR : List D} {r : D} {o : Option (Bool × D)} {B : Bs} (ht : T [some (false, a), some (false, b), none, none, none] B = .ok true B) (hm : M [some (false, a), some (false, b), none, none, none] B = .ok (.lst LR) B)
    (hl : forL (gN 4) K LR [some (false, a), some (false, b), some (false, .lst LR), some (false, .none), none] B = .next [some (false, a), some (false, b), some (false, .lst LR), some (false, r), o] B) :
    ((mSeq (mSet 2 (mIte T M (mLst mNil))) (mSeq (mSet 3 (mC .none)) (mSeq (mFor (gN 4) (mItems (mVar 2)) K) (mRet (mVar 3))))) [some (false, a), some (false, b), none, none, none] B).fin = .ok r B := by
  have k2 : mSet 2 (mIte T M (mLst mNil)) [some (false, a), some (false, b), none, none, none] B = .next [some (false, a), some (false, b), some (false, .lst LR), none, none] B := by
    unfold mSet mIte
    rw [ht]
    show (M _ B).st _ = _
    rw [hm]
    rfl
  have k3 : mSet 3 (mC .none) [some (false, a), some (false, b), some (false, .lst LR), none, none] B = .next [some (false, a), some (false, b), some (false, .lst LR), some (false, .none), none] B := rfl
  have it : mItems (mVar 2) [some (false, a), some (false, b), some (false, .lst LR), some (false, .none), none] B = .ok LR B := rfl
  have k4 : mFor (gN 4) (mItems (mVar 2)) K [some (false, a), some (false, b), some (false, .lst LR), some (false, .none), none] B = .next [some (false, a), some (false, b), some (false, .lst LR), some (false, r), o] B := by
    unfold mFor
    rw [it, z_st_ok]
    exact hl
  rw [z_mSeq, k2, z_seq_next, z_mSeq, k3, z_seq_next, z_mSeq, k4, z_seq_next]
  rfl
theorem rings_call (F : Fn) (B : Bs) : (mCall F [] (mCons (mVar 0) (mCons (mVar 1) (mCons (mBin fPow (mC (.int 10)) (mC (.int 6))) mNil)))) [some (false, .int 8), some (false, .int 4), none, none, none] B = F [.int 8, .int 4, .int 1000000] B := rfl
theorem due_t (B : Bs) : mT2 [some (false, .int 8), some (false, .int 4), none, none, none] B = .ok true B := by kernel_rfl
theorem rl_eq : RL84.map rg4 = RL0.map rg4 ++ (RL1.map rg4 ++ (RL2.map rg4 ++ (RL3.map rg4 ++ (RL4.map rg4 ++ (RL5.map rg4 ++ (RL6.map rg4)))))) := by
  unfold RL84
  simp only [List.map_append]
theorem lp84 (A2 : D) (B : Bs) : forL (gN 4) dBody (RL84.map rg4) (due84 .none A2 none) B = .next (due84 (rg4 [0, 1, 3, 2, 6, 4, 12, 8]) A2 (some (false, LA RL6))) B := by
  rw [rl_eq]
  rw [forL_app _ _ _ _ _ _ _ _ (ch0 A2 none B)]
  rw [forL_app _ _ _ _ _ _ _ _ (ch1 A2 (some (false, LA RL0)) B)]
  rw [forL_app _ _ _ _ _ _ _ _ (ch2 A2 (some (false, LA RL1)) B)]
  rw [forL_app _ _ _ _ _ _ _ _ (ch3 A2 (some (false, LA RL2)) B)]
  rw [forL_app _ _ _ _ _ _ _ _ (ch4 A2 (some (false, LA RL3)) B)]
  rw [forL_app _ _ _ _ _ _ _ _ (ch5 A2 (some (false, LA RL4)) B)]
  exact ch6 A2 (some (false, LA RL5)) B
theorem due_8_4 (B : Bs) : f__law_due [.int 8, .int 4] B = .ok (rg4 [0, 1, 3, 2, 6, 4, 12, 8]) B := by
  rw [due_fn, due_shape]
  exact due_parts (due_t B) ((rings_call f__law_rings B).trans (rings84 B)) (lp84 _ B)
theorem pr_8_4 : PairOk 8 4 (evV 8 4) (rg4 [0, 1, 3, 2, 6, 4, 12, 8]) := ⟨⟨fun p => by kernel_rfl, fun p q => by kernel_rfl⟩, due_8_4, fun a0 a1 a2 a3 a7 B => by kernel_rfl⟩
end Hk

set_option Elab.async false
set_option linter.all false
set_option maxRecDepth 100000
namespace Hk
open PySem PySem.Spec PyProof.Rows L2 Hf

theorem law_true (ns : List Int) (hl : ns.length ≤ 63) : ∃ B, f_law [.scr (ns.map D.int)] [] = .ok (.bool true) B :=
  law31 ⟨fun m w h1 h2 h3 h4 => all_pairs h1 h2 h3 h4, ⟨_, _, pr_4_4⟩, ⟨_, _, pr_6_4⟩, ⟨_, _, pr_7_4⟩, ⟨_, _, pr_8_4⟩⟩ ⟨gr_10, gr_12, gr_14, gr_16⟩ ns
end Hk

open PySem PySem.W PyProof.Rows
set_option maxRecDepth 100000 in
set_option maxHeartbeats 0 in
theorem PySem.Challenge.cw_halfread_k31_evenly_changing_codes_holds : PySem.Challenge.rw_halfread_k31_evenly_changing_codes.Holds := by
  w_on; o_law
  refine HandSHeadRun.head_any (r := PySem.W.OpenLaw.row PySem.Challenge.rw_halfread_k31_evenly_changing_codes) (q := Hk.qv) (H := Hk.hk) (ob := Hk.ob) (M := 12000) (loose := Hk.names) (d := HandSHeadRun.topDef (PySem.W.OpenLaw.row PySem.Challenge.rw_halfread_k31_evenly_changing_codes).prog 49) (kwd := []) Hq.obF_eq
    (by kernel_rfl) (fun s => by kernel_rfl) Hk.run (by kernel_rfl) (by kernel_rfl) (by kernel_rfl) (by rfl) (by first | assumption | decide +kernel) (by decide +kernel) ⟨rfl, rfl, rfl, rfl, rfl, by decide +kernel⟩ ?hw ?hc
  case hw => w_witness2
  case hc => exact Hk.walk (by kernel_rfl) (by kernel_rfl) Hk.law_true


