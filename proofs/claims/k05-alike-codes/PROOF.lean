import PyProof.Rows.All
import Wide.All
import OpenK.AllK
import Wide.FinOn
import KE.KStateDown
import KE.KNest
import KE.KNestM
import KE.KExcSuper
import KE.KSuper
import HandS.Exc
import HandS.Words
import HandS.HeadHook4
import HandS.Head2
import PySem.Challenge.RW_halfread_k05_alike_codes
import KE.KDictKeyed
import HandS.ForMost
import HandS.WordsExc
import HandS.Lambda
import HandS.HotCalls
import HandS.Star
import HandS.TupAny
import HandS.TupMul
import HandS.Deep
import HandS.Flow
import HandS.IsInst
import KE.GoesNew
import HandS.Property
import HandS.ClsMeth
import HandS.TupSets
import PyProof.WalksMore
import PyProof.TupleIter
import HandS.SortInts
import HandS.Text
import HandS.Strs
import HandS.Conv
import HandS.Style
import PyProof.TupleOfSeq
import PyProof.Rows.StrStep
import PyProof.SliceStr2
import HandS.DictComp
import KE.KOpsOwn
import OpenK.KMeth
import PyProof.ReprRoads
import HandS.EndBits
import HandS.MakeKwOnly
import HandS.MakeKw
import KE.SortData
import KE.KTupSum
import HandS.ExcIs
import HandS.ExcCtx
import HandS.ExcField
import KE.KExcIs
import HandS.EndOwn
import HandS.SetTxt0
import HandS.ExcInit
import HandS.Finally
set_option Elab.async false
set_option linter.all false
set_option maxRecDepth 100000
set_option maxHeartbeats 4000000
/-! ### the head by one run of the kernel: what the end leans on, by names -/
namespace Hq
open PySem PySem.Spec PyProof.Rows
abbrev Fr := PySem.W.Frag
/-- addresses by names -/
def fdO (K : Fr) (a : Addr) : FuncData := match K.lookup a with
  | some ⟨_, _, .func fd, _⟩ => fd
  | _ => default
def clO (K : Fr) (a : Addr) : Value := match K.lookup a with
  | some o => o.cls
  | _ => default
def diO (K : Fr) (a : Addr) : Option Addr := match K.lookup a with
  | some o => o.dict
  | _ => default
def slO (K : Fr) (a : Addr) : Array (Option Value) := match K.lookup a with
  | some o => o.slots
  | _ => default
def sqO (K : Fr) (a : Addr) : Array Value := match K.lookup a with
  | some ⟨_, _, .seq vs _, _⟩ => vs
  | _ => default
def epO (K : Fr) (a : Addr) : Nat := match K.lookup a with
  | some ⟨_, _, .seq _ e, _⟩ => e
  | _ => default
def isSq (K : Fr) (a : Addr) : Bool := match K.lookup a with
  | some ⟨.type c, none, .seq _ _, _⟩ => c == "tuple"
  | _ => false
def rfV : Value → Addr
  | .ref a => a
  | _ => 0
def tkV : Value → Tok
  | .int _ t => t
  | .str _ t => t
  | _ => 0
def ooV : Option (Option Value) → Value
  | some (some v) => v
  | _ => default
def gv (K : Fr) (x : Str) : Value := ooV (PySem.W.nsIn K mainGlobals x)
def ga (K : Fr) (x : Str) : Addr := rfV (gv K x)
def mv (K : Fr) (C : Addr) (m : Str) : Value := ooV (PySem.W.findIn K (.ref C) m)
def ma (K : Fr) (C : Addr) (m : Str) : Addr := rfV (mv K C m)
def rec1 (K : Fr) (p : Addr) (T : String) : List Value := match PySem.W.recIn K p T with
  | some l => l
  | none => []
def rfL : List Value → Addr
  | .ref a :: _ => a
  | _ => 0
def clsMB (K : Fr) (C p : Addr) (m : Str) : Bool := match PySem.W.findCls K (.ref C) (.type "type") m with
  | some (.get (.builtin b) (.ref p') .none (.ref C')) => (b == "classmethod.__get__") && (p' == p && C' == C)
  | _ => false
theorem clsMB_ok {K : Fr} {C p : Addr} {m : Str} (h : clsMB K C p m = true) : PySem.W.findCls K (.ref C) (.type "type") m = some (.get (.builtin "classmethod.__get__") (.ref p) .none (.ref C)) := by
  unfold clsMB at h
  split at h
  · rename_i b p' C' e
    simp only [Bool.and_eq_true, beq_iff_eq] at h
    obtain ⟨rfl, rfl, rfl⟩ := h
    exact e
  · cases h
/-- the namespace of a class -/
def nsO (K : Fr) (C : Addr) : Addr := match K.lookup C with
  | some ⟨_, _, .cls cd, _⟩ => cd.ns
  | _ => 0
theorem sq_ok {K : Fr} {a : Addr} (h : isSq K a = true) {vs : List Value} (hv : (sqO K a).toList = vs) : K.lookup a = some ⟨.type "tuple", none, .seq vs.toArray (epO K a), slO K a⟩ := by
  unfold isSq at h
  split at h
  · rename_i c us e' s e
    simp only [beq_iff_eq] at h
    subst h
    subst hv
    simp only [sqO, epO, slO, e]
  · cases h
/-! a def as it stands -/
structure DfE where
  at_ : Fr → Addr
  name : Str
  qual : Str
  st : Stmt
  cl : Bool := false
abbrev OvE := Option (Str × Str × Arguments × FuncBody × Scope × Addr × List Str × Addr)
def ovE (K : Fr) (a : Addr) : OvE := match K.lookup a with
  | some ⟨_, _, .func fd, _⟩ => some (fd.name, fd.qualname, fd.params, fd.body, fd.scope, fd.globals, fd.closure.map (·.1), fd.builtins)
  | _ => none
def DfE.val (d : DfE) : OvE := some (d.name, d.qual, L2.defArgs d.st, .stmts (L2.defBody d.st), L2.defScope d.st, mainGlobals, (match d.cl with | true => ["__class__"] | false => []), builtinsNs)
theorem fn_l {K : Fr} {a : Addr} {d : DfE} (e : ovE K a = d.val) (hc : d.cl = false) {dV : Value} (hd : (fdO K a).defaults = dV) :
    K.lookup a = some ⟨clO K a, diO K a, .func (PySem.W.fnOf d.name d.qual (L2.defArgs d.st) (L2.defBody d.st) (L2.defScope d.st) dV (fdO K a).kwdefaults (fdO K a).doc (fdO K a).pyModule (fdO K a).annotations (fdO K a).code (fdO K a).closureTuple), slO K a⟩ := by
  unfold ovE at e
  split at e
  · rename_i c di fd sl q
    unfold DfE.val at e
    rw [hc] at e
    simp only [Option.some.injEq, Prod.mk.injEq] at e
    obtain ⟨h1, h2, h3, h4, h5, h6, h7, h8⟩ := e
    have h7' : fd.closure = [] := by simpa using h7
    have hf : fdO K a = fd := by simp only [fdO, q]
    subst hd
    rw [hf]
    obtain ⟨n1, n2, n3, n4, n5, n6, n7, n8, n9, n10, n11, n12, n13, n14, n15⟩ := fd
    simp only at h1 h2 h3 h4 h5 h6 h7' h8
    subst h1 h2 h3 h4 h5 h6 h7' h8
    simp only [clO, diO, slO, q]
  · cases e
/-! the hook -/
def tabB (g : Addr → Option Obj) (P : Addr) : Bool := match g P with
  | some o => He.emptyTab o
  | none => false
abbrev Stg := List (Fr → List Addr)
/-- part by part -/
def frE (g : Addr → Option Obj) : Stg → List Addr → Fr
  | [], as => He.frT g as
  | f :: r, as => frE g r (as ++ f (He.frT g as))
theorem frE_in {h : Heap} : ∀ (n : Stg) (as : List Addr), (frE h.get? n as).In h
  | [], _ => He.frT_in
  | _ :: r, _ => frE_in r _
abbrev AlE := List OvE × Bool
def obsE (n : Stg) (fn : List DfE) (tp : Fr → List Addr) (ex : Fr → Bool) (g : Addr → Option Obj) : AlE := (fn.map (fun d => ovE (frE g n [mainGlobals, cStatics]) (d.at_ (frE g n [mainGlobals, cStatics]))), ex (frE g n [mainGlobals, cStatics]) && (tp (frE g n [mainGlobals, cStatics])).all (tabB g))
structure SaysE (fn : List DfE) (tp : Fr → List Addr) (ex : Fr → Bool) (h : Heap) (K : Fr) : Prop where
  df : fn.map (fun d => ovE K (d.at_ K)) = fn.map DfE.val
  ex : ex K = true
  tb : ∀ P ∈ tp K, h.get? P = some { cls := .none, data := .fields #[] }
theorem says_of {n : Stg} {fn : List DfE} {tp : Fr → List Addr} {ex : Fr → Bool} {h : Heap} (e : obsE n fn tp ex h.get? = (fn.map DfE.val, true)) : SaysE fn tp ex h (frE h.get? n [mainGlobals, cStatics]) := by
  obtain ⟨e1, e2⟩ := Prod.mk.inj (show (fn.map (fun d => ovE (frE h.get? n [mainGlobals, cStatics]) (d.at_ (frE h.get? n [mainGlobals, cStatics]))), ex (frE h.get? n [mainGlobals, cStatics]) && (tp (frE h.get? n [mainGlobals, cStatics])).all (tabB h.get?)) = (fn.map DfE.val, true) from e)
  obtain ⟨e3, e4⟩ := Bool.and_eq_true_iff.mp e2
  refine ⟨e1, e3, fun P hP => ?_⟩
  have z := List.all_eq_true.mp e4 P hP
  unfold tabB at z
  split at z
  · rename_i o q
    rw [q, He.emptyTab_eq z]
  · cases z
def hookF (n : Stg) (fn : List DfE) (tp : Fr → List Addr) (ex : Fr → Bool) : PySem.W.Hook where
  α := AlE
  obs := fun s => obsE n fn tp ex s.heap.get?
  val := fun _ => (fn.map DfE.val, true)
  says := fun _ h => ∃ K : Fr, K.In h ∧ SaysE fn tp ex h K
  of := fun _ _ e => ⟨_, frE_in _ _, says_of e⟩
  keeps := fun _ _ _ ⟨K, hK, c⟩ k => ⟨K, PySem.W.Frag.In.keeps hK k, ⟨c.df, c.ex, fun P hP => k _ _ (c.tb P hP)⟩⟩
def obF (n : Stg) (fn : List DfE) (tp : Fr → List Addr) (ex : Fr → Bool) (s : PySem.W.SharedT) : AlE := obsE n fn tp ex (HandSHeadRun.getT s)
theorem obF_eq {n : Stg} {fn : List DfE} {tp : Fr → List Addr} {ex : Fr → Bool} (s : PySem.W.SharedT) : obF n fn tp ex s = (hookF n fn tp ex).obs s.abs := by
  have e : HandSHeadRun.getT s = s.abs.heap.get? := funext (HandSHeadRun.getT_eq s)
  unfold obF
  rw [e]
  rfl
theorem SaysE.def_ {fn : List DfE} {tp : Fr → List Addr} {ex : Fr → Bool} {h : Heap} {K : Fr} (c : SaysE fn tp ex h K) (i : Nat) {d : DfE} (hi : fn[i]? = some d := by rfl) : ovE K (d.at_ K) = d.val := by
  have e2 : (fn.map fun d => ovE K (d.at_ K))[i]? = (fn.map DfE.val)[i]? := by rw [c.df]
  rw [List.getElem?_map, List.getElem?_map, hi] at e2
  exact Option.some.inj e2
end Hq

set_option Elab.async false
set_option linter.all false
set_option maxRecDepth 100000
set_option maxHeartbeats 0
namespace Hk
open PySem PySem.Spec PyProof.Rows L2
def top (i : Nat) : Stmt := PySem.Challenge.pw_halfread_k05_alike_codes.main.body.getD i (.Pass ⟨0, 0, 0, 0⟩)
abbrev t__law_pen : Stmt := top 28
abbrev t__law_cell_at : Stmt := top 27
abbrev t__law_draw : Stmt := top 29
abbrev t__law_twisted : Stmt := top 34
abbrev t__law_mixed : Stmt := top 32
abbrev t__law_mirror : Stmt := top 35
abbrev t__law_lone : Stmt := top 36
abbrev t__law_all : Stmt := top 33
abbrev t__law_words : Stmt := top 37
abbrev t__law_turned_words : Stmt := top 39
abbrev t__law_renamed_words : Stmt := top 41
abbrev t__law_flipped_words : Stmt := top 42
abbrev t__law_back_words : Stmt := top 40
abbrev t__law_rest : Stmt := top 44
abbrev t__law_near : Stmt := top 46
abbrev t__law_orders : Stmt := top 43
abbrev t__law_due : Stmt := top 45
abbrev t_word_in : Stmt := top 16
abbrev t_is_between : Stmt := top 13
abbrev t_are_bits : Stmt := top 14
abbrev t_are_words : Stmt := top 15
abbrev t_CodeX_initX : Stmt := inClass (top 17) 0
abbrev t_Code_read : Stmt := inClass (top 17) 12
abbrev t__law_made : Stmt := top 38
abbrev t__law_same : Stmt := top 30
abbrev t_need_code : Stmt := top 18
abbrev t_begun : Stmt := top 21
abbrev t_orders_of : Stmt := top 23
abbrev t_backwards : Stmt := top 22
abbrev t_placed : Stmt := top 20
abbrev t_exchanged : Stmt := top 24
abbrev t_CodeX_lenX : Stmt := inClass (top 17) 3
abbrev t_Code_bits : Stmt := inClass (top 17) 2
abbrev t_Code_words : Stmt := inClass (top 17) 1
abbrev t_alike : Stmt := top 25
abbrev t_law : Stmt := top 47
def A_C0 (K : Hq.Fr) : Addr := Hq.ga K "Code"
def A_f__law_pen_ (K : Hq.Fr) : Addr := Hq.ga K "_law_pen"
def A_f__law_cell_at_ (K : Hq.Fr) : Addr := Hq.ga K "_law_cell_at"
def A_f__law_draw_ (K : Hq.Fr) : Addr := Hq.ga K "_law_draw"
def A_f__law_twisted_ (K : Hq.Fr) : Addr := Hq.ga K "_law_twisted"
def A_f__law_mixed_ (K : Hq.Fr) : Addr := Hq.ga K "_law_mixed"
def A_f__law_mirror_ (K : Hq.Fr) : Addr := Hq.ga K "_law_mirror"
def A_f__law_lone_ (K : Hq.Fr) : Addr := Hq.ga K "_law_lone"
def A_f__law_all_ (K : Hq.Fr) : Addr := Hq.ga K "_law_all"
def A_f__law_words_ (K : Hq.Fr) : Addr := Hq.ga K "_law_words"
def A_f__law_turned_words_ (K : Hq.Fr) : Addr := Hq.ga K "_law_turned_words"
def A_f__law_renamed_words_ (K : Hq.Fr) : Addr := Hq.ga K "_law_renamed_words"
def A_f__law_flipped_words_ (K : Hq.Fr) : Addr := Hq.ga K "_law_flipped_words"
def A_f__law_back_words_ (K : Hq.Fr) : Addr := Hq.ga K "_law_back_words"
def A_f__law_rest_ (K : Hq.Fr) : Addr := Hq.ga K "_law_rest"
def A_f__law_near_ (K : Hq.Fr) : Addr := Hq.ga K "_law_near"
def A_f__law_orders_ (K : Hq.Fr) : Addr := Hq.ga K "_law_orders"
def A_f__law_due_ (K : Hq.Fr) : Addr := Hq.ga K "_law_due"
def A_f_word_in_ (K : Hq.Fr) : Addr := Hq.ga K "word_in"
def A_f_is_between_ (K : Hq.Fr) : Addr := Hq.ga K "is_between"
def A_f_are_bits_ (K : Hq.Fr) : Addr := Hq.ga K "are_bits"
def A_f_are_words_ (K : Hq.Fr) : Addr := Hq.ga K "are_words"
def A_f_CodeX_initX_ (K : Hq.Fr) : Addr := Hq.ma K (A_C0 K) "__init__"
def A_pCode_read (K : Hq.Fr) : Addr := Hq.ma K (A_C0 K) "read"
def A_f_Code_read_ (K : Hq.Fr) : Addr := Hq.rfL (Hq.rec1 K (A_pCode_read K) "classmethod")
def A_f__law_made_ (K : Hq.Fr) : Addr := Hq.ga K "_law_made"
def A_f__law_same_ (K : Hq.Fr) : Addr := Hq.ga K "_law_same"
def A_f_need_code_ (K : Hq.Fr) : Addr := Hq.ga K "need_code"
def A_f_begun_ (K : Hq.Fr) : Addr := Hq.ga K "begun"
def A_f_orders_of_ (K : Hq.Fr) : Addr := Hq.ga K "orders_of"
def A_f_backwards_ (K : Hq.Fr) : Addr := Hq.ga K "backwards"
def A_f_placed_ (K : Hq.Fr) : Addr := Hq.ga K "placed"
def A_f_exchanged_ (K : Hq.Fr) : Addr := Hq.ga K "exchanged"
def A_f_CodeX_lenX_ (K : Hq.Fr) : Addr := Hq.ma K (A_C0 K) "__len__"
def A_pCode_bits (K : Hq.Fr) : Addr := Hq.ma K (A_C0 K) "bits"
def A_f_Code_bits_ (K : Hq.Fr) : Addr := Hq.rfL (Hq.rec1 K (A_pCode_bits K) "property")
def A_pCode_words (K : Hq.Fr) : Addr := Hq.ma K (A_C0 K) "words"
def A_f_Code_words_ (K : Hq.Fr) : Addr := Hq.rfL (Hq.rec1 K (A_pCode_words K) "property")
def A_f_alike_ (K : Hq.Fr) : Addr := Hq.ga K "alike"
def A_f_law_ (K : Hq.Fr) : Addr := Hq.ga K "law"
def A_ad_SIGNS (K : Hq.Fr) : Addr := Hq.ga K "SIGNS"
/-! the defs -/
def D__law_pen : Hq.DfE := ⟨fun K => A_f__law_pen_ K, "_law_pen", "_law_pen", t__law_pen, false⟩
def D__law_cell_at : Hq.DfE := ⟨fun K => A_f__law_cell_at_ K, "_law_cell_at", "_law_cell_at", t__law_cell_at, false⟩
def D__law_draw : Hq.DfE := ⟨fun K => A_f__law_draw_ K, "_law_draw", "_law_draw", t__law_draw, false⟩
def D__law_twisted : Hq.DfE := ⟨fun K => A_f__law_twisted_ K, "_law_twisted", "_law_twisted", t__law_twisted, false⟩
def D__law_mixed : Hq.DfE := ⟨fun K => A_f__law_mixed_ K, "_law_mixed", "_law_mixed", t__law_mixed, false⟩
def D__law_mirror : Hq.DfE := ⟨fun K => A_f__law_mirror_ K, "_law_mirror", "_law_mirror", t__law_mirror, false⟩
def D__law_lone : Hq.DfE := ⟨fun K => A_f__law_lone_ K, "_law_lone", "_law_lone", t__law_lone, false⟩
def D__law_all : Hq.DfE := ⟨fun K => A_f__law_all_ K, "_law_all", "_law_all", t__law_all, false⟩
def D__law_words : Hq.DfE := ⟨fun K => A_f__law_words_ K, "_law_words", "_law_words", t__law_words, false⟩
def D__law_turned_words : Hq.DfE := ⟨fun K => A_f__law_turned_words_ K, "_law_turned_words", "_law_turned_words", t__law_turned_words, false⟩
def D__law_renamed_words : Hq.DfE := ⟨fun K => A_f__law_renamed_words_ K, "_law_renamed_words", "_law_renamed_words", t__law_renamed_words, false⟩
def D__law_flipped_words : Hq.DfE := ⟨fun K => A_f__law_flipped_words_ K, "_law_flipped_words", "_law_flipped_words", t__law_flipped_words, false⟩
def D__law_back_words : Hq.DfE := ⟨fun K => A_f__law_back_words_ K, "_law_back_words", "_law_back_words", t__law_back_words, false⟩
def D__law_rest : Hq.DfE := ⟨fun K => A_f__law_rest_ K, "_law_rest", "_law_rest", t__law_rest, false⟩
def D__law_near : Hq.DfE := ⟨fun K => A_f__law_near_ K, "_law_near", "_law_near", t__law_near, false⟩
def D__law_orders : Hq.DfE := ⟨fun K => A_f__law_orders_ K, "_law_orders", "_law_orders", t__law_orders, false⟩
def D__law_due : Hq.DfE := ⟨fun K => A_f__law_due_ K, "_law_due", "_law_due", t__law_due, false⟩
def D_word_in : Hq.DfE := ⟨fun K => A_f_word_in_ K, "word_in", "word_in", t_word_in, false⟩
def D_is_between : Hq.DfE := ⟨fun K => A_f_is_between_ K, "is_between", "is_between", t_is_between, false⟩
def D_are_bits : Hq.DfE := ⟨fun K => A_f_are_bits_ K, "are_bits", "are_bits", t_are_bits, false⟩
def D_are_words : Hq.DfE := ⟨fun K => A_f_are_words_ K, "are_words", "are_words", t_are_words, false⟩
def D_CodeX_initX : Hq.DfE := ⟨fun K => A_f_CodeX_initX_ K, "__init__", "Code.__init__", t_CodeX_initX, false⟩
def D_Code_read : Hq.DfE := ⟨fun K => A_f_Code_read_ K, "read", "Code.read", t_Code_read, false⟩
def D__law_made : Hq.DfE := ⟨fun K => A_f__law_made_ K, "_law_made", "_law_made", t__law_made, false⟩
def D__law_same : Hq.DfE := ⟨fun K => A_f__law_same_ K, "_law_same", "_law_same", t__law_same, false⟩
def D_need_code : Hq.DfE := ⟨fun K => A_f_need_code_ K, "need_code", "need_code", t_need_code, false⟩
def D_begun : Hq.DfE := ⟨fun K => A_f_begun_ K, "begun", "begun", t_begun, false⟩
def D_orders_of : Hq.DfE := ⟨fun K => A_f_orders_of_ K, "orders_of", "orders_of", t_orders_of, false⟩
def D_backwards : Hq.DfE := ⟨fun K => A_f_backwards_ K, "backwards", "backwards", t_backwards, false⟩
def D_placed : Hq.DfE := ⟨fun K => A_f_placed_ K, "placed", "placed", t_placed, false⟩
def D_exchanged : Hq.DfE := ⟨fun K => A_f_exchanged_ K, "exchanged", "exchanged", t_exchanged, false⟩
def D_CodeX_lenX : Hq.DfE := ⟨fun K => A_f_CodeX_lenX_ K, "__len__", "Code.__len__", t_CodeX_lenX, false⟩
def D_Code_bits : Hq.DfE := ⟨fun K => A_f_Code_bits_ K, "bits", "Code.bits", t_Code_bits, false⟩
def D_Code_words : Hq.DfE := ⟨fun K => A_f_Code_words_ K, "words", "Code.words", t_Code_words, false⟩
def D_alike : Hq.DfE := ⟨fun K => A_f_alike_ K, "alike", "alike", t_alike, false⟩
def D_law : Hq.DfE := ⟨fun K => A_f_law_ K, "law", "law", t_law, false⟩
def fnL0 : List Hq.DfE := [D__law_pen, D__law_cell_at, D__law_draw, D__law_twisted, D__law_mixed, D__law_mirror, D__law_lone, D__law_all, D__law_words, D__law_turned_words, D__law_renamed_words, D__law_flipped_words, D__law_back_words, D__law_rest, D__law_near, D__law_orders, D__law_due, D_word_in, D_is_between, D_are_bits, D_are_words, D_CodeX_initX, D_Code_read, D__law_made, D__law_same, D_need_code, D_begun, D_orders_of, D_backwards, D_placed]
def fnL1 : List Hq.DfE := [D_exchanged, D_CodeX_lenX, D_Code_bits, D_Code_words, D_alike, D_law]
def fnL : List Hq.DfE := fnL0 ++ fnL1
def tpL (K : Hq.Fr) : List Addr := []
/-! the facts -/
abbrev FG0 (K : Hq.Fr) : Prop := (PySem.W.nsIn K mainGlobals "Code" = some (some (.ref (A_C0 K)))) ∧ (PySem.W.plainGet K (A_C0 K) Str.empty = true) ∧ (PySem.W.hasDictIn K (A_C0 K) = true) ∧ (PySem.W.plainOver K (A_C0 K) = true) ∧ (PySem.W.findIn K (.ref (A_C0 K)) "__setattr__" = some (some (.builtin "object.__setattr__"))) ∧ (PySem.W.makesIn K (A_C0 K) = true) ∧ (PySem.W.keepIn K (.ref (A_C0 K)) = true) ∧ (PySem.W.findIn K (.ref (A_C0 K)) "row" = some none) ∧ (PySem.W.findIn K (.ref (A_C0 K)) "known" = some none) ∧ (PySem.W.findIn K (.ref (A_C0 K)) "__class__" = some (some (.builtin "object.__class__"))) ∧ (PySem.W.mroIn K (A_C0 K) (.type "object") = some true) ∧ (PySem.W.mroIn K (A_C0 K) (.type "int") = some false) ∧ (PySem.W.mroIn K (A_C0 K) (.type "bool") = some false) ∧ (PySem.W.mroIn K (A_C0 K) (.type "tuple") = some false) ∧ (PySem.W.mroIn K (A_C0 K) (.type "str") = some false) ∧ (PySem.W.mroIn K (A_C0 K) (.type "list") = some false) ∧ (PySem.W.isClsIn K (A_C0 K) = true) ∧ (PySem.W.typeIn K (.ref (A_C0 K)) = some (.type "type")) ∧ (PySem.W.specialIn K (.builtin "object.__class__") "__get__" = some (some (.builtin "getset_descriptor.__get__"))) ∧ (PySem.W.takesIn K (.builtin "object.__class__") = some true) ∧ (PySem.W.nsIn K mainGlobals "len" = some none) ∧ (PySem.W.nsIn K mainGlobals "range" = some none) ∧ (PySem.W.nsIn K mainGlobals "isinstance" = some none) ∧ (PySem.W.nsIn K mainGlobals "tuple" = some none)
abbrev FG1 (K : Hq.Fr) : Prop := (PySem.W.nsIn K mainGlobals "list" = some none) ∧ (PySem.W.nsIn K mainGlobals "all" = some none) ∧ (PySem.W.nsIn K mainGlobals "any" = some none) ∧ (PySem.W.nsIn K mainGlobals "max" = some none) ∧ (PySem.W.nsIn K mainGlobals "min" = some none) ∧ (PySem.W.nsIn K mainGlobals "set" = some none) ∧ (PySem.W.nsIn K mainGlobals "sorted" = some none) ∧ (PySem.W.nsIn K mainGlobals "enumerate" = some none) ∧ (PySem.W.nsIn K mainGlobals "zip" = some none) ∧ (PySem.W.nsIn K mainGlobals "repr" = some none) ∧ (PySem.W.nsIn K mainGlobals "str" = some none) ∧ (PySem.W.nsIn K mainGlobals "int" = some none) ∧ (PySem.W.nsIn K mainGlobals "sum" = some none) ∧ (PySem.W.nsIn K mainGlobals "dict" = some none) ∧ (PySem.W.nsIn K mainGlobals "bool" = some none) ∧ (PySem.W.nsIn K mainGlobals "SIGNS" = some (some (.ref (A_ad_SIGNS K)))) ∧ (PySem.W.nsIn K mainGlobals "NO_WORD" = some (some (.int (-1) (Hq.tkV (Hq.gv K "NO_WORD"))))) ∧ (PySem.W.nsIn K mainGlobals "FEWEST_VALUES" = some (some (.int (2) (Hq.tkV (Hq.gv K "FEWEST_VALUES"))))) ∧ (PySem.W.nsIn K mainGlobals "MOST_VALUES" = some (some (.int (16) (Hq.tkV (Hq.gv K "MOST_VALUES"))))) ∧ (PySem.W.nsIn K mainGlobals "MOST_BITS" = some (some (.int (5) (Hq.tkV (Hq.gv K "MOST_BITS"))))) ∧ (PySem.W.nsIn K mainGlobals "_law_pen" = some (some (.ref (A_f__law_pen_ K)))) ∧ (PySem.W.codeIn K ((Hq.fdO K (A_f__law_pen_ K)).code) "_law_pen" = true) ∧ (PySem.W.keepIn K (.ref (A_f__law_pen_ K)) = true) ∧ (PySem.W.nsIn K mainGlobals "_law_cell_at" = some (some (.ref (A_f__law_cell_at_ K))))
abbrev FG2 (K : Hq.Fr) : Prop := (PySem.W.codeIn K ((Hq.fdO K (A_f__law_cell_at_ K)).code) "_law_cell_at" = true) ∧ (PySem.W.keepIn K (.ref (A_f__law_cell_at_ K)) = true) ∧ (PySem.W.nsIn K mainGlobals "_law_draw" = some (some (.ref (A_f__law_draw_ K)))) ∧ (PySem.W.codeIn K ((Hq.fdO K (A_f__law_draw_ K)).code) "_law_draw" = true) ∧ (PySem.W.keepIn K (.ref (A_f__law_draw_ K)) = true) ∧ (PySem.W.nsIn K mainGlobals "_law_twisted" = some (some (.ref (A_f__law_twisted_ K)))) ∧ (PySem.W.codeIn K ((Hq.fdO K (A_f__law_twisted_ K)).code) "_law_twisted" = true) ∧ (PySem.W.keepIn K (.ref (A_f__law_twisted_ K)) = true) ∧ (PySem.W.nsIn K mainGlobals "_law_mixed" = some (some (.ref (A_f__law_mixed_ K)))) ∧ (PySem.W.codeIn K ((Hq.fdO K (A_f__law_mixed_ K)).code) "_law_mixed" = true) ∧ (PySem.W.keepIn K (.ref (A_f__law_mixed_ K)) = true) ∧ (PySem.W.nsIn K mainGlobals "_law_mirror" = some (some (.ref (A_f__law_mirror_ K)))) ∧ (PySem.W.codeIn K ((Hq.fdO K (A_f__law_mirror_ K)).code) "_law_mirror" = true) ∧ (PySem.W.keepIn K (.ref (A_f__law_mirror_ K)) = true) ∧ (PySem.W.nsIn K mainGlobals "_law_lone" = some (some (.ref (A_f__law_lone_ K)))) ∧ (PySem.W.codeIn K ((Hq.fdO K (A_f__law_lone_ K)).code) "_law_lone" = true) ∧ (PySem.W.keepIn K (.ref (A_f__law_lone_ K)) = true) ∧ (PySem.W.nsIn K mainGlobals "_law_all" = some (some (.ref (A_f__law_all_ K)))) ∧ (PySem.W.codeIn K ((Hq.fdO K (A_f__law_all_ K)).code) "_law_all" = true) ∧ (PySem.W.keepIn K (.ref (A_f__law_all_ K)) = true) ∧ (PySem.W.nsIn K mainGlobals "_law_words" = some (some (.ref (A_f__law_words_ K)))) ∧ (PySem.W.codeIn K ((Hq.fdO K (A_f__law_words_ K)).code) "_law_words" = true) ∧ (PySem.W.keepIn K (.ref (A_f__law_words_ K)) = true) ∧ (PySem.W.nsIn K mainGlobals "_law_turned_words" = some (some (.ref (A_f__law_turned_words_ K))))
abbrev FG3 (K : Hq.Fr) : Prop := (PySem.W.codeIn K ((Hq.fdO K (A_f__law_turned_words_ K)).code) "_law_turned_words" = true) ∧ (PySem.W.keepIn K (.ref (A_f__law_turned_words_ K)) = true) ∧ (PySem.W.nsIn K mainGlobals "_law_renamed_words" = some (some (.ref (A_f__law_renamed_words_ K)))) ∧ (PySem.W.codeIn K ((Hq.fdO K (A_f__law_renamed_words_ K)).code) "_law_renamed_words" = true) ∧ (PySem.W.keepIn K (.ref (A_f__law_renamed_words_ K)) = true) ∧ (PySem.W.nsIn K mainGlobals "_law_flipped_words" = some (some (.ref (A_f__law_flipped_words_ K)))) ∧ (PySem.W.codeIn K ((Hq.fdO K (A_f__law_flipped_words_ K)).code) "_law_flipped_words" = true) ∧ (PySem.W.keepIn K (.ref (A_f__law_flipped_words_ K)) = true) ∧ (PySem.W.nsIn K mainGlobals "_law_back_words" = some (some (.ref (A_f__law_back_words_ K)))) ∧ (PySem.W.codeIn K ((Hq.fdO K (A_f__law_back_words_ K)).code) "_law_back_words" = true) ∧ (PySem.W.keepIn K (.ref (A_f__law_back_words_ K)) = true) ∧ (PySem.W.nsIn K mainGlobals "_law_rest" = some (some (.ref (A_f__law_rest_ K)))) ∧ (PySem.W.codeIn K ((Hq.fdO K (A_f__law_rest_ K)).code) "_law_rest" = true) ∧ (PySem.W.keepIn K (.ref (A_f__law_rest_ K)) = true) ∧ (PySem.W.nsIn K mainGlobals "_law_near" = some (some (.ref (A_f__law_near_ K)))) ∧ (PySem.W.codeIn K ((Hq.fdO K (A_f__law_near_ K)).code) "_law_near" = true) ∧ (PySem.W.keepIn K (.ref (A_f__law_near_ K)) = true) ∧ (PySem.W.nsIn K mainGlobals "_law_orders" = some (some (.ref (A_f__law_orders_ K)))) ∧ (PySem.W.codeIn K ((Hq.fdO K (A_f__law_orders_ K)).code) "_law_orders" = true) ∧ (PySem.W.keepIn K (.ref (A_f__law_orders_ K)) = true) ∧ (PySem.W.nsIn K mainGlobals "_law_due" = some (some (.ref (A_f__law_due_ K)))) ∧ (PySem.W.codeIn K ((Hq.fdO K (A_f__law_due_ K)).code) "_law_due" = true) ∧ (PySem.W.keepIn K (.ref (A_f__law_due_ K)) = true) ∧ (PySem.W.nsIn K mainGlobals "word_in" = some (some (.ref (A_f_word_in_ K))))
abbrev FG4 (K : Hq.Fr) : Prop := (PySem.W.codeIn K ((Hq.fdO K (A_f_word_in_ K)).code) "word_in" = true) ∧ (PySem.W.keepIn K (.ref (A_f_word_in_ K)) = true) ∧ (PySem.W.nsIn K mainGlobals "is_between" = some (some (.ref (A_f_is_between_ K)))) ∧ (PySem.W.codeIn K ((Hq.fdO K (A_f_is_between_ K)).code) "is_between" = true) ∧ (PySem.W.keepIn K (.ref (A_f_is_between_ K)) = true) ∧ (PySem.W.nsIn K mainGlobals "are_bits" = some (some (.ref (A_f_are_bits_ K)))) ∧ (PySem.W.codeIn K ((Hq.fdO K (A_f_are_bits_ K)).code) "are_bits" = true) ∧ (PySem.W.keepIn K (.ref (A_f_are_bits_ K)) = true) ∧ (PySem.W.nsIn K mainGlobals "are_words" = some (some (.ref (A_f_are_words_ K)))) ∧ (PySem.W.codeIn K ((Hq.fdO K (A_f_are_words_ K)).code) "are_words" = true) ∧ (PySem.W.keepIn K (.ref (A_f_are_words_ K)) = true) ∧ (PySem.W.findIn K (.ref (A_C0 K)) "__init__" = some (some (.ref (A_f_CodeX_initX_ K)))) ∧ (PySem.W.isFn K (.ref (A_f_CodeX_initX_ K)) = true) ∧ (PySem.W.codeIn K ((Hq.fdO K (A_f_CodeX_initX_ K)).code) "Code.__init__" = true) ∧ (PySem.W.keepIn K (.ref (A_f_CodeX_initX_ K)) = true) ∧ (PySem.W.readsIn K (A_C0 K) (.type "type") = true) ∧ (PySem.W.specialIn K (.ref (A_C0 K)) "__getattribute__" = some (some (.builtin "type.__getattribute__"))) ∧ (PySem.W.recIn K (A_pCode_read K) "classmethod" = some (.ref (A_f_Code_read_ K) :: ((Hq.rec1 K (A_pCode_read K) "classmethod").tail))) ∧ (PySem.W.fnIn K (A_f_Code_read_ K) = true) ∧ (PySem.W.codeIn K ((Hq.fdO K (A_f_Code_read_ K)).code) "Code.read" = true) ∧ (PySem.W.keepIn K (.ref (A_f_Code_read_ K)) = true) ∧ (PySem.W.nsIn K mainGlobals "_law_made" = some (some (.ref (A_f__law_made_ K)))) ∧ (PySem.W.codeIn K ((Hq.fdO K (A_f__law_made_ K)).code) "_law_made" = true) ∧ (PySem.W.keepIn K (.ref (A_f__law_made_ K)) = true)
abbrev FG5 (K : Hq.Fr) : Prop := (PySem.W.nsIn K mainGlobals "_law_same" = some (some (.ref (A_f__law_same_ K)))) ∧ (PySem.W.codeIn K ((Hq.fdO K (A_f__law_same_ K)).code) "_law_same" = true) ∧ (PySem.W.keepIn K (.ref (A_f__law_same_ K)) = true) ∧ (PySem.W.nsIn K mainGlobals "need_code" = some (some (.ref (A_f_need_code_ K)))) ∧ (PySem.W.codeIn K ((Hq.fdO K (A_f_need_code_ K)).code) "need_code" = true) ∧ (PySem.W.keepIn K (.ref (A_f_need_code_ K)) = true) ∧ (PySem.W.nsIn K mainGlobals "begun" = some (some (.ref (A_f_begun_ K)))) ∧ (PySem.W.codeIn K ((Hq.fdO K (A_f_begun_ K)).code) "begun" = true) ∧ (PySem.W.keepIn K (.ref (A_f_begun_ K)) = true) ∧ (PySem.W.nsIn K mainGlobals "orders_of" = some (some (.ref (A_f_orders_of_ K)))) ∧ (PySem.W.codeIn K ((Hq.fdO K (A_f_orders_of_ K)).code) "orders_of" = true) ∧ (PySem.W.keepIn K (.ref (A_f_orders_of_ K)) = true) ∧ (PySem.W.nsIn K mainGlobals "backwards" = some (some (.ref (A_f_backwards_ K)))) ∧ (PySem.W.codeIn K ((Hq.fdO K (A_f_backwards_ K)).code) "backwards" = true) ∧ (PySem.W.keepIn K (.ref (A_f_backwards_ K)) = true) ∧ (PySem.W.nsIn K mainGlobals "placed" = some (some (.ref (A_f_placed_ K)))) ∧ (PySem.W.codeIn K ((Hq.fdO K (A_f_placed_ K)).code) "placed" = true) ∧ (PySem.W.keepIn K (.ref (A_f_placed_ K)) = true) ∧ (PySem.W.nsIn K mainGlobals "exchanged" = some (some (.ref (A_f_exchanged_ K)))) ∧ (PySem.W.codeIn K ((Hq.fdO K (A_f_exchanged_ K)).code) "exchanged" = true) ∧ (PySem.W.keepIn K (.ref (A_f_exchanged_ K)) = true) ∧ (PySem.W.findIn K (.ref (A_C0 K)) "__len__" = some (some (.ref (A_f_CodeX_lenX_ K)))) ∧ (PySem.W.isFn K (.ref (A_f_CodeX_lenX_ K)) = true) ∧ (PySem.W.codeIn K ((Hq.fdO K (A_f_CodeX_lenX_ K)).code) "Code.__len__" = true)
abbrev FG6 (K : Hq.Fr) : Prop := (PySem.W.keepIn K (.ref (A_f_CodeX_lenX_ K)) = true) ∧ (PySem.W.findIn K (.ref (A_C0 K)) "bits" = some (some (.ref (A_pCode_bits K)))) ∧ (PySem.W.specialIn K (.ref (A_pCode_bits K)) "__get__" = some (some (.builtin "property.__get__"))) ∧ (PySem.W.takesIn K (.ref (A_pCode_bits K)) = some true) ∧ (PySem.W.recIn K (A_pCode_bits K) "property" = some (.ref (A_f_Code_bits_ K) :: ((Hq.rec1 K (A_pCode_bits K) "property").tail))) ∧ (PySem.W.codeIn K ((Hq.fdO K (A_f_Code_bits_ K)).code) "Code.bits" = true) ∧ (PySem.W.keepIn K (.ref (A_f_Code_bits_ K)) = true) ∧ (PySem.W.findIn K (.ref (A_C0 K)) "words" = some (some (.ref (A_pCode_words K)))) ∧ (PySem.W.specialIn K (.ref (A_pCode_words K)) "__get__" = some (some (.builtin "property.__get__"))) ∧ (PySem.W.takesIn K (.ref (A_pCode_words K)) = some true) ∧ (PySem.W.recIn K (A_pCode_words K) "property" = some (.ref (A_f_Code_words_ K) :: ((Hq.rec1 K (A_pCode_words K) "property").tail))) ∧ (PySem.W.codeIn K ((Hq.fdO K (A_f_Code_words_ K)).code) "Code.words" = true) ∧ (PySem.W.keepIn K (.ref (A_f_Code_words_ K)) = true) ∧ (PySem.W.nsIn K mainGlobals "alike" = some (some (.ref (A_f_alike_ K)))) ∧ (PySem.W.codeIn K ((Hq.fdO K (A_f_alike_ K)).code) "alike" = true) ∧ (PySem.W.keepIn K (.ref (A_f_alike_ K)) = true) ∧ (PySem.W.nsIn K mainGlobals "law" = some (some (.ref (A_f_law_ K)))) ∧ (PySem.W.codeIn K ((Hq.fdO K (A_f_law_ K)).code) "law" = true) ∧ (PySem.W.keepIn K (.ref (A_f_law_ K)) = true) ∧ ((Hq.fdO K (A_f__law_pen_ K)).defaults = .none) ∧ ((Hq.fdO K (A_f__law_cell_at_ K)).defaults = .none) ∧ ((Hq.fdO K (A_f__law_draw_ K)).defaults = .none) ∧ ((Hq.fdO K (A_f__law_twisted_ K)).defaults = .none) ∧ ((Hq.fdO K (A_f__law_mixed_ K)).defaults = .none)
abbrev FG7 (K : Hq.Fr) : Prop := ((Hq.fdO K (A_f__law_mirror_ K)).defaults = .none) ∧ ((Hq.fdO K (A_f__law_lone_ K)).defaults = .none) ∧ ((Hq.fdO K (A_f__law_all_ K)).defaults = .none) ∧ ((Hq.fdO K (A_f__law_words_ K)).defaults = .none) ∧ ((Hq.fdO K (A_f__law_turned_words_ K)).defaults = .none) ∧ ((Hq.fdO K (A_f__law_renamed_words_ K)).defaults = .none) ∧ ((Hq.fdO K (A_f__law_flipped_words_ K)).defaults = .none) ∧ ((Hq.fdO K (A_f__law_back_words_ K)).defaults = .none) ∧ ((Hq.fdO K (A_f__law_rest_ K)).defaults = .none) ∧ ((Hq.fdO K (A_f__law_near_ K)).defaults = .none) ∧ ((Hq.fdO K (A_f__law_orders_ K)).defaults = .none) ∧ ((Hq.fdO K (A_f__law_due_ K)).defaults = .none) ∧ ((Hq.fdO K (A_f_word_in_ K)).defaults = .none) ∧ ((Hq.fdO K (A_f_is_between_ K)).defaults = .none) ∧ ((Hq.fdO K (A_f_are_bits_ K)).defaults = .none) ∧ ((Hq.fdO K (A_f_are_words_ K)).defaults = .none) ∧ ((Hq.fdO K (A_f_CodeX_initX_ K)).defaults = .none) ∧ ((Hq.fdO K (A_f_Code_read_ K)).defaults = .none) ∧ ((Hq.fdO K (A_f__law_made_ K)).defaults = .none) ∧ ((Hq.fdO K (A_f__law_same_ K)).defaults = .none) ∧ ((Hq.fdO K (A_f_need_code_ K)).defaults = .none) ∧ ((Hq.fdO K (A_f_begun_ K)).defaults = .none) ∧ ((Hq.fdO K (A_f_orders_of_ K)).defaults = .none) ∧ ((Hq.fdO K (A_f_backwards_ K)).defaults = .none)
abbrev FG8 (K : Hq.Fr) : Prop := ((Hq.fdO K (A_f_placed_ K)).defaults = .none) ∧ ((Hq.fdO K (A_f_exchanged_ K)).defaults = .none) ∧ ((Hq.fdO K (A_f_CodeX_lenX_ K)).defaults = .none) ∧ ((Hq.fdO K (A_f_Code_bits_ K)).defaults = .none) ∧ ((Hq.fdO K (A_f_Code_words_ K)).defaults = .none) ∧ ((Hq.fdO K (A_f_alike_ K)).defaults = .none) ∧ ((Hq.fdO K (A_f_law_ K)).defaults = .none) ∧ (Hq.isSq K (A_ad_SIGNS K) = true) ∧ ((Hq.sqO K (A_ad_SIGNS K)).toList = [.str (Str.ofString "0") (Hq.tkV ((Hq.sqO K (A_ad_SIGNS K)).toList.getD 0 .none)), .str (Str.ofString "1") (Hq.tkV ((Hq.sqO K (A_ad_SIGNS K)).toList.getD 1 .none))]) ∧ (Hq.clsMB K (A_C0 K) (A_pCode_read K) "read" = true)
def exL (K : Hq.Fr) : Bool := decide (FG0 K) && decide (FG1 K) && decide (FG2 K) && decide (FG3 K) && decide (FG4 K) && decide (FG5 K) && decide (FG6 K) && decide (FG7 K) && decide (FG8 K)
def stg0 (K : Hq.Fr) : List Addr := [A_C0 K, A_f__law_pen_ K, A_f__law_cell_at_ K, A_f__law_draw_ K, A_f__law_twisted_ K, A_f__law_mixed_ K, A_f__law_mirror_ K, A_f__law_lone_ K, A_f__law_all_ K, A_f__law_words_ K, A_f__law_turned_words_ K, A_f__law_renamed_words_ K, A_f__law_flipped_words_ K, A_f__law_back_words_ K, A_f__law_rest_ K, A_f__law_near_ K, A_f__law_orders_ K, A_f__law_due_ K, A_f_word_in_ K, A_f_is_between_ K, A_f_are_bits_ K, A_f_are_words_ K, A_f__law_made_ K, A_f__law_same_ K, A_f_need_code_ K, A_f_begun_ K, A_f_orders_of_ K, A_f_backwards_ K, A_f_placed_ K, A_f_exchanged_ K] ++ [A_f_alike_ K, A_f_law_ K, A_ad_SIGNS K]
def stg1 (K : Hq.Fr) : List Addr := [Hq.nsO K (A_C0 K)]
def stg2 (K : Hq.Fr) : List Addr := [A_f_CodeX_initX_ K, A_f_CodeX_lenX_ K, A_pCode_read K, A_pCode_bits K, A_pCode_words K]
def stg3 (K : Hq.Fr) : List Addr := [A_f_Code_read_ K, A_f_Code_bits_ K, A_f_Code_words_ K]
def stg4 (K : Hq.Fr) : List Addr := [Hq.rfV (Hq.fdO K (A_f__law_pen_ K)).code, Hq.rfV (Hq.fdO K (A_f__law_cell_at_ K)).code, Hq.rfV (Hq.fdO K (A_f__law_draw_ K)).code, Hq.rfV (Hq.fdO K (A_f__law_twisted_ K)).code, Hq.rfV (Hq.fdO K (A_f__law_mixed_ K)).code, Hq.rfV (Hq.fdO K (A_f__law_mirror_ K)).code, Hq.rfV (Hq.fdO K (A_f__law_lone_ K)).code, Hq.rfV (Hq.fdO K (A_f__law_all_ K)).code, Hq.rfV (Hq.fdO K (A_f__law_words_ K)).code, Hq.rfV (Hq.fdO K (A_f__law_turned_words_ K)).code, Hq.rfV (Hq.fdO K (A_f__law_renamed_words_ K)).code, Hq.rfV (Hq.fdO K (A_f__law_flipped_words_ K)).code, Hq.rfV (Hq.fdO K (A_f__law_back_words_ K)).code, Hq.rfV (Hq.fdO K (A_f__law_rest_ K)).code, Hq.rfV (Hq.fdO K (A_f__law_near_ K)).code, Hq.rfV (Hq.fdO K (A_f__law_orders_ K)).code, Hq.rfV (Hq.fdO K (A_f__law_due_ K)).code, Hq.rfV (Hq.fdO K (A_f_word_in_ K)).code, Hq.rfV (Hq.fdO K (A_f_is_between_ K)).code, Hq.rfV (Hq.fdO K (A_f_are_bits_ K)).code, Hq.rfV (Hq.fdO K (A_f_are_words_ K)).code, Hq.rfV (Hq.fdO K (A_f_CodeX_initX_ K)).code, Hq.rfV (Hq.fdO K (A_f_Code_read_ K)).code, Hq.rfV (Hq.fdO K (A_f__law_made_ K)).code, Hq.rfV (Hq.fdO K (A_f__law_same_ K)).code, Hq.rfV (Hq.fdO K (A_f_need_code_ K)).code, Hq.rfV (Hq.fdO K (A_f_begun_ K)).code, Hq.rfV (Hq.fdO K (A_f_orders_of_ K)).code, Hq.rfV (Hq.fdO K (A_f_backwards_ K)).code, Hq.rfV (Hq.fdO K (A_f_placed_ K)).code] ++ [Hq.rfV (Hq.fdO K (A_f_exchanged_ K)).code, Hq.rfV (Hq.fdO K (A_f_CodeX_lenX_ K)).code, Hq.rfV (Hq.fdO K (A_f_Code_bits_ K)).code, Hq.rfV (Hq.fdO K (A_f_Code_words_ K)).code, Hq.rfV (Hq.fdO K (A_f_alike_ K)).code, Hq.rfV (Hq.fdO K (A_f_law_ K)).code]
def stg : Hq.Stg := [stg0, stg1, stg2, stg3, stg4]
def nm0 : List PySem.Str := ["__name__", "ReadError", "NoWords", "NoCode", "NoValue", "NoWord", "NoText", "MOST_BITS", "FEWEST_VALUES", "MOST_VALUES", "NO_WORD", "SIGNS", "is_between", "are_bits", "are_words", "word_in", "Code", "need_code", "need_value", "placed", "begun", "backwards", "orders_of", "exchanged", "alike", "_law_cell_at", "_law_pen", "_law_draw", "_law_same", "_law_pick"]
def nm1 : List PySem.Str := ["_law_mixed", "_law_all", "_law_twisted", "_law_mirror", "_law_lone", "_law_words", "_law_made", "_law_turned_words", "_law_back_words", "_law_renamed_words", "_law_flipped_words", "_law_orders", "_law_rest", "_law_due", "_law_near"]
def names : List PySem.Str := nm0 ++ nm1
abbrev Rw : PySem.W.OpenRow := PySem.W.OpenLaw.row PySem.Challenge.rw_halfread_k05_alike_codes
abbrev qv : Program := PySem.W.view Rw.prog [47]
abbrev hk : PySem.W.Hook := Hq.hookF stg fnL tpL exL
abbrev ob : PySem.W.SharedT → hk.α := Hq.obF stg fnL tpL exL
/-- the run is asked twice: the kernel's memory holds one of the two alone -/
theorem map3 {α β γ δ : Type} {X : Option α} {a : α → β} {b : α → γ} {c : α → δ} {A : β} {B : γ} {C : δ} (h1 : X.map (fun s => (a s, b s)) = some (A, B)) (h2 : X.map c = some C) : X.map (fun s => (a s, b s, c s)) = some (A, B, C) := by
  cases X with
  | none => cases h1
  | some x =>
    obtain ⟨p, q⟩ := Prod.mk.inj (Option.some.inj h1)
    have r : c x = C := Option.some.inj h2
    show some (a x, b x, c x) = some (A, B, C)
    rw [p, q, r]
open HandSHeadRun PySem.W PySem.Calls in
theorem run_ab (w : World) (os : OsState) : (endF (stepQ (denQ tabQ) Rw.prog w) 12000 Rw.prog w os).map (fun s => (looksF Rw.prog (boot_heap w.params) s.abs, seenQ qv names (importedModules Rw.prog.main.body) (fun s => xlAt qv [] s && recOk Rw.toRowW.records s) s.abs)) = some (true, openGood qv names) := by kernel_rfl
open HandSHeadRun PySem.W PySem.Calls in
theorem run_c (w : World) (os : OsState) : (endF (stepQ (denQ tabQ) Rw.prog w) 12000 Rw.prog w os).map ob = some (hk.val w) := by kernel_rfl
theorem run (w : World) : HandSHeadRun.RunEq Rw qv hk ob 12000 names w := fun os => map3 (run_ab w os) (run_c w os)
end Hk

set_option maxHeartbeats 4000000
set_option Elab.async false
set_option linter.all false
set_option maxRecDepth 100000
set_option maxHeartbeats 4000000
namespace Hf
open PySem L2

/-- pure data -/
inductive D where
  | none | bool (b : Bool) | int (i : Int) | str (s : Str)
  | tup (ds : List D) | lst (ds : List D) | scr (ds : List D) | prs (ds : List D) | dct (ks vs : List D) | inst (c : Nat) (ds : List D) | box (n : Nat) | cls (c : Nat)
  /-- a bare address: an exception that is handled -/
  | ptr (a : Addr)
  /-- a dict of one entry, numbers -/
  | kd (k x : Int)
  /-- a lambda of the text that captures nothing -/
  | fnT (k : Nat)
  /-- an exception that is handled, at a; its dict, at dd, says x at f -/
  | exo (a dd : Addr) (f : Str) (x : D)
  deriving Inhabited

abbrev Sl := List (Option (Bool × D))
abbrev Bs := List D

inductive Rs (α : Type) where
  | ok (a : α) (B : Bs) | exc (c : Nat) (x : Option D) (B : Bs) | bad
def Rs.bind {α β : Type} (m : Rs α) (f : α → Bs → Rs β) : Rs β := match m with
  | .ok a B => f a B
  | .exc c x B => .exc c x B
  | .bad => .bad
abbrev Ev := Sl → Bs → Rs D
abbrev Evs := Sl → Bs → Rs (List D)
abbrev Fn := List D → Bs → Rs D

/-- the names of the fields of the classes -/
def fldN : Nat → List Str
  | 0 => ["row", "known"]
  | 1 => ["own", "seen"]
  | 2 => ["own_bridge", "past"]
  | 3 => ["own_bridge", "past", "limit"]
  | 4 => ["own_bridge", "past"]
  | 5 => ["own_bridge", "past", "limit"]
  | _ => []
/-- the name of the one field of an exception -/
def excF : Nat → Str
  | 27 => "limit"
  | _ => "kind"

/-- a lambda of the text -/
structure LamI where
  q : Str
  prm : Arguments
  bd : Expr
  sc : Scope
/-- what is known of a lambda that captured something, while it is in another def's hands -/
structure LamD where
  live : Bool := false
  fa : Addr := 0
  ca : Addr := 0
  cell : Addr := 0
  y : Str := ⟨#[]⟩
  pm : Value := .none
  ct : Value := .none
  d : D := .none
  v : V := .non
/-- one object, as it is -/
def ObE (a : Addr) (o : Obj) : HO := .ext fun h => h.get? a = some o
structure Gs where
  prog : Program
  w : World
  base : Heap
  K : PySem.W.Frag
  mg : Str → Option Value
  cl : Nat → Addr
  has : Nat → Bool
  /-- the tables of the defs that hold lambdas -/
  tabs : List (Addr × Str) := []
  /-- the lambdas that are values -/
  lam : Nat → LamI
  lmd : Nat → LamD := fun _ => {}
structure Wd where
  P : Hp
  io : Nat → Option Addr
  /-- in an __init__: where the instance stands that is being made -/
  me : Option Addr := Option.none

/-! data as a key -/
mutual
def nkD : D → Option NestedKey
  | .none => some .none
  | .bool b => some (.num (if b = true then 1 else 0))
  | .int i => some (.num i)
  | .str x => some (.text x)
  | .tup ds => (nksD ds).map .tup
  | _ => Option.none
def nksD : List D → Option (List NestedKey)
  | [] => some []
  | d :: ds => match nkD d, nksD ds with
    | some k, some ks => some (k :: ks)
    | _, _ => Option.none
end
/-- a dict's object: its keys with their addresses and values -/
def dctO (g : Gs) (a : Addr) (xs : List (NestedKey × Addr × V)) : HO := .ext fun h => (a == sysModules) = false ∧ xs.length ≤ sizeLine ∧ (∀ p ∈ xs, p.1.depth ≤ 8) ∧ (xs.map (·.1)).Nodup ∧
  ∃ ys : List (NestedKey × Addr × Value), Paired (fun p q => p.1 = q.1 ∧ p.2.1 = q.2.1 ∧ RelV p.2.2 q.2.2) xs ys ∧ ∃ o es ep, h.get? a = some o ∧ o.ExactDict ∧ o.data = .dict es ep ∧ es.toList = ys.map (entryOfKey (nestedKind g.prog g.w))

/-- a tuple of which no dict is known to hang -/
def SqN (K : PySem.W.Frag) (H : Hp) (a : Addr) (xs : List V) : Prop :=
  (∃ o : Obj, H a = some (.frz o (.tup xs)) ∧ o.dict = Option.none) ∨
    ∃ (o : Obj) (us : Array Value) (j : Nat), K.lookup a = some o ∧ o.cls = .type "tuple" ∧ o.dict = Option.none ∧ o.data = .seq us j ∧ us.size ≤ sizeLine ∧ Vals xs us.toList
theorem SqN.T {K : PySem.W.Frag} {H : Hp} {a : Addr} {xs : List V} (h : SqN K H a xs) : SqT K H a xs := by
  rcases h with ⟨o, h, _⟩ | ⟨o, us, j, h1, h2, _, h4⟩
  · exact .inl (.inr ⟨o, h⟩)
  · exact .inr ⟨o, us, j, h1, h2, h4⟩
mutual
def Rep (g : Gs) (w : Wd) : D → V → Prop
  | .none, v => v = .non
  | .bool b, v => v = .bl b
  | .int i, v => v = .int i
  | .str s, v => v = .str s
  | .tup ds, v => ∃ a vs, v = .ref a ∧ SqN g.K w.P a vs ∧ Reps g w ds vs
  | .prs ds, v => ∃ a vs, v = .ref a ∧ SqT g.K w.P a vs ∧ Reps g w ds vs
  | .lst ds, v => ∃ a vs, v = .ref a ∧ w.P a = some (.lst vs) ∧ Reps g w ds vs
  | .scr ds, v => ∃ a vs, v = .ref a ∧ SqL g.K w.P a vs ∧ Reps g w ds vs
  | .dct ks ds, v => ∃ a xs, v = .ref a ∧ w.P a = some (dctO g a xs) ∧ ks.map nkD = xs.map (fun p => some p.1) ∧ Reps g w ks (xs.map fun p => V.ref p.2.1) ∧ Reps g w ds (xs.map fun p => p.2.2)
  | .inst c ds, v => ∃ a dx vs, v = .ref a ∧ w.P a = some (.ins (g.cl c) dx ((fldN c).zip vs)) ∧ ds.length = (fldN c).length ∧ g.has c = true ∧ Reps g w ds vs
  | .box n, v => ∃ a, v = .ref a ∧ w.io n = some a
  | .cls c, v => v = .ref (g.cl c) ∧ g.has c = true
  | .ptr a, v => v = .ref a
  | .kd k x, v => ∃ a, v = .ref a ∧ w.P a = some (.dK [(.inl k, .int x)])
  | .exo a dd f x, v => v = .ref a ∧ ∃ y, w.P dd = some (.xd [(f, y)]) ∧ Rep g w x y
  | .fnT k, v => ((g.lmd k).live = true ∧ v = .ref (g.lmd k).fa ∧ w.P (g.lmd k).ca = some (LamX.CodeO (g.lmd k).ca (g.lam k).q)) ∨ ∃ (a c' : Addr) (pm ct : Value), (g.lmd k).live = false ∧ v = .ref a ∧ w.P a = some (ObE a (PySem.W.kla_obj "<lambda>" (g.lam k).q (g.lam k).prm (g.lam k).bd (g.lam k).sc [] pm c' ct)) ∧ w.P c' = some (LamX.CodeO c' (g.lam k).q)
def Reps (g : Gs) (w : Wd) : List D → List V → Prop
  | [], vs => vs = []
  | d :: ds, vs => ∃ v us, vs = v :: us ∧ Rep g w d v ∧ Reps g w ds us
end

/-- what stands at the address of a container -/
def Cont (g : Gs) (w : Wd) : D → Addr → HO → Prop
  | .lst ds, _, o => ∃ vs, o = .lst vs ∧ Reps g w ds vs
  | .dct ks ds, a, o => ∃ xs, o = dctO g a xs ∧ ks.map nkD = xs.map (fun p => some p.1) ∧ Reps g w ks (xs.map fun p => V.ref p.2.1) ∧ Reps g w ds (xs.map fun p => p.2.2)
  | .inst c ds, _, o => ∃ dx vs, o = .ins (g.cl c) dx ((fldN c).zip vs) ∧ ds.length ≤ (fldN c).length ∧ g.has c = true ∧ Reps g w ds vs
  | _, _, _ => False

/-- no table, no code object -/
structure Nt (o : HO) : Prop where
  t : ∀ ps, o ≠ .tbl ps
  c : ∀ a q, o ≠ LamX.CodeO a q
  x : ∀ fs, o ≠ .xd fs
/-- what may become known of a thing that stands already -/
def PX (b : Addr) (o : HO) : Prop := (∃ q, o = LamX.CodeO b q) ∨ ∃ fs, o = .xd fs
theorem Nt.px {b : Addr} {o : HO} (n : Nt o) (h : PX b o) : False := h.elim (fun ⟨q, e⟩ => n.c _ _ e) fun ⟨fs, e⟩ => n.x _ e
def filO (c : Addr) (o1 o2 : Obj) : Heap := ⟨(Array.replicate c o1).push o2, {}⟩
theorem filO_at (c : Addr) (vs ws : Array Value) (a : Addr) (o : Obj) (h : (filO c { cls := .none, data := .fields vs } { cls := .none, data := .fields ws }).get? a = some o) : ∃ us, o.data = .fields us := by
  have hx : ∀ x, ((Array.replicate c ({ cls := .none, data := .fields vs } : Obj)).push { cls := .none, data := .fields ws })[a]? = some x → ∃ us, x.data = .fields us := fun x hx => by
    simp only [Array.getElem?_push, Array.size_replicate, Array.getElem?_replicate] at hx
    split at hx
    · cases hx; exact ⟨_, rfl⟩
    · split at hx
      · cases hx; exact ⟨_, rfl⟩
      · cases hx
  unfold filO Heap.get? at h
  simp only at h
  revert h
  cases e : ((Array.replicate c ({ cls := .none, data := .fields vs } : Obj)).push { cls := .none, data := .fields ws })[a]? with
  | none => intro h; cases h
  | some x =>
    obtain ⟨us, hu⟩ := hx x e
    obtain ⟨c1, d1, da, sl⟩ := x
    simp only at hu
    subst hu
    intro h
    cases h
    exact ⟨us, rfl⟩
theorem filO_c (c : Addr) (vs ws : Array Value) : (filO c { cls := .none, data := .fields vs } { cls := .none, data := .fields ws }).get? c = some { cls := .none, data := .fields ws } := by
  simp only [filO, Heap.get?, Array.getElem?_push, Array.size_replicate, if_true]
theorem codeO_dct (g : Gs) (a c : Addr) (xs : List (NestedKey × Addr × V)) (q : Str) : dctO g a xs ≠ LamX.CodeO c q := fun e => by
  unfold dctO LamX.CodeO at e
  have e := HO.ext.inj e
  have h1 := congrFun e (filO c { cls := .none, data := .fields #[] } { cls := .none, data := .fields #[.none, .str q default] })
  have h2 := h1.symm.mp ⟨_, _, default, filO_c c _ _, rfl, rfl⟩
  obtain ⟨_, _, _, _, ys, _, o, es, ep, hg, _, hd, _⟩ := h2
  obtain ⟨us, hu⟩ := filO_at _ _ _ _ _ hg
  rw [hu] at hd
  cases hd
theorem nt_lst (xs : List V) : Nt (.lst xs) := ⟨fun ps e => (nomatch e), fun a q e => (by unfold LamX.CodeO at e; cases e), fun fs e => nomatch e⟩
theorem nt_ins (C dx : Addr) (xs : List (Str × V)) : Nt (.ins C dx xs) := ⟨fun ps e => (nomatch e), fun a q e => (by unfold LamX.CodeO at e; cases e), fun fs e => nomatch e⟩
theorem nt_dct (g : Gs) (a : Addr) (xs : List (NestedKey × Addr × V)) : Nt (dctO g a xs) := ⟨fun ps e => (by unfold dctO at e; cases e), fun c q => codeO_dct g a c xs q, fun fs e => by unfold dctO at e; cases e⟩
theorem Cont.nt {g : Gs} {w : Wd} : ∀ {d : D} {a : Addr} {o : HO}, Cont g w d a o → Nt o := by
  intro d a o h
  cases d <;> simp only [Cont] at h
  · obtain ⟨vs, rfl, _⟩ := h; exact nt_lst vs
  · obtain ⟨xs, rfl, _⟩ := h; exact nt_dct g a xs
  · obtain ⟨dx, vs, rfl, _⟩ := h; exact nt_ins _ _ _
/-- what is no table and no code object may change -/
theorem tabs_upd {T : List (Addr × Str)} {H : Hp} {a : Addr} {o : HO} (t : LamX.Tabs T H) (h : ∀ u, H a = some u → Nt u) : LamX.Tabs T (upd H a o) := fun p hp => by
  obtain ⟨ps, h1, h2, h3⟩ := t p hp
  have na : ∀ b u, H b = some u → ¬ Nt u → b ≠ a := fun b u e n z => n (h u (z ▸ e))
  refine ⟨ps, by rw [upd_ne (na _ _ h1 fun z => z.t ps rfl)]; exact h1, h2, fun pos cv hc => ?_⟩
  obtain ⟨c, e1, e2⟩ := h3 pos cv hc
  exact ⟨c, e1, by rw [upd_ne (na _ _ e2 fun z => z.c _ _ rfl)]; exact e2⟩
structure Le (w w' : Wd) : Prop where
  P : Same w.P w'.P
  io : ∀ n a, w.io n = some a → w'.io n = some a
theorem Le.refl (w : Wd) : Le w w := ⟨Same.refl _, fun _ _ h => h⟩
theorem Le.trans {a b c : Wd} (x : Le a b) (y : Le b c) : Le a c := ⟨x.P.trans y.P, fun n p h => y.io n p (x.io n p h)⟩

theorem sqT_mono {K : PySem.W.Frag} {H H' : Hp} {a : Addr} {vs : List V} (e : Same H H') (h : SqT K H a vs) : SqT K H' a vs := by
  rcases h with (h | ⟨o, h⟩) | h
  · exact .inl (.inl (e _ _ h))
  · exact .inl (.inr ⟨o, e _ _ h⟩)
  · exact .inr h

theorem sqN_mono {K : PySem.W.Frag} {H H' : Hp} {a : Addr} {vs : List V} (e : Same H H') (h : SqN K H a vs) : SqN K H' a vs := by
  rcases h with ⟨o, h, hd⟩ | h
  · exact .inl ⟨o, e _ _ h, hd⟩
  · exact .inr h
mutual
theorem Rep.mono {g : Gs} {w w' : Wd} (l : Le w w') : ∀ (d : D) (v : V), Rep g w d v → Rep g w' d v
  | .none, v, h => by simpa only [Rep] using h
  | .bool b, v, h => by simpa only [Rep] using h
  | .int b, v, h => by simpa only [Rep] using h
  | .str b, v, h => by simpa only [Rep] using h
  | .tup ds, v, h => by
    simp only [Rep] at h ⊢
    obtain ⟨a, vs, e, q, r⟩ := h
    exact ⟨a, vs, e, sqN_mono l.P q, Reps.mono l ds vs r⟩
  | .prs ds, v, h => by
    simp only [Rep] at h ⊢
    obtain ⟨a, vs, e, q, r⟩ := h
    exact ⟨a, vs, e, sqT_mono l.P q, Reps.mono l ds vs r⟩
  | .lst ds, v, h => by
    simp only [Rep] at h ⊢
    obtain ⟨a, vs, e, q, r⟩ := h
    exact ⟨a, vs, e, l.P _ _ q, Reps.mono l ds vs r⟩
  | .scr ds, v, h => by
    simp only [Rep] at h ⊢
    obtain ⟨a, vs, e, q, r⟩ := h
    exact ⟨a, vs, e, l.P.seq q, Reps.mono l ds vs r⟩
  | .dct ks ds, v, h => by
    simp only [Rep] at h ⊢
    obtain ⟨a, xs, e, q, q2, r1, r⟩ := h
    exact ⟨a, xs, e, l.P _ _ q, q2, Reps.mono l ks _ r1, Reps.mono l ds _ r⟩
  | .inst c ds, v, h => by
    simp only [Rep] at h ⊢
    obtain ⟨a, dx, vs, e, q, q1, q2, r⟩ := h
    exact ⟨a, dx, vs, e, l.P _ _ q, q1, q2, Reps.mono l ds vs r⟩
  | .box n, v, h => by
    simp only [Rep] at h ⊢
    obtain ⟨a, e, q⟩ := h
    exact ⟨a, e, l.io _ _ q⟩
  | .cls c, v, h => by simpa only [Rep] using h
  | .ptr c, v, h => by simpa only [Rep] using h
  | .kd k x, v, h => by
    simp only [Rep] at h ⊢
    obtain ⟨a, e, q⟩ := h
    exact ⟨a, e, l.P _ _ q⟩
  | .exo a dd f x, v, h => by
    simp only [Rep] at h ⊢
    obtain ⟨e, y, q, r⟩ := h
    exact ⟨e, y, l.P _ _ q, Rep.mono l x y r⟩
  | .fnT k, v, h => by
    simp only [Rep] at h ⊢
    rcases h with ⟨h1, h2, h3⟩ | ⟨a, c', pm, ct, e0, e, q, q2⟩
    · exact .inl ⟨h1, h2, l.P _ _ h3⟩
    · exact .inr ⟨a, c', pm, ct, e0, e, l.P _ _ q, l.P _ _ q2⟩
theorem Reps.mono {g : Gs} {w w' : Wd} (l : Le w w') : ∀ (ds : List D) (vs : List V), Reps g w ds vs → Reps g w' ds vs
  | [], vs, h => by simpa only [Reps] using h
  | d :: ds, vs, h => by
    simp only [Reps] at h ⊢
    obtain ⟨v, us, e, r, rs⟩ := h
    exact ⟨v, us, e, Rep.mono l d v r, Reps.mono l ds us rs⟩
end
theorem Cont.mono {g : Gs} {w w' : Wd} (l : Le w w') : ∀ {d : D} {a : Addr} {o : HO}, Cont g w d a o → Cont g w' d a o := by
  intro d a o h
  cases d <;> simp only [Cont] at h ⊢
  · obtain ⟨vs, e, r⟩ := h; exact ⟨vs, e, Reps.mono l _ _ r⟩
  · obtain ⟨xs, e, q2, r1, r⟩ := h; exact ⟨xs, e, q2, Reps.mono l _ _ r1, Reps.mono l _ _ r⟩
  · obtain ⟨dx, vs, e, q, q2, r⟩ := h; exact ⟨dx, vs, e, q, q2, Reps.mono l _ _ r⟩

structure RB (g : Gs) (w : Wd) (B : Bs) (H : Hp) : Prop where
  sub : Same w.P H
  get : ∀ n b, B[n]? = some b → ∃ a o, w.io n = some a ∧ H a = some o ∧ Cont g w b a o
  inj : ∀ n m a, w.io n = some a → w.io m = some a → n = m
  np : ∀ n a, w.io n = some a → w.P a = Option.none
  dom : ∀ n a, w.io n = some a → n < B.length
  tb : LamX.Tabs g.tabs H
  nt : ∀ b ps, w.P b ≠ some (.tbl ps)
structure Ext (w : Wd) (H : Hp) (w' : Wd) (H' : Hp) : Prop where
  le : Le w w'
  keep : ∀ b o, H b = some o → (∀ n, w.io n ≠ some b) → (∀ ps, o ≠ .tbl ps) → H' b = some o
  pf : ∀ b o, w'.P b = some o → w.P b = some o ∨ H b = Option.none ∨ PX b o
  iof : ∀ n a, w'.io n = some a → w.io n = some a ∨ H a = Option.none
  there : ∀ b, H b ≠ Option.none → H' b ≠ Option.none
  me : w'.me = w.me
theorem Ext.refl (w : Wd) (H : Hp) : Ext w H w H := ⟨Le.refl _, fun _ _ h _ _ => h, fun _ _ h => .inl h, fun _ _ h => .inl h, fun _ h => h, rfl⟩
theorem Ext.trans {a b c : Wd} {H H1 H2 : Hp} (x : Ext a H b H1) (y : Ext b H1 c H2) : Ext a H c H2 where
  le := x.le.trans y.le
  keep := fun p o h hn ht => y.keep p o (x.keep p o h hn ht) (fun n e => by
    rcases x.iof n p e with z | z
    · exact hn n z
    · rw [h] at z; cases z) ht
  pf := fun p o h => by
    rcases y.pf p o h with z | z | z
    · exact x.pf p o z
    · refine .inr (.inl (Classical.byContradiction fun q => x.there p q z))
    · exact .inr (.inr z)
  iof := fun n p h => by
    rcases y.iof n p h with z | z
    · exact x.iof n p z
    · refine .inr (Classical.byContradiction fun q => x.there p q z)
  there := fun p h => y.there p (x.there p h)
  me := y.me.trans x.me

structure S0 (g : Gs) (H0 : Hp) (w : Wd) (σI : Sl) (B : Bs) (σ : L2.St) (H : Hp) : Prop where
  rb : RB g w B H
  len : σI.length = σ.length
  sl : ∀ (i : Nat) (d : D), σI[i]? = some (some (false, d)) → ∃ v, σ[i]? = some (some v) ∧ Rep g w d v
  ow : ∀ (i : Nat) (d : D), σI[i]? = some (some (true, d)) → ∃ a o, σ[i]? = some (some (.ref a)) ∧ H a = some o ∧ Cont g w d a o ∧ w.P a = Option.none ∧ (∀ n, w.io n ≠ some a) ∧ H0 a = Option.none
  oi : ∀ (i j : Nat) (d e : D) (a : Addr), σI[i]? = some (some (true, d)) → σI[j]? = some (some (true, e)) → σ[i]? = some (some (.ref a)) → σ[j]? = some (some (.ref a)) → i = j
  me : ∀ (i c : Nat) (ds : List D) (a : Addr), σI[i]? = some (some (true, .inst c ds)) → σ[i]? = some (some (.ref a)) → w.me = some a
theorem S0.step {g : Gs} {H0 : Hp} {w w' : Wd} {σI : Sl} {B B' : Bs} {σ : L2.St} {H H' : Hp} (s : S0 g H0 w σI B σ H) (x : Ext w H w' H') (rb : RB g w' B' H') : S0 g H0 w' σI B' σ H' where
  rb := rb
  len := s.len
  sl := fun (i : Nat) d h => by
    obtain ⟨v, e, r⟩ := s.sl i d h
    exact ⟨v, e, Rep.mono x.le d v r⟩
  ow := fun (i : Nat) d h => by
    obtain ⟨a, o, e, ha, c, np, nb, n0⟩ := s.ow i d h
    have hk := x.keep a o ha nb c.nt.t
    refine ⟨a, o, e, hk, Cont.mono x.le c, ?_, fun n z => ?_, n0⟩
    · cases q : w'.P a with
      | none => rfl
      | some u =>
        rcases x.pf a u q with z | z | z
        · rw [np] at z; cases z
        · rw [ha] at z; cases z
        · have y := rb.sub a u q
          rw [hk] at y; cases y
          exact (c.nt.px z).elim
    · rcases x.iof n a z with z | z
      · exact nb n z
      · rw [ha] at z; cases z
  oi := s.oi
  me := fun i c ds a h1 h2 => x.me.trans (s.me i c ds a h1 h2)

def RepO (g : Gs) (w : Wd) (σI : Sl) (σ : L2.St) (d : D) (v : V) : Prop := Rep g w d v ∨ ∃ i : Nat, σI[i]? = some (some (true, d)) ∧ σ[i]? = some (some v)
theorem RepO.mono {g : Gs} {w w' : Wd} {σI : Sl} {σ : L2.St} {d : D} {v : V} (l : Le w w') (h : RepO g w σI σ d v) : RepO g w' σI σ d v := by
  rcases h with h | h
  · exact .inl (Rep.mono l d v h)
  · exact .inr h

def ExcR (g : Gs) (w : Wd) (c : Nat) (x : Option D) (cls : Value) (dd : Option Addr) (H : Hp) : Prop :=
  cls = .ref (g.cl c) ∧ match x with
    | Option.none => dd = Option.none
    | some d => ∃ a v, dd = some a ∧ H a = some (.xd [(excF c, v)]) ∧ Rep g w d v

/-- a value; bo: or a name's own container, to be read at once -/
def RepB (g : Gs) (w : Wd) (σI : Sl) (σ : L2.St) : Bool → D → V → Prop
  | false, d, v => Rep g w d v
  | true, d, v => RepO g w σI σ d v
theorem RepB.up {g : Gs} {w : Wd} {σI : Sl} {σ : L2.St} {d : D} {v : V} : ∀ {bo : Bool}, RepB g w σI σ bo d v → RepO g w σI σ d v
  | false, h => .inl h
  | true, h => h
/-- what is wanted of an expression's end -/
def PostE (g : Gs) (E : XK) (w : Wd) (H : Hp) (σI : Sl) (σ : L2.St) (bo : Bool) (Q : VK) : Rs D → Prop
  | .ok d B' => ∀ w' v H', Ext w H w' H' → RB g w' B' H' → RepB g w' σI σ bo d v → Q v H'
  | .exc c x B' => ∀ w' cls dd H', Ext w H w' H' → RB g w' B' H' → ExcR g w' c x cls dd H' → E cls dd H'
  | .bad => False
/-- the same of several values -/
def PostEs (g : Gs) (E : XK) (w : Wd) (H : Hp) (Q : List V → Hp → Prop) : Rs (List D) → Prop
  | .ok ds B' => ∀ w' vs H', Ext w H w' H' → RB g w' B' H' → Reps g w' ds vs → Q vs H'
  | .exc c x B' => ∀ w' cls dd H', Ext w H w' H' → RB g w' B' H' → ExcR g w' c x cls dd H' → E cls dd H'
  | .bad => False
/-- of a test -/
def PostT (g : Gs) (E : XK) (w : Wd) (H : Hp) (Q : Bool → Hp → Prop) : Rs Bool → Prop
  | .ok b B' => ∀ w' H', Ext w H w' H' → RB g w' B' H' → Q b H'
  | .exc c x B' => ∀ w' cls dd H', Ext w H w' H' → RB g w' B' H' → ExcR g w' c x cls dd H' → E cls dd H'
  | .bad => False
abbrev Et := Sl → Bs → Rs Bool
def tI (g : Gs) (E : XK) (H0 : Hp) (bo : Bool) (m : Ev) : TE := fun σ H Q => ∃ w σI B, S0 g H0 w σI B σ H ∧ PostE g E w H σI σ bo Q (m σI B)
def tIs (g : Gs) (E : XK) (H0 : Hp) (m : Evs) : TA := fun σ H Q => ∃ w σI B, S0 g H0 w σI B σ H ∧ PostEs g E w H Q (m σI B)
def tIt (g : Gs) (E : XK) (H0 : Hp) (m : Et) : TT := fun σ H Q => ∃ w σI B, S0 g H0 w σI B σ H ∧ PostT g E w H Q (m σI B)
/-- the expression's meaning is m -/
abbrev Snd (g : Gs) (E : XK) (H0 : Hp) (X : Cx) (bo : Bool) (e : Expr) (m : Ev) : Prop := PE X e (tI g E H0 bo m)
abbrev Snds (g : Gs) (E : XK) (H0 : Hp) (X : Cx) (es : List Expr) (m : Evs) : Prop := PA X es (tIs g E H0 m)
abbrev SndT (g : Gs) (E : XK) (H0 : Hp) (X : Cx) (e : Expr) (m : Et) : Prop := PT X e (tIt g E H0 m)
abbrev SndW (g : Gs) (E : XK) (H0 : Hp) (X : Cx) (e : Expr) (m : Et) : Prop := PW X e (tIt g E H0 m)

theorem weak {X : Cx} {e : Expr} {t t' : TE} (h : PE X e t) (k : ∀ σ H Q, t' σ H Q → t σ H Q) : PE X e t' := ⟨fun pins s σ H Q I q => h.run pins s σ H Q I (k σ H Q q)⟩
theorem weakA {X : Cx} {es : List Expr} {t t' : TA} (h : PA X es t) (k : ∀ σ H Q, t' σ H Q → t σ H Q) : PA X es t' := ⟨fun pos pins s σ H Q I q => h.run pos pins s σ H Q I (k σ H Q q)⟩
theorem weakT {X : Cx} {e : Expr} {t t' : TT} (h : PT X e t) (k : ∀ σ H Q, t' σ H Q → t σ H Q) : PT X e t' := ⟨fun pins s σ H Q I q => h.run pins s σ H Q I (k σ H Q q)⟩
theorem weakW {X : Cx} {e : Expr} {t t' : TT} (h : PW X e t) (k : ∀ σ H Q, t' σ H Q → t σ H Q) : PW X e t' := ⟨fun wh pins s σ H Q I q => h.run wh pins s σ H Q I (k σ H Q q)⟩

section
variable {g : Gs} {E : XK} {H0 : Hp} {w w1 : Wd} {H H1 : Hp} {σI : Sl} {σ : L2.St} {bo bo1 : Bool} {Q : VK}
/-- an end is wanted of a later state -/
theorem PostE.ext (x : Ext w H w1 H1) : ∀ {m : Rs D}, PostE g E w H σI σ bo Q m → PostE g E w1 H1 σI σ bo Q m
  | .ok _ _, h => fun w2 v2 H2 x2 rb2 r2 => h w2 v2 H2 (x.trans x2) rb2 r2
  | .exc _ _ _, h => fun w2 cls dd H2 x2 rb2 r2 => h w2 cls dd H2 (x.trans x2) rb2 r2
  | .bad, h => h
theorem PostEs.ext {Q : List V → Hp → Prop} (x : Ext w H w1 H1) : ∀ {m : Rs (List D)}, PostEs g E w H Q m → PostEs g E w1 H1 Q m
  | .ok _ _, h => fun w2 v2 H2 x2 rb2 r2 => h w2 v2 H2 (x.trans x2) rb2 r2
  | .exc _ _ _, h => fun w2 cls dd H2 x2 rb2 r2 => h w2 cls dd H2 (x.trans x2) rb2 r2
  | .bad, h => h
theorem PostT.ext {Q : Bool → Hp → Prop} (x : Ext w H w1 H1) : ∀ {m : Rs Bool}, PostT g E w H Q m → PostT g E w1 H1 Q m
  | .ok _ _, h => fun w2 H2 x2 rb2 => h w2 H2 (x.trans x2) rb2
  | .exc _ _ _, h => fun w2 cls dd H2 x2 rb2 r2 => h w2 cls dd H2 (x.trans x2) rb2 r2
  | .bad, h => h

/-- THE STEP: a part's reading from what is wanted of the whole -/
theorem tI_go {m : Ev} {B : Bs} {Q1 : VK} (s : S0 g H0 w σI B σ H) (he : ∀ c x B1, m σI B = .exc c x B1 → ∀ w' cls dd H', Ext w H w' H' → RB g w' B1 H' → ExcR g w' c x cls dd H' → E cls dd H') (hb : m σI B ≠ .bad)
    (ho : ∀ d B1, m σI B = .ok d B1 → ∀ w1 v H1, Ext w H w1 H1 → S0 g H0 w1 σI B1 σ H1 → RepB g w1 σI σ bo d v → Q1 v H1) : tI g E H0 bo m σ H Q1 := by
  refine ⟨w, σI, B, s, ?_⟩
  cases q : m σI B with
  | ok d B1 => exact fun w1 v H1 x rb r => ho d B1 q w1 v H1 x (s.step x rb) r
  | exc c x B1 => exact he c x B1 q
  | bad => exact hb q
theorem tI_bind {m : Ev} {f : D → Bs → Rs D} {B : Bs} {Q1 : VK} (s : S0 g H0 w σI B σ H) (p : PostE g E w H σI σ bo1 Q ((m σI B).bind f))
    (ho : ∀ d B1 w1 v H1, Ext w H w1 H1 → S0 g H0 w1 σI B1 σ H1 → RepB g w1 σI σ bo d v → PostE g E w1 H1 σI σ bo1 Q (f d B1) → Q1 v H1) : tI g E H0 bo m σ H Q1 := by
  refine tI_go s (fun c x B1 q => ?_) (fun q => ?_) fun d B1 q w1 v H1 x s1 r => ?_
  · rw [q] at p; exact p
  · rw [q] at p; exact p
  · rw [q] at p; exact ho d B1 w1 v H1 x s1 r (PostE.ext x p)
theorem tI_bindA {m : Ev} {f : D → Bs → Rs (List D)} {B : Bs} {Q1 : VK} {Q : List V → Hp → Prop} (s : S0 g H0 w σI B σ H) (p : PostEs g E w H Q ((m σI B).bind f))
    (ho : ∀ d B1 w1 v H1, Ext w H w1 H1 → S0 g H0 w1 σI B1 σ H1 → RepB g w1 σI σ bo d v → PostEs g E w1 H1 Q (f d B1) → Q1 v H1) : tI g E H0 bo m σ H Q1 := by
  refine tI_go s (fun c x B1 q => ?_) (fun q => ?_) fun d B1 q w1 v H1 x s1 r => ?_
  · rw [q] at p; exact p
  · rw [q] at p; exact p
  · rw [q] at p; exact ho d B1 w1 v H1 x s1 r (PostEs.ext x p)
theorem tI_bindT {m : Ev} {f : D → Bs → Rs Bool} {B : Bs} {Q1 : VK} {Q : Bool → Hp → Prop} (s : S0 g H0 w σI B σ H) (p : PostT g E w H Q ((m σI B).bind f))
    (ho : ∀ d B1 w1 v H1, Ext w H w1 H1 → S0 g H0 w1 σI B1 σ H1 → RepB g w1 σI σ bo d v → PostT g E w1 H1 Q (f d B1) → Q1 v H1) : tI g E H0 bo m σ H Q1 := by
  refine tI_go s (fun c x B1 q => ?_) (fun q => ?_) fun d B1 q w1 v H1 x s1 r => ?_
  · rw [q] at p; exact p
  · rw [q] at p; exact p
  · rw [q] at p; exact ho d B1 w1 v H1 x s1 r (PostT.ext x p)
/-- the same for an argument list -/
theorem tIs_go {m : Evs} {B : Bs} {Q1 : List V → Hp → Prop} (s : S0 g H0 w σI B σ H) (he : ∀ c x B1, m σI B = .exc c x B1 → ∀ w' cls dd H', Ext w H w' H' → RB g w' B1 H' → ExcR g w' c x cls dd H' → E cls dd H') (hb : m σI B ≠ .bad)
    (ho : ∀ d B1, m σI B = .ok d B1 → ∀ w1 v H1, Ext w H w1 H1 → S0 g H0 w1 σI B1 σ H1 → Reps g w1 d v → Q1 v H1) : tIs g E H0 m σ H Q1 := by
  refine ⟨w, σI, B, s, ?_⟩
  cases q : m σI B with
  | ok d B1 => exact fun w1 v H1 x rb r => ho d B1 q w1 v H1 x (s.step x rb) r
  | exc c x B1 => exact he c x B1 q
  | bad => exact hb q
theorem tIs_bind {m : Evs} {f : List D → Bs → Rs D} {B : Bs} {Q1 : List V → Hp → Prop} (s : S0 g H0 w σI B σ H) (p : PostE g E w H σI σ bo1 Q ((m σI B).bind f))
    (ho : ∀ d B1 w1 v H1, Ext w H w1 H1 → S0 g H0 w1 σI B1 σ H1 → Reps g w1 d v → PostE g E w1 H1 σI σ bo1 Q (f d B1) → Q1 v H1) : tIs g E H0 m σ H Q1 := by
  refine tIs_go s (fun c x B1 q => ?_) (fun q => ?_) fun d B1 q w1 v H1 x s1 r => ?_
  · rw [q] at p; exact p
  · rw [q] at p; exact p
  · rw [q] at p; exact ho d B1 w1 v H1 x s1 r (PostE.ext x p)
theorem tIs_bindA {m : Evs} {f : List D → Bs → Rs (List D)} {B : Bs} {Q1 Q : List V → Hp → Prop} (s : S0 g H0 w σI B σ H) (p : PostEs g E w H Q ((m σI B).bind f))
    (ho : ∀ d B1 w1 v H1, Ext w H w1 H1 → S0 g H0 w1 σI B1 σ H1 → Reps g w1 d v → PostEs g E w1 H1 Q (f d B1) → Q1 v H1) : tIs g E H0 m σ H Q1 := by
  refine tIs_go s (fun c x B1 q => ?_) (fun q => ?_) fun d B1 q w1 v H1 x s1 r => ?_
  · rw [q] at p; exact p
  · rw [q] at p; exact p
  · rw [q] at p; exact ho d B1 w1 v H1 x s1 r (PostEs.ext x p)
/-- for a test -/
theorem tIt_go {m : Et} {B : Bs} {Q1 : Bool → Hp → Prop} (s : S0 g H0 w σI B σ H) (he : ∀ c x B1, m σI B = .exc c x B1 → ∀ w' cls dd H', Ext w H w' H' → RB g w' B1 H' → ExcR g w' c x cls dd H' → E cls dd H') (hb : m σI B ≠ .bad)
    (ho : ∀ d B1, m σI B = .ok d B1 → ∀ w1 H1, Ext w H w1 H1 → S0 g H0 w1 σI B1 σ H1 → Q1 d H1) : tIt g E H0 m σ H Q1 := by
  refine ⟨w, σI, B, s, ?_⟩
  cases q : m σI B with
  | ok d B1 => exact fun w1 H1 x rb => ho d B1 q w1 H1 x (s.step x rb)
  | exc c x B1 => exact he c x B1 q
  | bad => exact hb q
theorem tIt_bind {m : Et} {f : Bool → Bs → Rs D} {B : Bs} {Q1 : Bool → Hp → Prop} (s : S0 g H0 w σI B σ H) (p : PostE g E w H σI σ bo1 Q ((m σI B).bind f))
    (ho : ∀ d B1 w1 H1, Ext w H w1 H1 → S0 g H0 w1 σI B1 σ H1 → PostE g E w1 H1 σI σ bo1 Q (f d B1) → Q1 d H1) : tIt g E H0 m σ H Q1 := by
  refine tIt_go s (fun c x B1 q => ?_) (fun q => ?_) fun d B1 q w1 H1 x s1 => ?_
  · rw [q] at p; exact p
  · rw [q] at p; exact p
  · rw [q] at p; exact ho d B1 w1 H1 x s1 (PostE.ext x p)
theorem tIt_bindT {m : Et} {f : Bool → Bs → Rs Bool} {B : Bs} {Q1 Q : Bool → Hp → Prop} (s : S0 g H0 w σI B σ H) (p : PostT g E w H Q ((m σI B).bind f))
    (ho : ∀ d B1 w1 H1, Ext w H w1 H1 → S0 g H0 w1 σI B1 σ H1 → PostT g E w1 H1 Q (f d B1) → Q1 d H1) : tIt g E H0 m σ H Q1 := by
  refine tIt_go s (fun c x B1 q => ?_) (fun q => ?_) fun d B1 q w1 H1 x s1 => ?_
  · rw [q] at p; exact p
  · rw [q] at p; exact p
  · rw [q] at p; exact ho d B1 w1 H1 x s1 (PostT.ext x p)
end

def mBin (f : D → D → Bs → Rs D) (a b : Ev) : Ev := fun σI B => (a σI B).bind fun x B1 => (b σI B1).bind fun y B2 => f x y B2
def OpSem (g : Gs) (E : XK) (H0 : Hp) (r : R2) (f : D → D → Bs → Rs D) : Prop := ∀ (w : Wd) (σI : Sl) (B : Bs) (σ : L2.St) (H : Hp) (Q : VK) (x y : V) (dx dy : D),
  S0 g H0 w σI B σ H → RepO g w σI σ dx x → RepO g w σI σ dy y → PostE g E w H σI σ false Q (f dx dy B) → r x y H Q
section
variable {g : Gs} {E : XK} {H0 : Hp} {X : Cx} {a b : Expr} {ma mb : Ev} {pos : Pos} {b1 b2 : Bool}
theorem tOp_of {r : R2} {f : D → D → Bs → Rs D} (h : OpSem g E H0 r f) : ∀ σ H Q, tI g E H0 false (mBin f ma mb) σ H Q → tOp r (tI g E H0 b1 ma) (tI g E H0 b2 mb) σ H Q := by
  rintro σ H Q ⟨w, σI, B, s, p⟩
  refine tI_bind s p fun d B1 w1 v H1 x1 s1 r1 p1 => ?_
  refine tI_bind s1 p1 fun d2 B2 w2 v2 H2 x2 s2 r2 p2 => ?_
  exact h w2 σI B2 σ H2 Q v v2 d d2 s2 (r1.up.mono x2.le) r2.up p2
theorem s_bin {op : Operator} {r : R2} {f : D → D → Bs → Rs D} (ho : OpR X (binaryOp op) r) (h : OpSem g E H0 r f) (ha : Snd g E H0 X b1 a ma) (hb : Snd g E H0 X b2 b mb) : Snd g E H0 X false (.BinOp a op b pos) (mBin f ma mb) :=
  weak (pe_op ho ha hb) (tOp_of h)

def mVar (i : Nat) : Ev := fun σI B => match σI[i]? with
  | some (some (false, d)) => .ok d B
  | _ => .bad
def mBor (i : Nat) : Ev := fun σI B => match σI[i]? with
  | some (some (_, d)) => .ok d B
  | _ => .bad
def mC (d : D) : Ev := fun _ B => .ok d B
theorem s_var {i : Nat} {x : Str} (hN : X.N[i]? = some x := by rfl) (hv : Vis X.env.scope x := by first | exact Or.inl rfl | exact Or.inr (Or.inl rfl) | exact Or.inr (Or.inr rfl)) (hd : (x == ("__debug__" : Str)) = false := by decide)
    (hcd : (x == ("__classdict__" : Str)) = false := by decide) : Snd g E H0 X false (.Name x pos) (mVar i) := weak (pe_var hN hv hd hcd) fun σ H Q ⟨w, σI, B, s, p⟩ => by
  unfold mVar at p
  split at p
  · rename_i d e
    obtain ⟨v, h1, h2⟩ := s.sl i d e
    exact ⟨v, h1, p w v H (Ext.refl _ _) s.rb h2⟩
  · exact p.elim
theorem s_bor {i : Nat} {x : Str} (hN : X.N[i]? = some x := by rfl) (hv : Vis X.env.scope x := by first | exact Or.inl rfl | exact Or.inr (Or.inl rfl) | exact Or.inr (Or.inr rfl)) (hd : (x == ("__debug__" : Str)) = false := by decide)
    (hcd : (x == ("__classdict__" : Str)) = false := by decide) : Snd g E H0 X true (.Name x pos) (mBor i) := weak (pe_var hN hv hd hcd) fun σ H Q ⟨w, σI, B, s, p⟩ => by
  unfold mBor at p
  split at p
  · rename_i k d e
    cases k with
    | false =>
      obtain ⟨v, h1, h2⟩ := s.sl i d e
      exact ⟨v, h1, p w v H (Ext.refl _ _) s.rb (.inl h2)⟩
    | true =>
      obtain ⟨a, o, h1, h2, _⟩ := s.ow i d e
      exact ⟨_, h1, p w _ H (Ext.refl _ _) s.rb (.inr ⟨i, e, h1⟩)⟩
  · exact p.elim
theorem s_const {e : Expr} {v : V} {d : D} (h : PE X e (tC v)) (r : ∀ w, Rep g w d v) : Snd g E H0 X false e (mC d) := weak h fun σ H Q ⟨w, σI, B, s, p⟩ => p w v H (Ext.refl _ _) s.rb (r w)
theorem s_int {i : Int} {j : Nat} : Snd g E H0 X false (.Constant (.int i) j pos) (mC (.int i)) := s_const pe_int fun w => by simp only [Rep]
theorem s_str {x : Str} {j : Nat} : Snd g E H0 X false (.Constant (.str x) j pos) (mC (.str x)) := s_const pe_str fun w => by simp only [Rep]
theorem s_bool {x : Bool} {j : Nat} : Snd g E H0 X false (.Constant (.bool x) j pos) (mC (.bool x)) := s_const pe_bl fun w => by simp only [Rep]
theorem s_none {j : Nat} : Snd g E H0 X false (.Constant .none j pos) (mC .none) := s_const pe_non fun w => by simp only [Rep]
end
/-! ### exceptions whose context is None -/
open PySem.Spec PyProof.Rows
theorem passN {X : Cx} : Passes (L2N.CX X.prog X.w) X E0 := fun _ _ _ _ _ _ _ h => by
  obtain ⟨_, _, _, _, _, _, _, _, _, _, _, _, z⟩ := h
  exact z.elim
theorem _root_.L2.Fun.okN {P : Program} {w : World} {K : PySem.W.Frag} {mg : Str → Option Value} {base : Heap} {x qual : Str} {st : Stmt} {f : Addr} {fd : FuncData} {N ps : List Str} {k : Nat} {sp : Sp} (F : L2.Fun K x qual st f fd) (S : FnScope N ps (defScope st)) (len : ∀ vs H Q E, sp vs H Q E → vs.length = ps.length)
    (hbody : ∀ (cdv : Value) (A : Around) (outer : List Env) (s : Shared) (H : Hp) (vs : List V) (Q : VK) (E : XK), Room k (A.deeper (envOfC qual (defScope st) s.heap.objs.size f cdv)) → sp vs H Q E →
      ∃ t, PSs (cxOf (L2N.CX P w) P w K mg base N qual (defScope st) f cdv A outer s H E) (defBody st) t ∧ t { nx := fun _ H' => Q .non H', rt := Q } (L2.start N vs) H) : FnOk P w K mg base (L2N.CX P w) (k + 1) f fd ps sp := by
  obtain ⟨oc, od, kV, doc, pm, an, cdv, ct, osl, rfl, lk, hcd⟩ := F.ex
  exact fn_of lk hcd S len fun A outer s H vs Q E hr hsp => hbody cdv A outer s H vs Q E hr hsp
theorem cxUpN {P : Program} {w : World} : StX.CXUp (L2N.CX P w) := by
  rintro outer s H s2 H2 E e s' un kp ho ⟨a, B, H', cls, d, ea, fl, hok, ub, na, os, ag, he⟩
  refine ⟨a, B, H', cls, d, ea, fl, hok, ⟨fun b o q n hb => ub.keep b o (kp b o q) (un.free b o q n (by simp)) hb, fun b o q hb => ub.slot b o (kp b o q) hb, fun b o q n => ub.free b o (kp b o q) (un.free b o q n (by simp)),
    fun b o q hb => ub.there b o (kp b o q) hb, fun b xs q => ub.tups b xs (un.tups b xs q), fun b o xs q => ub.frzs b o xs (un.frzs b o xs q), fun b ps q => ?_⟩, na, os.trans ho, ag, he⟩
  obtain ⟨m1, e1⟩ := un.tbls b ps q
  obtain ⟨m2, e2⟩ := ub.tbls b _ e1
  exact ⟨m1 ++ m2, by rw [e2, Array.append_assoc]⟩
end Hf

set_option Elab.async false
set_option linter.all false
set_option maxRecDepth 100000
set_option maxHeartbeats 4000000
namespace Hf
open PySem L2

/-! ### what stands behind data -/
section
variable {g : Gs} {w : Wd} {H H0 : Hp} {σI : Sl} {σ : L2.St} {B : Bs} {x : V}
theorem Reps.len : ∀ {ds : List D} {vs : List V}, Reps g w ds vs → vs.length = ds.length
  | [], vs, h => by simp only [Reps] at h; subst h; rfl
  | d :: ds, vs, h => by
    simp only [Reps] at h
    obtain ⟨v, us, rfl, _, r⟩ := h
    simp [Reps.len r]
theorem Reps.app : ∀ {ds es : List D} {vs us : List V}, Reps g w ds vs → Reps g w es us → Reps g w (ds ++ es) (vs ++ us)
  | [], es, vs, us, h, k => by simp only [Reps] at h; subst h; exact k
  | d :: ds, es, vs, us, h, k => by
    simp only [Reps] at h
    obtain ⟨v, us', rfl, r, rs⟩ := h
    simp only [List.cons_append, Reps]
    exact ⟨v, _, rfl, r, Reps.app rs k⟩
theorem Reps.get : ∀ {ds : List D} {vs : List V} {i : Nat} {d : D}, Reps g w ds vs → ds[i]? = some d → ∃ v, vs[i]? = some v ∧ Rep g w d v
  | [], _, _, _, _, e => by simp at e
  | d :: ds, vs, i, d', h, e => by
    simp only [Reps] at h
    obtain ⟨v, us, rfl, r, rs⟩ := h
    cases i with
    | zero => simp at e; subst e; exact ⟨v, by simp, r⟩
    | succ i =>
      obtain ⟨u, h1, h2⟩ := Reps.get (i := i) rs (by simpa using e)
      exact ⟨u, by simpa using h1, h2⟩
theorem Reps.drop : ∀ {ds : List D} {vs : List V} (n : Nat), Reps g w ds vs → Reps g w (ds.drop n) (vs.drop n)
  | ds, vs, 0, h => by simpa using h
  | [], vs, n + 1, h => by simp only [Reps] at h; subst h; simp [Reps]
  | d :: ds, vs, n + 1, h => by
    simp only [Reps] at h
    obtain ⟨v, us, rfl, r, rs⟩ := h
    simpa using Reps.drop n rs
theorem Reps.take : ∀ {ds : List D} {vs : List V} (n : Nat), Reps g w ds vs → Reps g w (ds.take n) (vs.take n)
  | ds, vs, 0, h => by simp [Reps]
  | [], vs, n + 1, h => by simp only [Reps] at h; subst h; simp [Reps]
  | d :: ds, vs, n + 1, h => by
    simp only [Reps] at h
    obtain ⟨v, us, rfl, r, rs⟩ := h
    simp only [List.take_succ_cons, Reps]
    exact ⟨v, _, rfl, r, Reps.take n rs⟩
theorem Reps.set : ∀ {ds : List D} {vs : List V} (n : Nat) {d : D} {v : V}, Reps g w ds vs → Rep g w d v → Reps g w (ds.set n d) (vs.set n v)
  | [], vs, n, d, v, h, k => by simp only [Reps] at h; subst h; simp [Reps]
  | e :: ds, vs, 0, d, v, h, k => by
    simp only [Reps] at h
    obtain ⟨u, us, rfl, r, rs⟩ := h
    simp only [List.set_cons_zero, Reps]
    exact ⟨v, _, rfl, k, rs⟩
  | e :: ds, vs, n + 1, d, v, h, k => by
    simp only [Reps] at h
    obtain ⟨u, us, rfl, r, rs⟩ := h
    simp only [List.set_cons_succ, Reps]
    exact ⟨u, _, rfl, r, Reps.set n rs k⟩
theorem Reps.one {d : D} {v : V} (h : Rep g w d v) : Reps g w [d] [v] := by simp only [Reps]; exact ⟨v, [], rfl, h, rfl⟩
theorem Reps.rep {ds : List D} {vs : List V} (h : Reps g w ds vs) : ∀ k : Nat, Reps g w (List.replicate k ds).flatten (List.replicate k vs).flatten
  | 0 => by simp [Reps]
  | k + 1 => by
    simp only [List.replicate_succ, List.flatten_cons]
    exact Reps.app h (Reps.rep h k)

theorem RepO.lst {ds : List D} (s : S0 g H0 w σI B σ H) (h : RepO g w σI σ (.lst ds) x) : ∃ a vs, x = .ref a ∧ H a = some (.lst vs) ∧ Reps g w ds vs := by
  rcases h with h | ⟨i, h1, h2⟩
  · simp only [Rep] at h
    obtain ⟨a, vs, rfl, p, r⟩ := h
    exact ⟨a, vs, rfl, s.rb.sub _ _ p, r⟩
  · obtain ⟨a, o, e, ha, c, _⟩ := s.ow i _ h1
    rw [h2] at e
    cases e
    simp only [Cont] at c
    obtain ⟨vs, rfl, r⟩ := c
    exact ⟨a, vs, rfl, ha, r⟩
theorem RepO.of {d : D} (s : S0 g H0 w σI B σ H) (h : RepO g w σI σ d x) (hd : ∀ ds, d ≠ .lst ds) (hd2 : ∀ ks ds, d ≠ .dct ks ds) (hd3 : ∀ c ds, d ≠ .inst c ds) : Rep g w d x := by
  rcases h with h | ⟨i, h1, h2⟩
  · exact h
  · obtain ⟨a, o, e, ha, c, _⟩ := s.ow i _ h1
    cases d <;> simp [Cont] at c <;> first | exact (hd _ rfl).elim | exact (hd2 _ _ rfl).elim | exact (hd3 _ _ rfl).elim
theorem RepO.int {i : Int} (s : S0 g H0 w σI B σ H) (h : RepO g w σI σ (.int i) x) : x = .int i := by
  have := h.of s (by simp) (by simp) (by simp); simpa only [Rep] using this
theorem RepO.bool {i : Bool} (s : S0 g H0 w σI B σ H) (h : RepO g w σI σ (.bool i) x) : x = .bl i := by
  have := h.of s (by simp) (by simp) (by simp); simpa only [Rep] using this
theorem RepO.str {i : Str} (s : S0 g H0 w σI B σ H) (h : RepO g w σI σ (.str i) x) : x = .str i := by
  have := h.of s (by simp) (by simp) (by simp); simpa only [Rep] using this
theorem RepO.none (s : S0 g H0 w σI B σ H) (h : RepO g w σI σ .none x) : x = .non := by
  have := h.of s (by simp) (by simp) (by simp); simpa only [Rep] using this
theorem RepO.tup {ds : List D} (s : S0 g H0 w σI B σ H) (h : RepO g w σI σ (.tup ds) x) : ∃ a vs, x = .ref a ∧ SqT g.K H a vs ∧ Reps g w ds vs := by
  have := h.of s (by simp) (by simp) (by simp)
  simp only [Rep] at this
  obtain ⟨a, vs, rfl, p, r⟩ := this
  exact ⟨a, vs, rfl, sqT_mono s.rb.sub p.T, r⟩
theorem RepO.tupN {ds : List D} (s : S0 g H0 w σI B σ H) (h : RepO g w σI σ (.tup ds) x) : ∃ a vs, x = .ref a ∧ SqN g.K H a vs ∧ Reps g w ds vs := by
  have := h.of s (by simp) (by simp) (by simp)
  simp only [Rep] at this
  obtain ⟨a, vs, rfl, p, r⟩ := this
  exact ⟨a, vs, rfl, sqN_mono s.rb.sub p, r⟩
theorem RepO.prs {ds : List D} (s : S0 g H0 w σI B σ H) (h : RepO g w σI σ (.prs ds) x) : ∃ a vs, x = .ref a ∧ SqT g.K H a vs ∧ Reps g w ds vs := by
  have := h.of s (by simp) (by simp) (by simp)
  simp only [Rep] at this
  obtain ⟨a, vs, rfl, p, r⟩ := this
  exact ⟨a, vs, rfl, sqT_mono s.rb.sub p, r⟩
theorem RepO.scr {ds : List D} (s : S0 g H0 w σI B σ H) (h : RepO g w σI σ (.scr ds) x) : ∃ a vs, x = .ref a ∧ SqL g.K H a vs ∧ Reps g w ds vs := by
  have := h.of s (by simp) (by simp) (by simp)
  simp only [Rep] at this
  obtain ⟨a, vs, rfl, p, r⟩ := this
  exact ⟨a, vs, rfl, s.rb.sub.seq p, r⟩
theorem RepO.box {n : Nat} (s : S0 g H0 w σI B σ H) (h : RepO g w σI σ (.box n) x) : ∃ a, x = .ref a ∧ w.io n = some a := by
  have := h.of s (by simp) (by simp) (by simp)
  simpa only [Rep] using this
theorem RepO.dct {ks ds : List D} (s : S0 g H0 w σI B σ H) (h : RepO g w σI σ (.dct ks ds) x) : ∃ a xs, x = .ref a ∧ H a = some (dctO g a xs) ∧ ks.map nkD = xs.map (fun p => some p.1) ∧ Reps g w ks (xs.map fun p => V.ref p.2.1) ∧ Reps g w ds (xs.map fun p => p.2.2) := by
  rcases h with h | ⟨i, h1, h2⟩
  · simp only [Rep] at h
    obtain ⟨a, xs, rfl, p, q⟩ := h
    exact ⟨a, xs, rfl, s.rb.sub _ _ p, q⟩
  · obtain ⟨a, o, e, ha, c, _⟩ := s.ow i _ h1
    rw [h2] at e
    cases e
    simp only [Cont] at c
    obtain ⟨xs, rfl, q⟩ := c
    exact ⟨a, xs, rfl, ha, q⟩

/-- a new thing is laid and from then on persistent -/
def regW (w : Wd) (p : Addr) (o : HO) : Wd := { w with P := upd w.P p o }
theorem RB.fresh_io (rb : RB g w B H) {p : Addr} (hp : H p = Option.none) : ∀ n, w.io n ≠ some p := fun n e => by
  by_cases hn : n < B.length
  · obtain ⟨a, o, h1, h2, _⟩ := rb.get n B[n] (List.getElem?_eq_getElem hn)
    rw [e] at h1; cases h1; rw [hp] at h2; cases h2
  · exact hn (rb.dom n p e)
theorem RB.fresh_P (rb : RB g w B H) {p : Addr} (hp : H p = Option.none) : w.P p = Option.none := by
  cases q : w.P p with
  | none => rfl
  | some o => rw [rb.sub _ _ q] at hp; cases hp
theorem same_upd2 {P H : Hp} {p : Addr} {o : HO} (h : Same P H) : Same (upd P p o) (upd H p o) := fun b u e => by
  by_cases hb : b = p
  · subst hb; rw [upd_same] at e ⊢; exact e
  · rw [upd_ne hb] at e ⊢; exact h b u e
theorem same_upd {H : Hp} {p : Addr} {o : HO} (hp : H p = Option.none) : Same H (upd H p o) := fun b u e => by
  rw [upd_ne (ne_of_none e hp)]; exact e
theorem regLe (w : Wd) {p : Addr} {o : HO} (hp : w.P p = Option.none) : Le w (regW w p o) := ⟨same_upd hp, fun _ _ h => h⟩
/-- boxes over a heap that is kept -/
theorem nt_reg {p : Addr} {o : HO} (h : ∀ b ps, w.P b ≠ some (.tbl ps)) (ho : ∀ ps, o ≠ .tbl ps) : ∀ b ps, (regW w p o).P b ≠ some (.tbl ps) := fun b ps e => by
  have e : upd w.P p o b = some (.tbl ps) := e
  by_cases z : b = p
  · subst z; rw [upd_same] at e; exact ho ps (Option.some.inj e)
  · rw [upd_ne z] at e; exact h b ps e
theorem RB.keep {H' : Hp} {w' : Wd} (rb : RB g w B H) (l : Le w w') (hio : w'.io = w.io) (hs : Same w'.P H') (hk : Same H H') (hp : ∀ n a, w.io n = some a → w'.P a = Option.none) (hn : ∀ b ps, w'.P b ≠ some (.tbl ps)) : RB g w' B H' where
  tb := rb.tb.ext hk
  nt := hn
  sub := hs
  get := fun n b e => by
    obtain ⟨a, o, h1, h2, c⟩ := rb.get n b e
    exact ⟨a, o, by rw [hio]; exact h1, hk _ _ h2, c.mono l⟩
  inj := by rw [hio]; exact rb.inj
  np := by rw [hio]; exact hp
  dom := by rw [hio]; exact rb.dom
theorem RB.reg {p : Addr} {o : HO} (rb : RB g w B H) (hp : H p = Option.none) (ho : ∀ ps, o ≠ .tbl ps := by first | (intro ps e; cases e) | (intro ps e; unfold dctO at e; cases e)) : RB g (regW w p o) B (upd H p o) :=
  rb.keep (regLe w (rb.fresh_P hp)) rfl (same_upd2 rb.sub) (same_upd hp) (fun n a e => by
    show upd w.P p o a = Option.none
    rw [upd_ne (fun z => rb.fresh_io hp n (by rw [← z]; exact e))]
    exact rb.np n a e) (nt_reg rb.nt ho)
theorem Ext.reg {p : Addr} {o : HO} (rb : RB g w B H) (hp : H p = Option.none) : Ext w H (regW w p o) (upd H p o) where
  le := regLe w (rb.fresh_P hp)
  keep := fun b u h _ _ => same_upd hp b u h
  pf := fun b u h => by
    by_cases hb : b = p
    · subst hb; exact .inr (.inl hp)
    · refine .inl ?_
      have h : upd w.P p o b = some u := h
      rwa [upd_ne hb] at h
  iof := fun n a h => .inl h
  there := fun b h z => h (by
    by_cases hb : b = p
    · subst hb; exact hp
    · rwa [upd_ne hb] at z)
  me := rfl
/-- a thing laid, not persistent -/
theorem RB.lay {p : Addr} {o : HO} (rb : RB g w B H) (hp : H p = Option.none) : RB g w B (upd H p o) :=
  rb.keep (Le.refl w) rfl (rb.sub.trans (same_upd hp)) (same_upd hp) rb.np rb.nt
theorem Ext.lay {p : Addr} {o : HO} (hp : H p = Option.none) : Ext w H w (upd H p o) where
  le := Le.refl w
  keep := fun b u h _ _ => same_upd hp b u h
  pf := fun b u h => .inl h
  iof := fun n a h => .inl h
  there := fun b h z => h (by
    by_cases hb : b = p
    · subst hb; exact hp
    · rwa [upd_ne hb] at z)
  me := rfl
variable {E : XK} {Q : VK}
theorem PostE.nowR {d : D} {v : V} (s : S0 g H0 w σI B σ H) (h : PostE g E w H σI σ false Q (.ok d B)) (r : Rep g w d v) : Q v H := h w v H (Ext.refl _ _) s.rb r
theorem RepO.tupR {ds : List D} (s : S0 g H0 w σI B σ H) (h : RepO g w σI σ (.tup ds) x) : Rep g w (.tup ds) x := h.of s (by simp) (by simp) (by simp)
theorem PostE.newT {ds : List D} {vs : List V} {p : Addr} (s : S0 g H0 w σI B σ H) (h : PostE g E w H σI σ false Q (.ok (.tup ds) B)) {ob : Obj} (r : Reps g w ds vs) (hp : H p = Option.none) (hd : ob.dict = Option.none) : Q (.ref p) (upd H p (.frz ob (.tup vs))) :=
  h (regW w p (.frz ob (.tup vs))) _ _ (Ext.reg s.rb hp) (s.rb.reg hp) (by
    simp only [RepB, Rep]
    exact ⟨p, vs, rfl, .inl ⟨ob, upd_same, hd⟩, Reps.mono (regLe w (s.rb.fresh_P hp)) _ _ r⟩)
theorem PostE.newL {ds : List D} {vs : List V} {p : Addr} (s : S0 g H0 w σI B σ H) (h : PostE g E w H σI σ false Q (.ok (.lst ds) B)) (r : Reps g w ds vs) (hp : H p = Option.none) : Q (.ref p) (upd H p (.lst vs)) :=
  h (regW w p (.lst vs)) _ _ (Ext.reg s.rb hp) (s.rb.reg hp) (by
    simp only [RepB, Rep]
    exact ⟨p, vs, rfl, upd_same, Reps.mono (regLe w (s.rb.fresh_P hp)) _ _ r⟩)
end

/-- the built-in classes that are asked for -/
inductive Bt where
  | int | bool | tuple | str | list
  deriving DecidableEq
def Bt.nm : Bt → String
  | .int => "int" | .bool => "bool" | .tuple => "tuple" | .str => "str" | .list => "list"
/-- which class of instances is derived from which -/
def subC (c d : Nat) : Bool := c == d || (d == 2 && (c == 3 || c == 4 || c == 5)) || (c == 5 && (d == 3 || d == 4))
/-- what is known of a class of instances -/
structure ClsC (g : Gs) (c : Nat) : Prop where
  cls : L2.Cls g.K (g.cl c)
  na : ∀ f ∈ fldN c, NoAttr g.K (g.cl c) f
  nd : (fldN c).Nodup
  ha : PySem.W.findIn g.K (.ref (g.cl c)) "__class__" = some (some (.builtin "object.__class__"))
  hm : PySem.W.mroIn g.K (g.cl c) (.type "object") = some true
  isB : ∀ T : Bt, PySem.W.kitOne g.K (.ref (g.cl c)) (.type T.nm) = some false
  isO : ∀ n ∈ ["NoneType", "int", "bool", "str", "list", "tuple", "dict"], PySem.W.kitOne g.K (.type n) (.ref (g.cl c)) = some false
/-- what the top has left -/
structure Fx (g : Gs) : Prop where
  cls : ∀ c, g.has c = true → ClsC g c
  sub : ∀ c d, g.has c = true → g.has d = true → PySem.W.kitOne g.K (.ref (g.cl c)) (.ref (g.cl d)) = some (subC c d)
  hn : PySem.W.specialIn g.K (.builtin "object.__class__") "__get__" = some (some (.builtin "getset_descriptor.__get__"))
  htk : PySem.W.takesIn g.K (.builtin "object.__class__") = some true
  nb : ∀ x ∈ ["len", "range", "isinstance", "tuple", "list", "all", "any", "max", "min", "set", "sorted", "enumerate", "zip", "repr", "str", "int", "sum", "dict", "bool"], g.mg (Str.ofString x) = none
/-- what a body must know of where it stands -/
structure Ok (g : Gs) (X : Cx) : Prop where
  K : X.K = g.K
  mg : X.mg = g.mg
  calm : X.calm = true
  un : X.A.units + 100 < cLine
  prog : X.prog = g.prog
  w : X.w = g.w
  base : X.base = g.base
  fx : Fx g

/-! ### arithmetic -/
def fI2 (k : Int → Int → D) (c : Int → Int → Bool) : D → D → Bs → Rs D
  | .int i, .int j, B => if c i j then .ok (k i j) B else .bad
  | _, _, _ => .bad
theorem os_I {g : Gs} {E : XK} {H0 : Hp} {C : Int → Int → Prop} {c : Int → Int → Bool} {k : Int → Int → D} {kv : Int → Int → V} (hc : ∀ i j, c i j = true → C i j) (hk : ∀ w i j, Rep g w (k i j) (kv i j)) :
    OpSem g E H0 (rI C kv) (fI2 k c) := by
  intro w σI B σ H Q x y dx dy s rx ry p
  cases dx <;> first | exact p.elim | skip
  cases dy <;> first | exact p.elim | skip
  rename_i i j
  simp only [fI2] at p
  split at p
  · rename_i h
    exact ⟨i, j, rx.int s, ry.int s, hc _ _ h, p.nowR s (hk w i j)⟩
  · exact p.elim
theorem os_I0 {g : Gs} {E : XK} {H0 : Hp} {k : Int → Int → D} {kv : Int → Int → V} (hk : ∀ w i j, Rep g w (k i j) (kv i j)) :
    OpSem g E H0 (rI0 kv) (fI2 k fun _ _ => true) := by
  intro w σI B σ H Q x y dx dy s rx ry p
  cases dx <;> first | exact p.elim | skip
  cases dy <;> first | exact p.elim | skip
  rename_i i j
  exact ⟨i, j, rx.int s, ry.int s, PostE.nowR s p (hk w i j)⟩
theorem rep_int (g : Gs) (w : Wd) (i : Int) : Rep g w (.int i) (.int i) := by simp only [Rep]
theorem rep_bool (g : Gs) (w : Wd) (i : Bool) : Rep g w (.bool i) (.bl i) := by simp only [Rep]
theorem rep_str (g : Gs) (w : Wd) (i : Str) : Rep g w (.str i) (.str i) := by simp only [Rep]
theorem rep_none (g : Gs) (w : Wd) : Rep g w .none .non := by simp only [Rep]

def b2D (b : Bool) : Int := if b then 1 else 0
def fAdd : D → D → Bs → Rs D
  | .int i, .int j, B => .ok (.int (i + j)) B
  | .int i, .bool b, B => .ok (.int (i + b2D b)) B
  | .str a, .str b, B => if a.length + b.length ≤ sizeLine then .ok (.str (a ++ b)) B else .bad
  | .tup a, .tup b, B => if a.length + b.length ≤ sizeLine then .ok (.tup (a ++ b)) B else .bad
  | .lst a, .lst b, B => if a.length + b.length ≤ sizeLine then .ok (.lst (a ++ b)) B else .bad
  | _, _, _ => .bad
/-- a + b of tuples: what is made has no dict -/
def rCatN (K : PySem.W.Frag) : R2 := fun x y H Q => ∃ a b xs ys, x = .ref a ∧ y = .ref b ∧ SqT K H a xs ∧ SqT K H b ys ∧ xs.length + ys.length ≤ sizeLine ∧
  (xs = [] → Q (.ref b) H) ∧ (xs ≠ [] → ys = [] → Q (.ref a) H) ∧ (xs ≠ [] → ys ≠ [] → ∀ p (ob : Obj), H p = Option.none → ob.dict = Option.none → Q (.ref p) (upd H p (.frz ob (.tup (xs ++ ys)))))
theorem frz_tup {P : Program} {w : World} {H : Hp} {h : Heap} {a : Addr} {xs : List V} {us : List Value} (hz : xs.length ≤ sizeLine) (r : Vals xs us) (e : h.get? a = some { cls := .type "tuple", data := .seq us.toArray }) :
    ObjOk P w H h a (.frz { cls := .type "tuple", data := .seq us.toArray } (.tup xs)) := ⟨e, hz, us, r, _, e, rfl, _, rfl⟩
theorem op_catN {X : Cx} : OpR X (binaryOp .Add) (rCatN X.K) := by
  intro pins s σ H x y v u Q I rx ry h
  obtain ⟨a, b, xs, ys, rfl, rfl, ha, hb, hz, q0, q1, q2⟩ := h
  cases rx
  cases ry
  obtain ⟨us, ra, pa, _⟩ := I.tuple ha
  obtain ⟨ws, rb, pb, _⟩ := I.tuple hb
  by_cases hx : xs = []
  · subst hx
    cases ra
    exact cat_tup0 pa pb ⟨.ref b, H, I, rfl, q0 rfl⟩
  · have hu : us ≠ [] := fun z => hx (ra.nil_iff.mp z)
    refine HT.cat_tup pa pb hu (fun z => ⟨.ref a, H, I, rfl, q1 hx (rb.nil_iff.mp z)⟩) (fun z => ?_) (by rw [← ra.length, ← rb.length]; exact hz)
    have hp : H s.heap.objs.size = Option.none := I.hok.fresh (Nat.le_refl _)
    refine ⟨.ref s.heap.objs.size, upd H s.heap.objs.size _, I.laid (t' := s.toks) (o := .frz { cls := .type "tuple", data := .seq (us ++ ws).toArray } (.tup (xs ++ ys))) (fun c oc qc => Heap.get?_push_of_some _ qc) (Nat.le_refl _) ?_, rfl, q2 hx (fun w => z (rb.nil_iff.mpr w)) _ _ hp rfl⟩
    exact frz_tup (by rw [List.length_append]; exact hz) (ra.append rb) (Heap.get?_push_size _ rfl)
def rAdd (K : PySem.W.Frag) : R2 := fun x y H Q => (rI0 (fun i j => .int (i + j))) x y H Q ∨ (∃ i k, x = .int i ∧ y = .bl k ∧ Q (.int (i + PyProof.Rows.b2i k)) H) ∨ (∃ i j, x = .str i ∧ y = .str j ∧ i.length + j.length ≤ sizeLine ∧ Q (.str (i ++ j)) H) ∨ rCatN K x y H Q ∨ rCat x y H Q
theorem op_addA {X : Cx} : OpR X (binaryOp .Add) (rAdd X.K) := op_add.or (op_add_ib.or (op_add_str.or (op_catN.or op_cat)))
theorem os_add {g : Gs} {E : XK} {H0 : Hp} : OpSem g E H0 (rAdd g.K) fAdd := by
  intro w σI B σ H Q x y dx dy s rx ry p
  unfold fAdd at p
  split at p
  · rename_i i j
    exact .inl ⟨i, j, rx.int s, ry.int s, p.nowR s (rep_int g w _)⟩
  · rename_i i b
    exact .inr (.inl ⟨i, b, rx.int s, ry.bool s, p.nowR s (by simp only [Rep]; cases b <;> rfl)⟩)
  · rename_i a b
    split at p
    · rename_i h
      exact .inr (.inr (.inl ⟨a, b, rx.str s, ry.str s, h, p.nowR s (rep_str g w _)⟩))
    · exact p.elim
  · rename_i ds es
    split at p
    · rename_i h
      obtain ⟨a, vs, rfl, q1, r1⟩ := rx.tup s
      obtain ⟨b, us, rfl, q2, r2⟩ := ry.tup s
      refine .inr (.inr (.inr (.inl ⟨a, b, vs, us, rfl, rfl, q1, q2, by rw [r1.len, r2.len]; exact h, ?_, ?_, ?_⟩)))
      · intro e
        have hd : ds = [] := List.eq_nil_of_length_eq_zero (by rw [← r1.len, e]; rfl)
        subst hd
        exact p.nowR s (ry.tupR s)
      · intro e e2
        have hd : es = [] := List.eq_nil_of_length_eq_zero (by rw [← r2.len, e2]; rfl)
        subst hd
        rw [List.append_nil] at p
        exact p.nowR s (rx.tupR s)
      · intro _ _ q ob hq ho
        exact p.newT s (r1.app r2) hq ho
    · exact p.elim
  · rename_i ds es
    split at p
    · rename_i h
      obtain ⟨a, vs, rfl, q1, r1⟩ := rx.lst s
      obtain ⟨b, us, rfl, q2, r2⟩ := ry.lst s
      exact .inr (.inr (.inr (.inr ⟨a, b, vs, us, rfl, rfl, q1, q2, by rw [r1.len, r2.len]; exact h, fun q hq => p.newL s (r1.app r2) hq⟩)))
    · exact p.elim
  · exact p.elim
def wideB (i : Int) : Bool := decide (-(2 ^ 64) < i) && decide (i < 2 ^ 64)
theorem wideB_ok {i : Int} (h : wideB i = true) : -(2 ^ 64) < i ∧ i < 2 ^ 64 := by
  unfold wideB at h
  simp only [Bool.and_eq_true, decide_eq_true_eq] at h
  exact h
abbrev fSub := fI2 (fun i j => .int (i - j)) fun _ _ => true
abbrev fMod := fI2 (fun i j => .int (i % j)) fun _ j => decide (0 < j)
abbrev fDiv := fI2 (fun i j => .int (i / j)) fun _ j => decide (0 < j) && decide (j < 1073741824)
abbrev fPow := fI2 (fun i j => .int (i ^ j.toNat)) fun i j => decide (0 ≤ j) && decide (j ≤ 1000000) && decide (i.natAbs < 2 ^ 64)
theorem os_sub {g : Gs} {E : XK} {H0 : Hp} : OpSem g E H0 (rI0 fun i j => .int (i - j)) fSub := os_I0 fun w i j => rep_int g w _
theorem os_mod {g : Gs} {E : XK} {H0 : Hp} : OpSem g E H0 (rI (fun _ j => 0 < j) fun i j => .int (i % j)) fMod := os_I (fun i j h => of_decide_eq_true h) fun w i j => rep_int g w _
theorem os_div {g : Gs} {E : XK} {H0 : Hp} : OpSem g E H0 (rI CDiv fun i j => .int (i / j)) fDiv := os_I (fun i j h => by
  simp only [Bool.and_eq_true, decide_eq_true_eq] at h; exact h) fun w i j => rep_int g w _
theorem os_pow {g : Gs} {E : XK} {H0 : Hp} : OpSem g E H0 (rI CPow fun i j => .int (i ^ j.toNat)) fPow := os_I (fun i j h => by
  simp only [Bool.and_eq_true, decide_eq_true_eq] at h; exact ⟨h.1.1, h.1.2, h.2⟩) fun w i j => rep_int g w _
section
variable {g : Gs} {E : XK} {H0 : Hp} {X : Cx} {a b : Expr} {ma mb : Ev} {pos : Pos} {b1 b2 : Bool}
theorem s_add (c : Ok g X) (ha : Snd g E H0 X b1 a ma) (hb : Snd g E H0 X b2 b mb) : Snd g E H0 X false (.BinOp a .Add b pos) (mBin fAdd ma mb) := s_bin (c.K ▸ op_addA) os_add ha hb
theorem s_sub (ha : Snd g E H0 X b1 a ma) (hb : Snd g E H0 X b2 b mb) : Snd g E H0 X false (.BinOp a .Sub b pos) (mBin fSub ma mb) := s_bin op_sub os_sub ha hb
theorem s_mod (ha : Snd g E H0 X b1 a ma) (hb : Snd g E H0 X b2 b mb) : Snd g E H0 X false (.BinOp a .Mod b pos) (mBin fMod ma mb) := s_bin op_mod os_mod ha hb
theorem s_div (ha : Snd g E H0 X b1 a ma) (hb : Snd g E H0 X b2 b mb) : Snd g E H0 X false (.BinOp a .FloorDiv b pos) (mBin fDiv ma mb) := s_bin op_fdiv os_div ha hb
theorem s_pow (ha : Snd g E H0 X b1 a ma) (hb : Snd g E H0 X b2 b mb) : Snd g E H0 X false (.BinOp a .Pow b pos) (mBin fPow ma mb) := s_bin op_pow os_pow ha hb
end


/-! ### order of whole numbers -/
abbrev fLt := fI2 (fun i j => .bool (decide (i < j))) fun _ _ => true
abbrev fLe := fI2 (fun i j => .bool (decide (i ≤ j))) fun _ _ => true
abbrev fGt := fI2 (fun i j => .bool (decide (j < i))) fun _ _ => true
/-- a comparison that is known -/
structure Cmp (g : Gs) (E : XK) (H0 : Hp) (X : Cx) (op : CmpOp) (f : D → D → Bs → Rs D) : Prop where
  ex : ∃ r, OpR X (compareOp op) r ∧ OpSem g E H0 r f
  bl : ∀ d e B, f d e B = .bad ∨ ∃ b B', f d e B = .ok (.bool b) B'
theorem fI2_bl (k : Int → Int → Bool) (c : Int → Int → Bool) : ∀ d e B, fI2 (fun i j => .bool (k i j)) c d e B = .bad ∨ ∃ b B', fI2 (fun i j => .bool (k i j)) c d e B = .ok (.bool b) B' := fun d e B => by
  cases d <;> first | exact .inl rfl | skip
  cases e <;> first | exact .inl rfl | skip
  rename_i i j
  simp only [fI2]
  by_cases h : c i j = true
  · rw [if_pos h]; exact .inr ⟨_, _, rfl⟩
  · rw [if_neg h]; exact .inl rfl
section
variable {g : Gs} {E : XK} {H0 : Hp} {X : Cx}
theorem c_lt : Cmp g E H0 X .Lt fLt := ⟨⟨_, op_lt, os_I0 fun w i j => rep_bool g w _⟩, fI2_bl _ _⟩
theorem c_le : Cmp g E H0 X .LtE fLe := ⟨⟨_, op_le, os_I0 fun w i j => rep_bool g w _⟩, fI2_bl _ _⟩
theorem c_gt : Cmp g E H0 X .Gt fGt := ⟨⟨_, op_gt, os_I0 fun w i j => rep_bool g w _⟩, fI2_bl _ _⟩
end
end Hf

set_option Elab.async false
set_option linter.all false
set_option maxRecDepth 100000
set_option maxHeartbeats 4000000
namespace Hf
open PySem PySem.Spec PyProof.Rows L2
theorem tuple_mulS (l : Addr) (items : Array Value) (n : Nat) (dd : Option Addr) (sl : Array (Option Value)) (x : Int) (u : Tok) (c0 : (decide (x < -(2 ^ 63)) || decide (x ≥ 2 ^ 63)) = false) (c1 : (items.isEmpty || x == 1) = true) :
    Meets (Builtin.«tuple.__mul__» ⟨[.ref l, .int x u], []⟩) (fun _ R s => s.heap.get? l = some { cls := .type "tuple", dict := dd, data := .seq items n, slots := sl } ∧ R (.ok (.ret (Value.ref l))) s) :=
  .of_wp fun prog w A R s h => by
    obtain ⟨hp, g, d, tk, os⟩ := s
    obtain ⟨hl, h⟩ := h
    have f1 := AutoSeq1.idx_int
    wp_walk using wpAny_loadPart' hl
    repeat (first
      | (refine wpAny_ite_false (decide_eq_false (by rw [c0]; exact Bool.false_ne_true)) ?_; wp_walk using wpAny_loadPart' hl)
      | (refine wpAny_ite_true (decide_eq_true c1) ?_; wp_walk using wpAny_loadPart' hl))
    exact ⟨_, rfl, h⟩
theorem tuple_mul0 (l : Addr) (items : Array Value) (n : Nat) (dd : Option Addr) (sl : Array (Option Value)) (x : Int) (u : Tok) (c0 : (decide (x < -(2 ^ 63)) || decide (x ≥ 2 ^ 63)) = false) (c1 : (items.isEmpty || x == 1) = false) (c2 : (decide (x ≤ 0) || items.isEmpty) = true) :
    Meets (Builtin.«tuple.__mul__» ⟨[.ref l, .int x u], []⟩) (fun _ R s => s.heap.get? l = some { cls := .type "tuple", dict := dd, data := .seq items n, slots := sl } ∧
      R (.ok (.ret (Value.ref s.heap.objs.size))) { s with heap := s.heap.push { cls := Value.type "tuple", data := Data.seq #[] }, toks := s.toks }) :=
  .of_wp fun prog w A R s h => by
    obtain ⟨hp, g, d, tk, os⟩ := s
    obtain ⟨hl, h⟩ := h
    have f1 := AutoSeq1.idx_int
    wp_walk using wpAny_loadPart' hl
    repeat (first
      | (refine wpAny_ite_false (decide_eq_false (by rw [c0]; exact Bool.false_ne_true)) ?_; wp_walk using wpAny_loadPart' hl)
      | (refine wpAny_ite_false (decide_eq_false (by rw [c1]; exact Bool.false_ne_true)) ?_; wp_walk using wpAny_loadPart' hl)
      | (refine wpAny_ite_true (decide_eq_true c2) ?_; wp_walk using wpAny_loadPart' hl))
    exact ⟨_, rfl, h⟩

def rRepTA (K : PySem.W.Frag) : R2 := fun x y H Q => ∃ l k xs, x = .ref l ∧ y = .int k ∧ SqT K H l xs ∧ -1000 < k ∧ k ≤ 1000 ∧ xs.length ≤ 1000 ∧
  ((xs = [] ∨ k = 1) → Q (.ref l) H) ∧ (xs ≠ [] → k ≠ 1 → ∀ p (ob : Obj), H p = none → ob.dict = none → Q (.ref p) (upd H p (.frz ob (.tup (List.replicate k.toNat xs).flatten))))
theorem op_repTA {X : Cx} : OpR X (binaryOp .Mult) (rRepTA X.K) := by
  intro pins s σ H x y v u Q I rx ry h
  obtain ⟨l, k, xs, rfl, rfl, hT, h1, h2, hz, q0, q⟩ := h
  cases rx
  obtain ⟨t, rfl⟩ := ry
  obtain ⟨its, r, ⟨⟨cls, dd, data, sl⟩, ho, hc, n, hd⟩, hs⟩ := I.tuple hT
  simp only at hc hd
  subst hc hd
  have hle : its.length = xs.length := r.length.symm
  have hfree : H s.heap.objs.size = none := I.hok.fresh (Nat.le_refl _)
  have c0 : (decide (k < -(2 ^ 63)) || decide (k ≥ 2 ^ 63)) = false := by
    rw [decide_eq_false (by omega), decide_eq_false (by omega)] <;> rfl
  by_cases hs1 : xs = [] ∨ k = 1
  · have c1 : (its.toArray.isEmpty || k == 1) = true := by
      rcases hs1 with e | e
      · subst e
        cases its with
        | nil => rfl
        | cons a b => simp at hle
      · subst e; simp
    exact wpAny_binaryOp_repeat_ref (T := "tuple") (U := "int") (by decide) ⟨_, ho, rfl⟩ (fun s' => typeIs_int s' k t) noFill_tuple_mul F.fills_int_mul F.slot_int_rmul repeat_tuple F.slot_int_index.lookup
      (call_meets F.slot_int_rmul (typeIs_int s k t) F.entry_int_rmul (F.args_int_rmul_2 _ _) (int_rmul_tuple k t l its.toArray n dd sl)
        ⟨ho, rfl, ⟨_, ho, rfl⟩, call_meets F.slot_tuple_mul ⟨_, ho, rfl⟩ F.entry_tuple_mul (F.args_tuple_mul_2 _ _) (tuple_mulS l its.toArray n dd sl k t c0 c1) ⟨ho, ⟨.ref l, H, I, rfl, q0 hs1⟩⟩⟩)
  · have hx : xs ≠ [] := fun e => hs1 (.inl e)
    have hk1 : k ≠ 1 := fun e => hs1 (.inr e)
    have hi : its.toArray.isEmpty = false := by
      cases its with
      | nil => exact absurd (List.eq_nil_of_length_eq_zero hle.symm) hx
      | cons a b => rfl
    have c1 : (its.toArray.isEmpty || k == 1) = false := by
      rw [hi, Bool.false_or]
      exact beq_eq_false_iff_ne.mpr hk1
    by_cases hk : k ≤ 0
    case neg =>
      have d2 : (decide (k ≤ 0) || its.toArray.isEmpty) = false := by
        rw [hi, Bool.or_false]; exact decide_eq_false hk
      have hm : ((its.toArray.size : Nat) : Int) * k ≤ 1000000 := by
        rw [List.size_toArray, hle]
        have := Int.mul_le_mul_of_nonneg_right (show ((xs.length : Nat) : Int) ≤ 1000 by omega) (show 0 ≤ k by omega)
        omega
      have lf : (List.replicate k.toNat its).flatten.length ≤ sizeLine := by
        rw [PyProof.Rows.lm_len_rep_flat, hle, sizeLine_eq]
        have := Nat.mul_le_mul (show k.toNat ≤ 1000 by omega) hz
        omega
      have d4 : Builtin.Tuple.tupleTooMany (((its.toArray.size : Nat) : Int) * k) = false := by
        unfold Builtin.Tuple.tupleTooMany
        rw [sizeLine_eq]; exact decide_eq_false (by omega)
      refine wpAny_binaryOp_repeat_ref (U := "int") (T := "tuple") (by decide) ⟨_, ho, rfl⟩ (fun s1 => typeIs_int s1 k t) noFill_tuple_mul F.fills_int_mul F.slot_int_rmul repeat_tuple F.slot_int_index.lookup
        (call_meets F.slot_int_rmul (typeIs_int s k t) F.entry_int_rmul (F.args_int_rmul_2 _ _) (int_rmul_tuple k t l its.toArray n dd sl)
          ⟨ho, rfl, ⟨_, ho, rfl⟩, call_meets F.slot_tuple_mul ⟨_, ho, rfl⟩ F.entry_tuple_mul (F.args_tuple_mul_2 _ _) (tuple_mulW l its.toArray n dd sl k t c0 c1 d2 (by omega) d4 (by rw [size_rep, List.size_toArray]; exact lf)) ⟨ho, ?_⟩⟩)
      rw [size_rep]
      exact ⟨.ref s.heap.objs.size, upd H s.heap.objs.size _, I.laid (t' := s.toks) (o := .frz { cls := .type "tuple", data := .seq (List.replicate k.toNat its).flatten.toArray } (.tup (List.replicate k.toNat xs).flatten)) (fun c oc qc => Heap.get?_push_of_some _ qc) (Nat.le_refl _)
        (frz_tup (by rw [← (r.rep k.toNat).length] at lf; exact lf) (r.rep k.toNat) (Heap.get?_push_size _ rfl)), rfl, q hx hk1 _ _ hfree rfl⟩
    have c2 : (decide (k ≤ 0) || its.toArray.isEmpty) = true := by rw [decide_eq_true hk]; rfl
    refine wpAny_binaryOp_repeat_ref (T := "tuple") (U := "int") (by decide) ⟨_, ho, rfl⟩ (fun s' => typeIs_int s' k t) noFill_tuple_mul F.fills_int_mul F.slot_int_rmul repeat_tuple F.slot_int_index.lookup
      (call_meets F.slot_int_rmul (typeIs_int s k t) F.entry_int_rmul (F.args_int_rmul_2 _ _) (int_rmul_tuple k t l its.toArray n dd sl)
        ⟨ho, rfl, ⟨_, ho, rfl⟩, call_meets F.slot_tuple_mul ⟨_, ho, rfl⟩ F.entry_tuple_mul (F.args_tuple_mul_2 _ _) (tuple_mul0 l its.toArray n dd sl k t c0 c1 c2) ⟨ho, ?_⟩⟩)
    have e0 : k.toNat = 0 := by omega
    rw [e0] at q
    exact ⟨.ref s.heap.objs.size, upd H s.heap.objs.size _, I.laid (t' := s.toks) (o := .frz { cls := .type "tuple", data := .seq ([] : List Value).toArray } (.tup [])) (fun c oc qc => Heap.get?_push_of_some _ qc) (Nat.le_refl _)
      (frz_tup (Nat.zero_le _) .nil (Heap.get?_push_size _ rfl)), rfl, q hx hk1 _ _ hfree rfl⟩

def fMul : D → D → Bs → Rs D
  | .int i, .int j, B => if wideB i || wideB j then .ok (.int (i * j)) B else .bad
  | .lst a, .int k, B => if decide (k < 1000) && decide (-1000 < k) && decide (a.length ≤ 1000) then .ok (.lst (List.replicate k.toNat a).flatten) B else .bad
  | .tup a, .int k, B => if decide (k < 1000) && decide (-1000 < k) && decide (a.length ≤ 1000) then .ok (.tup (List.replicate k.toNat a).flatten) B else .bad
  | _, _, _ => .bad
def rMulA (K : PySem.W.Frag) : R2 := fun x y H Q => (rI CMul fun i j => .int (i * j)) x y H Q ∨ rRep x y H Q ∨ rRepTA K x y H Q
theorem op_mulA {X : Cx} : OpR X (binaryOp .Mult) (rMulA X.K) := op_mul.or (op_rep.or op_repTA)
theorem os_mul {g : Gs} {E : XK} {H0 : Hp} : OpSem g E H0 (rMulA g.K) fMul := by
  intro w σI B σ H Q x y dx dy s rx ry p
  unfold fMul at p
  split at p
  · rename_i i j
    split at p
    · rename_i h
      refine .inl ⟨i, j, rx.int s, ry.int s, ?_, p.nowR s (rep_int g w _)⟩
      rcases Bool.or_eq_true_iff.mp h with h | h
      · exact .inl (wideB_ok h)
      · exact .inr (wideB_ok h)
    · exact p.elim
  · rename_i ds k
    split at p
    · rename_i h
      simp only [Bool.and_eq_true, decide_eq_true_eq] at h
      obtain ⟨⟨h1, h2⟩, h3⟩ := h
      obtain ⟨a, vs, rfl, q1, r1⟩ := rx.lst s
      refine .inr (.inl ⟨a, k, vs, rfl, ry.int s, q1, by omega, by omega, ?_, fun q hq => p.newL s (r1.rep _) hq⟩)
      rw [r1.len, sizeLine_eq]
      have a1 : ds.length * k.toNat ≤ 1000 * 1000 := Nat.mul_le_mul h3 (by omega)
      omega
    · exact p.elim
  · rename_i ds k
    split at p
    · rename_i h
      simp only [Bool.and_eq_true, decide_eq_true_eq] at h
      obtain ⟨⟨h1, h2⟩, h3⟩ := h
      obtain ⟨a, vs, rfl, q1, r1⟩ := rx.tup s
      refine .inr (.inr ⟨a, k, vs, rfl, ry.int s, q1, by omega, by omega, by rw [r1.len]; exact h3, ?_, fun _ _ q ob hq ho => p.newT s (r1.rep _) hq ho⟩)
      rintro (e | e)
      · have hd : ds = [] := List.eq_nil_of_length_eq_zero (by rw [← r1.len, e]; rfl)
        subst hd
        have e : (List.replicate k.toNat ([] : List D)).flatten = [] := by simp
        rw [e] at p
        exact p.nowR s (rx.tupR s)
      · subst e
        simp at p
        exact p.nowR s (rx.tupR s)
    · exact p.elim
  · exact p.elim
section
variable {g : Gs} {E : XK} {H0 : Hp} {X : Cx} {a b : Expr} {ma mb : Ev} {pos : Pos} {b1 b2 : Bool}
theorem s_mul (c : Ok g X) (ha : Snd g E H0 X b1 a ma) (hb : Snd g E H0 X b2 b mb) : Snd g E H0 X false (.BinOp a .Mult b pos) (mBin fMul ma mb) := s_bin (c.K ▸ op_mulA) os_mul ha hb
end

/-! ### equality of data -/
mutual
def toPy : D → PyData
  | .none => .none
  | .bool b => .bool b
  | .int i => .int i
  | .str x => .str x
  | .tup ds => .tuple (toPys ds)
  | .lst ds => .list (toPys ds)
  | .kd k x => .dict [(.int k, .int x)]
  | _ => .dict []
def toPys : List D → List PyData
  | [] => []
  | d :: ds => toPy d :: toPys ds
end
mutual
theorem Rep.dp {g : Gs} {w : Wd} {H : Hp} (hs : Same w.P H) : ∀ (d : D) (v : V), Rep g w d v → (toPy d).canLay0 = true → Dp g.K H v (toPy d)
  | .none, v, h, _ => by simp only [Rep] at h; subst h; exact .non
  | .bool b, v, h, _ => by simp only [Rep] at h; subst h; exact .bl b
  | .int b, v, h, _ => by simp only [Rep] at h; subst h; exact .int b
  | .str b, v, h, _ => by simp only [Rep] at h; subst h; exact .str b
  | .tup ds, v, h, c => by
    simp only [Rep] at h
    obtain ⟨a, vs, rfl, q, r⟩ := h
    simp only [toPy, PyData.canLay0] at c ⊢
    exact .tup (sqT_mono hs q.T) (Reps.dp hs ds vs r c)
  | .lst ds, v, h, c => by
    simp only [Rep] at h
    obtain ⟨a, vs, rfl, q, r⟩ := h
    simp only [toPy, PyData.canLay0] at c ⊢
    exact .lst (.inl (.inl (hs _ _ q))) (Reps.dp hs ds vs r c)
  | .scr ds, v, h, c => by simp [toPy, PyData.canLay0] at c
  | .prs ds, v, h, c => by simp [toPy, PyData.canLay0] at c
  | .dct ks ds, v, h, c => by simp [toPy, PyData.canLay0] at c
  | .inst k ds, v, h, c => by simp [toPy, PyData.canLay0] at c
  | .box n, v, h, c => by simp [toPy, PyData.canLay0] at c
  | .cls n, v, h, c => by simp [toPy, PyData.canLay0] at c
  | .ptr n, v, h, c => by simp [toPy, PyData.canLay0] at c
  | .kd k x, v, h, c => by simp [toPy, PyData.canLay0] at c
  | .fnT k, v, h, c => by simp [toPy, PyData.canLay0] at c
  | .exo a dd f x, v, h, c => by simp [toPy, PyData.canLay0] at c
theorem Reps.dp {g : Gs} {w : Wd} {H : Hp} (hs : Same w.P H) : ∀ (ds : List D) (vs : List V), Reps g w ds vs → PyData.canLayAll0 (toPys ds) = true → DpAll g.K H vs (toPys ds)
  | [], vs, h, _ => by simp only [Reps] at h; subst h; exact .nil
  | d :: ds, vs, h, c => by
    simp only [Reps] at h
    obtain ⟨v, us, rfl, r, rs⟩ := h
    simp only [toPys, PyData.canLayAll0, Bool.and_eq_true] at c ⊢
    exact .cons (Rep.dp hs d v r c.1) (Reps.dp hs ds us rs c.2)
end
theorem RepO.dp {g : Gs} {w : Wd} {H H0 : Hp} {σI : Sl} {σ : L2.St} {B : Bs} {x : V} {d : D} (s : S0 g H0 w σI B σ H) (h : RepO g w σI σ d x) (c : (toPy d).canLay0 = true) : Dp g.K H x (toPy d) := by
  rcases h with h | h
  · exact Rep.dp s.rb.sub d x h c
  · have h' : RepO g w σI σ d x := .inr h
    obtain ⟨i, h1, h2⟩ := h
    obtain ⟨a, o, e, ha, ct, _⟩ := s.ow i _ h1
    cases d <;> simp [Cont] at ct
    · obtain ⟨a, vs, rfl, q, r⟩ := h'.lst s
      simp only [toPy, PyData.canLay0] at c ⊢
      exact .lst (.inl (.inl q)) (Reps.dp s.rb.sub _ vs r c)
    · simp [toPy, PyData.canLay0] at c
    · simp [toPy, PyData.canLay0] at c
/-- plain data of some depth -/
def shp (d : D) : Bool := SeqAt.shaped (toPy d)
def eqD (d e : D) : Bool := PyData.eqv (toPy d) (toPy e)
def fEq : D → D → Bs → Rs D := fun d e B => if shp d && shp e then .ok (.bool (eqD d e)) B else .bad
def fNe : D → D → Bs → Rs D := fun d e B => if shp d && shp e then .ok (.bool (!eqD d e)) B else .bad
theorem os_eq {g : Gs} {E : XK} {H0 : Hp} : OpSem g E H0 (rEqD g.K) fEq := by
  intro w σI B σ H Q x y dx dy s rx ry p
  unfold fEq at p
  split at p
  · rename_i h
    obtain ⟨h1, h2⟩ := Bool.and_eq_true_iff.mp h
    exact ⟨_, _, rx.dp s (SeqAt.canLay_of_shaped h1), ry.dp s (SeqAt.canLay_of_shaped h2), h1, h2, p.nowR s (rep_bool g w _)⟩
  · exact p.elim
theorem os_ne {g : Gs} {E : XK} {H0 : Hp} : OpSem g E H0 (rNeD g.K) fNe := by
  intro w σI B σ H Q x y dx dy s rx ry p
  unfold fNe at p
  split at p
  · rename_i h
    obtain ⟨h1, h2⟩ := Bool.and_eq_true_iff.mp h
    exact ⟨_, _, rx.dp s (SeqAt.canLay_of_shaped h1), ry.dp s (SeqAt.canLay_of_shaped h2), h1, h2, p.nowR s (rep_bool g w _)⟩
  · exact p.elim
/-! ### in -/
def rInT (K : PySem.W.Frag) : R2 := fun x y H Q => ∃ d ds, Dp K H x d ∧ Dp K H y (.tuple ds) ∧ SeqAt.shaped d = true ∧ SeqAt.shaped (.tuple ds) = true ∧ Q (.bl (ds.any fun z => PyData.eqv z d)) H
def rNotInT (K : PySem.W.Frag) : R2 := fun x y H Q => ∃ d ds, Dp K H x d ∧ Dp K H y (.tuple ds) ∧ SeqAt.shaped d = true ∧ SeqAt.shaped (.tuple ds) = true ∧ Q (.bl (!ds.any fun z => PyData.eqv z d)) H
theorem op_inT {X : Cx} (hu : X.A.units + 65 < cLine) : OpR X (compareOp .In) (rInT X.K) := by
  intro pins s σ H x y v u Q I rx ry h
  obtain ⟨d, ds, hd, he, sd, se, q⟩ := h
  obtain ⟨as, r1⟩ := Dp.reads I d x v hd rx
  obtain ⟨bs, r2⟩ := Dp.reads I (.tuple ds) y u he ry
  exact SeqAt.in_tuple_reads r2 r1 (SeqAt.canLay_of_shaped se) (SeqAt.canLay_of_shaped sd) (room_in_shaped sd hu) ⟨.bl _, H, I, rfl, q⟩
theorem op_notInT {X : Cx} (hu : X.A.units + 65 < cLine) : OpR X (compareOp .NotIn) (rNotInT X.K) := by
  intro pins s σ H x y v u Q I rx ry h
  obtain ⟨d, ds, hd, he, sd, se, q⟩ := h
  obtain ⟨as, r1⟩ := Dp.reads I d x v hd rx
  obtain ⟨bs, r2⟩ := Dp.reads I (.tuple ds) y u he ry
  exact SeqAt.notIn_tuple_reads r2 r1 (SeqAt.canLay_of_shaped se) (SeqAt.canLay_of_shaped sd) (room_in_shaped sd hu) ⟨.bl _, H, I, rfl, q⟩
def inD (d : D) (ds : List D) : Bool := (toPys ds).any fun z => PyData.eqv z (toPy d)
def fInG (f : Bool → Bool) : D → D → Bs → Rs D
  | d, .lst ds, B => if shp d && shp (.lst ds) then .ok (.bool (f (inD d ds))) B else .bad
  | d, .tup ds, B => if shp d && shp (.tup ds) then .ok (.bool (f (inD d ds))) B else .bad
  | _, _, _ => .bad
abbrev fIn := fInG fun b => b
abbrev fNotIn := fInG fun b => !b
theorem os_in {g : Gs} {E : XK} {H0 : Hp} : OpSem g E H0 (fun x y H Q => rInD g.K x y H Q ∨ rInT g.K x y H Q) fIn := by
  intro w σI B σ H Q x y dx dy s rx ry p
  unfold fIn fInG at p
  split at p
  · split at p
    · rename_i h
      obtain ⟨h1, h2⟩ := Bool.and_eq_true_iff.mp h
      exact .inl ⟨_, _, rx.dp s (SeqAt.canLay_of_shaped h1), ry.dp s (SeqAt.canLay_of_shaped h2), h1, h2, p.nowR s (rep_bool g w _)⟩
    · exact p.elim
  · split at p
    · rename_i h
      obtain ⟨h1, h2⟩ := Bool.and_eq_true_iff.mp h
      exact .inr ⟨_, _, rx.dp s (SeqAt.canLay_of_shaped h1), ry.dp s (SeqAt.canLay_of_shaped h2), h1, h2, p.nowR s (rep_bool g w _)⟩
    · exact p.elim
  · exact p.elim
theorem os_notin {g : Gs} {E : XK} {H0 : Hp} : OpSem g E H0 (fun x y H Q => rNotInD g.K x y H Q ∨ rNotInT g.K x y H Q) fNotIn := by
  intro w σI B σ H Q x y dx dy s rx ry p
  unfold fNotIn fInG at p
  split at p
  · split at p
    · rename_i h
      obtain ⟨h1, h2⟩ := Bool.and_eq_true_iff.mp h
      exact .inl ⟨_, _, rx.dp s (SeqAt.canLay_of_shaped h1), ry.dp s (SeqAt.canLay_of_shaped h2), h1, h2, p.nowR s (rep_bool g w _)⟩
    · exact p.elim
  · split at p
    · rename_i h
      obtain ⟨h1, h2⟩ := Bool.and_eq_true_iff.mp h
      exact .inr ⟨_, _, rx.dp s (SeqAt.canLay_of_shaped h1), ry.dp s (SeqAt.canLay_of_shaped h2), h1, h2, p.nowR s (rep_bool g w _)⟩
    · exact p.elim
  · exact p.elim
section
variable {g : Gs} {E : XK} {H0 : Hp} {X : Cx} {a b c : Expr} {ma mb mc : Ev} {pos : Pos}
theorem Ok.u65 (k : Ok g X) : X.A.units + 65 < cLine := by have := k.un; omega
theorem blB (c : Bool) (b : Bool) (B : Bs) : (if c then (Rs.ok (D.bool b) B) else .bad) = Rs.bad ∨ ∃ x B', (if c then (Rs.ok (D.bool b) B) else .bad) = Rs.ok (.bool x) B' := by
  cases c
  · exact .inl rfl
  · exact .inr ⟨_, _, rfl⟩
theorem fIn_bl (f : Bool → Bool) : ∀ d e B, fInG f d e B = .bad ∨ ∃ b B', fInG f d e B = .ok (.bool b) B' := fun d e B => by
  cases e <;> first | exact .inl rfl | exact blB _ _ _
theorem c_eq (k : Ok g X) : Cmp g E H0 X .Eq fEq := ⟨⟨_, k.K ▸ op_eqD (by have := k.un; omega), os_eq⟩, fun _ _ _ => blB _ _ _⟩
theorem c_ne (k : Ok g X) : Cmp g E H0 X .NotEq fNe := ⟨⟨_, k.K ▸ op_neD (by have := k.un; omega), os_ne⟩, fun _ _ _ => blB _ _ _⟩
theorem c_in (k : Ok g X) : Cmp g E H0 X .In fIn := ⟨⟨_, k.K ▸ (op_inD k.u65).or (op_inT k.u65), os_in⟩, fIn_bl _⟩
theorem c_notin (k : Ok g X) : Cmp g E H0 X .NotIn fNotIn := ⟨⟨_, k.K ▸ (op_notInD k.u65).or (op_notInT k.u65), os_notin⟩, fIn_bl _⟩
/-! ### is None -/
def isN : D → Bool
  | .none => true
  | _ => false
def fIsNot : D → D → Bs → Rs D := fun d e B => if isN e then .ok (.bool (!isN d)) B else .bad
theorem isN_rep {w : Wd} {H : Hp} {σI : Sl} {σ : L2.St} {B : Bs} {x : V} {d : D} (s : S0 g H0 w σI B σ H) (r : RepO g w σI σ d x) : decide (x = .non) = isN d := by
  have fin : ∀ a, x = V.ref a → decide (x = V.non) = false := fun a e => by subst e; rfl
  cases d with
  | none => rw [r.none s]; rfl
  | bool b => rw [r.bool s]; rfl
  | int i => rw [r.int s]; rfl
  | str i => rw [r.str s]; rfl
  | tup ds => obtain ⟨a, _, e, _⟩ := r.tup s; exact fin a e
  | lst ds => obtain ⟨a, _, e, _⟩ := r.lst s; exact fin a e
  | scr ds => obtain ⟨a, _, e, _⟩ := r.scr s; exact fin a e
  | prs ds => obtain ⟨a, _, e, _⟩ := r.prs s; exact fin a e
  | dct ks ds => obtain ⟨a, _, e, _⟩ := r.dct s; exact fin a e
  | box n => obtain ⟨a, e, _⟩ := r.box s; exact fin a e
  | cls n =>
    have := r.of s (by simp) (by simp) (by simp)
    simp only [Rep] at this
    exact fin _ this.1
  | ptr n =>
    have := r.of s (by simp) (by simp) (by simp)
    simp only [Rep] at this
    exact fin _ this
  | kd n x =>
    have := r.of s (by simp) (by simp) (by simp)
    simp only [Rep] at this
    obtain ⟨a, e, _⟩ := this
    exact fin a e
  | exo n dd f x =>
    have := r.of s (by simp) (by simp) (by simp)
    simp only [Rep] at this
    exact fin _ this.1
  | fnT n =>
    have := r.of s (by simp) (by simp) (by simp)
    simp only [Rep] at this
    rcases this with ⟨_, e, _⟩ | ⟨a, _, _, _, _, e, _⟩
    · exact fin _ e
    · exact fin a e
  | inst c ds =>
    rcases r with r | ⟨i, h1, h2⟩
    · simp only [Rep] at r
      obtain ⟨a, _, _, e, _⟩ := r
      exact fin a e
    · obtain ⟨a, o, e, _⟩ := s.ow i _ h1
      rw [h2] at e; cases e; rfl
theorem os_isnot : OpSem g E H0 (fun x y H Q => y = .non ∧ Q (.bl (!decide (x = .non))) H) fIsNot := by
  intro w σI B σ H Q x y dx dy s rx ry p
  unfold fIsNot at p
  split at p
  · rename_i h
    cases dy <;> first | exact absurd h Bool.false_ne_true | skip
    exact ⟨ry.none s, by rw [isN_rep s rx]; exact p.nowR s (rep_bool g w _)⟩
  · exact p.elim
theorem c_isnot : Cmp g E H0 X .IsNot fIsNot := ⟨⟨_, op_notN, os_isnot⟩, fun _ _ _ => blB _ _ _⟩
end
end Hf

set_option Elab.async false
set_option linter.all false
set_option maxRecDepth 100000
set_option maxHeartbeats 4000000
namespace Hf
open PySem PySem.Spec PyProof.Rows L2

/-! ### comparisons -/
section
variable {g : Gs} {E : XK} {H0 : Hp} {X : Cx} {a b c : Expr} {ma mb mc : Ev} {pos : Pos} {b1 b2 b3 bo : Bool} {op op' : CmpOp} {f f' : D → D → Bs → Rs D}
theorem s_cmp (P : Cmp g E H0 X op f) (ha : Snd g E H0 X b1 a ma) (hb : Snd g E H0 X b2 b mb) (hm : behindInMarks op b = false := by rfl) : Snd g E H0 X false (.Compare a [op] [b] pos) (mBin f ma mb) := by
  obtain ⟨r, h1, h2⟩ := P.ex
  exact weak (pe_cmpR h1 ha hb hm) (tOp_of h2)
def toB (m : Rs D) : Rs Bool := m.bind fun d B => match d with
  | .bool b => .ok b B
  | _ => .bad
def mCmpT (f : D → D → Bs → Rs D) (ma mb : Ev) : Et := fun σI B => (ma σI B).bind fun x B1 => (mb σI B1).bind fun y B2 => toB (f x y B2)
theorem cmp_end (P : Cmp g E H0 X op f) {w : Wd} {H : Hp} {σI : Sl} {σ : L2.St} {B : Bs} {Q : Bool → Hp → Prop} {x y : D} (p : PostT g E w H Q (toB (f x y B))) :
    PostE g E w H σI σ false (fun x H' => ∃ k, x = .bl k ∧ Q k H') (f x y B) := by
  rcases P.bl x y B with e | ⟨b, B', e⟩
  · rw [e] at p; exact p.elim
  · rw [e] at p ⊢
    intro w' v H' x rb r
    simp only [RepB, Rep] at r
    exact ⟨b, r, p w' H' x rb⟩
theorem t_cmp (P : Cmp g E H0 X op f) (ha : Snd g E H0 X b1 a ma) (hb : Snd g E H0 X b2 b mb) (hm : behindInMarks op b = false := by rfl) : SndT g E H0 X (.Compare a [op] [b] pos) (mCmpT f ma mb) := by
  obtain ⟨r, h1, h2⟩ := id P.ex
  refine weakT (pt_cmpR h1 ha hb hm) ?_
  rintro σ H Q ⟨w, σI, B, s, p⟩
  refine tI_bindT s p fun d B1 w1 v H1 x1 s1 r1 p1 => ?_
  refine tI_bindT s1 p1 fun d2 B2 w2 v2 H2 x2 s2 r2 p2 => ?_
  exact h2 w2 σI B2 σ H2 _ v v2 d d2 s2 (r1.up.mono x2.le) r2.up (cmp_end P p2)
def mChain (f f' : D → D → Bs → Rs D) (ma mb mc : Ev) : Ev := fun σI B => (ma σI B).bind fun x B1 => (mb σI B1).bind fun y B2 => (toB (f x y B2)).bind fun k B3 =>
  if k then (mc σI B3).bind fun z B4 => f' y z B4 else .ok (.bool false) B3
theorem chain_at (P : Cmp g E H0 X op f) {w : Wd} {H : Hp} {σI : Sl} {σ : L2.St} {B : Bs} {Q : VK} {x y : D} {k : Bool → Bs → Rs D} (p : PostE g E w H σI σ false Q ((toB (f x y B)).bind k)) :
    PostE g E w H σI σ false (fun z H' => ∃ b w' B', z = .bl b ∧ Ext w H w' H' ∧ RB g w' B' H' ∧ PostE g E w' H' σI σ false Q (k b B')) (f x y B) := by
  rcases P.bl x y B with e | ⟨b, B', e⟩
  · rw [e] at p; exact p.elim
  · rw [e] at p ⊢
    intro w' v H' x rb r
    simp only [RepB, Rep] at r
    exact ⟨b, w', B', r, x, rb, PostE.ext x p⟩
theorem s_chain (P : Cmp g E H0 X op f) (P' : Cmp g E H0 X op' f') (ha : Snd g E H0 X b1 a ma) (hb : Snd g E H0 X b2 b mb) (hc : Snd g E H0 X b3 c mc) (hm : lastMarks [op, op'] [b, c] = false := by with_unfolding_all rfl) :
    Snd g E H0 X false (.Compare a [op, op'] [b, c] pos) (mChain f f' ma mb mc) := by
  obtain ⟨r, h1, h2⟩ := id P.ex
  obtain ⟨r', h1', h2'⟩ := id P'.ex
  refine weak (pe_chain h1 h1' ha hb hc hm) ?_
  rintro σ H Q ⟨w, σI, B, s, p⟩
  refine tI_bind s p fun d B1 w1 v H1 x1 s1 r1 p1 => ?_
  refine tI_bind s1 p1 fun d2 B2 w2 v2 H2 x2 s2 r2 p2 => ?_
  refine h2 w2 σI B2 σ H2 _ v v2 d d2 s2 (r1.up.mono x2.le) r2.up ?_
  have p3 := chain_at P p2
  revert p3
  generalize hm : f d d2 B2 = m
  intro p3
  cases m with
  | bad => exact p3
  | exc _ _ _ => exact p3
  | ok e B3 =>
    intro w' v' H' x rb rr
    obtain ⟨k, w3, B4, rfl, x3, rb3, p4⟩ := p3 w' v' H' x rb rr
    refine ⟨k, rfl, ?_⟩
    have s3 := s2.step x3 rb3
    cases k with
    | false => exact p4 w3 _ H' (Ext.refl _ _) rb3 (rep_bool g w3 false)
    | true =>
      refine tI_bind s3 p4 fun d5 B5 w5 v5 H5 x5 s5 r5 p5 => ?_
      exact h2' w5 σI B5 σ H5 _ v2 v5 d2 d5 s5 (r2.up.mono (x3.le.trans x5.le)) r5.up p5
def mChainT (f f' : D → D → Bs → Rs D) (ma mb mc : Ev) : Et := fun σI B => (ma σI B).bind fun x B1 => (mb σI B1).bind fun y B2 => (toB (f x y B2)).bind fun k B3 =>
  if k then (mc σI B3).bind fun z B4 => toB (f' y z B4) else .ok false B3
end
/-! ### truth -/
def fTru : D → Option Bool
  | .none => some false
  | .bool b => some b
  | .int i => some (i != 0)
  | .str x => if x.length ≤ sizeLine then some ((x.length : Int) != 0) else Option.none
  | .tup ds => some (!ds.isEmpty)
  | .lst ds => some (!ds.isEmpty)
  | .scr ds => some (!ds.isEmpty)
  | _ => Option.none
theorem isE {g : Gs} {w : Wd} {ds : List D} {vs : List V} (r : Reps g w ds vs) : (!ds.isEmpty) = !vs.isEmpty := by
  have := r.len
  cases ds <;> cases vs <;> simp_all
theorem RepO.tru {g : Gs} {w : Wd} {H H0 : Hp} {σI : Sl} {σ : L2.St} {B : Bs} {x : V} {d : D} {k : Bool} (s : S0 g H0 w σI B σ H) (r : RepO g w σI σ d x) (h : fTru d = some k) : TruV g.K x H k := by
  cases d with
  | none => rw [r.none s]; exact (Option.some.inj h).symm
  | bool b => rw [r.bool s]; exact (Option.some.inj h).symm
  | int i => rw [r.int s]; exact (Option.some.inj h).symm
  | str i =>
    rw [r.str s]
    simp only [fTru] at h
    split at h
    · rename_i hl; exact ⟨hl, (Option.some.inj h).symm⟩
    · cases h
  | tup ds => obtain ⟨a, vs, rfl, q, r⟩ := r.tup s; exact .inr (.inl ⟨vs, q, by rw [← isE r]; exact (Option.some.inj h).symm⟩)
  | lst ds => obtain ⟨a, vs, rfl, q, r⟩ := r.lst s; exact .inl ⟨vs, .inl (.inl q), by rw [← isE r]; exact (Option.some.inj h).symm⟩
  | scr ds => obtain ⟨a, vs, rfl, q, r⟩ := r.scr s; exact .inl ⟨vs, q, by rw [← isE r]; exact (Option.some.inj h).symm⟩
  | prs ds => cases h
  | dct ks ds => cases h
  | box n => cases h
  | cls n => cases h
  | ptr n => cases h
  | kd n x => cases h
  | fnT n => cases h
  | exo a dd f x => cases h
  | inst c ds => cases h
def tru (d : D) (B : Bs) : Rs Bool := match fTru d with
  | some b => .ok b B
  | Option.none => .bad
theorem tru_ok' {d : D} {B : Bs} {β : Type} {f : Bool → Bs → Rs β} {P : Rs β → Prop} (hp : P ((tru d B).bind f)) (hb : ¬ P .bad) : ∃ k, fTru d = some k ∧ P (f k B) := by
  unfold tru at hp
  cases h : fTru d with
  | none => rw [h] at hp; exact (hb hp).elim
  | some k => rw [h] at hp; exact ⟨k, rfl, hp⟩
def mT (m : Ev) : Et := fun σI B => (m σI B).bind fun d B1 => tru d B1
section
variable {g : Gs} {E : XK} {H0 : Hp} {X : Cx} {a b c : Expr} {ma mb mc : Ev} {ta tb tc : Et} {pos : Pos} {b1 b2 b3 bo : Bool} {rest : List Expr}
/-- an expression as a test -/
theorem t_val (k : Ok g X) (ha : Snd g E H0 X b1 a ma) (he : ∀ whole, isTrue a X.env whole = (do let v ← whole; standAt a.pos; holding [v] (truthy v)) := by intro _; rfl) : SndT g E H0 X a (mT ma) := by
  refine weakT (pt_truth ha he) ?_
  rintro σ H Q ⟨w, σI, B, s, p⟩
  refine tI_bindT s p fun d B1 w1 v H1 x1 s1 r1 p1 => ?_
  unfold tru at p1
  split at p1
  · rename_i k' e
    exact ⟨k', k.K ▸ r1.up.tru s1 e, p1 w1 H1 (Ext.refl _ _) s1.rb⟩
  · exact p1.elim
def mNotT (t : Et) : Et := fun σI B => (t σI B).bind fun k B1 => .ok (!k) B1
theorem t_not (ha : SndT g E H0 X a ta) : SndT g E H0 X (.UnaryOp .Not a pos) (mNotT ta) := by
  refine weakT (pt_not ha) ?_
  rintro σ H Q ⟨w, σI, B, s, p⟩
  exact tIt_bindT s p fun k B1 w1 H1 x1 s1 p1 => p1 w1 H1 (Ext.refl _ _) s1.rb
def mOrT (t u : Et) : Et := fun σI B => (t σI B).bind fun k B1 => if k then .ok true B1 else u σI B1
theorem w_or1 (ha : SndT g E H0 X a ta) : SndW g E H0 X (.BoolOp .Or [a] pos) ta := pw_or1 ha
theorem w_or (ha : SndT g E H0 X a ta) (hb : SndW g E H0 X (.BoolOp .Or (b :: rest) pos) tb) : SndW g E H0 X (.BoolOp .Or (a :: b :: rest) pos) (mOrT ta tb) := by
  refine weakW (pw_or ha hb) ?_
  rintro σ H Q ⟨w, σI, B, s, p⟩
  refine tIt_bindT s p fun k B1 w1 H1 x1 s1 p1 => ?_
  cases k with
  | false => exact ⟨w1, σI, B1, s1, p1⟩
  | true => exact p1 w1 H1 (Ext.refl _ _) s1.rb
theorem t_w (h : SndW g E H0 X a ta) : SndT g E H0 X a ta := h.pt
/-! as values -/
def mAnd (ma mb : Ev) : Ev := fun σI B => (ma σI B).bind fun d B1 => (tru d B1).bind fun k _ => if k then mb σI B1 else .ok d B1
def mNot (ma : Ev) : Ev := fun σI B => (ma σI B).bind fun d B1 => (tru d B1).bind fun k _ => .ok (.bool (!k)) B1
theorem s_one {o : BoolOp} (ha : Snd g E H0 X b1 a ma) : Snd g E H0 X b1 (.BoolOp o [a] pos) ma := pe_one ha
theorem s_and (k : Ok g X) (ha : Snd g E H0 X false a ma) (hb : Snd g E H0 X false (.BoolOp .And (b :: rest) pos) mb) : Snd g E H0 X false (.BoolOp .And (a :: b :: rest) pos) (mAnd ma mb) := by
  refine weak (pe_andT ha hb) ?_
  rintro σ H Q ⟨w, σI, B, s, p⟩
  refine tI_bind s p fun d B1 w1 v H1 x1 s1 r1 p1 => ?_
  obtain ⟨k', e, p2⟩ := tru_ok' (P := fun m => PostE g E w1 H1 σI σ false Q m) p1 (fun h => h)
  refine ⟨k', k.K ▸ r1.up.tru s1 e, ?_⟩
  cases k' with
  | true => exact ⟨w1, σI, B1, s1, p2⟩
  | false => exact p2 w1 v H1 (Ext.refl _ _) s1.rb r1
theorem s_not (k : Ok g X) (ha : Snd g E H0 X b1 a ma) : Snd g E H0 X false (.UnaryOp .Not a pos) (mNot ma) := by
  refine weak (pe_notT ha) ?_
  rintro σ H Q ⟨w, σI, B, s, p⟩
  refine tI_bind s p fun d B1 w1 v H1 x1 s1 r1 p1 => ?_
  obtain ⟨k', e, p2⟩ := tru_ok' (P := fun m => PostE g E w1 H1 σI σ false Q m) p1 (fun h => h)
  exact ⟨k', k.K ▸ r1.up.tru s1 e, p2 w1 _ H1 (Ext.refl _ _) s1.rb (rep_bool g w1 _)⟩
def mIte (t : Et) (ma mb : Ev) : Ev := fun σI B => (t σI B).bind fun k B1 => if k then ma σI B1 else mb σI B1
theorem s_ite (hc : SndT g E H0 X c tc) (ha : Snd g E H0 X bo a ma) (hb : Snd g E H0 X bo b mb) : Snd g E H0 X bo (.IfExp c a b pos) (mIte tc ma mb) := by
  refine weak (pe_ifExp hc ha hb) ?_
  rintro σ H Q ⟨w, σI, B, s, p⟩
  refine tIt_bind s p fun k B1 w1 H1 x1 s1 p1 => ?_
  cases k with
  | true => exact ⟨w1, σI, B1, s1, p1⟩
  | false => exact ⟨w1, σI, B1, s1, p1⟩
def mNeg (ma : Ev) : Ev := fun σI B => (ma σI B).bind fun d B1 => match d with
  | .int i => .ok (.int (-i)) B1
  | _ => .bad
theorem s_neg (ha : Snd g E H0 X b1 a ma) : Snd g E H0 X false (.UnaryOp .USub a pos) (mNeg ma) := by
  refine weak (pe_un un_neg ha) ?_
  rintro σ H Q ⟨w, σI, B, s, p⟩
  refine tI_bind s p fun d B1 w1 v H1 x1 s1 r1 p1 => ?_
  cases d <;> first | exact p1.elim | skip
  rename_i i
  exact ⟨i, r1.up.int s1, p1 w1 _ H1 (Ext.refl _ _) s1.rb (rep_int g w1 _)⟩

/-! ### argument lists, displays -/
def mNil : Evs := fun _ B => .ok [] B
def mCons (m : Ev) (ms : Evs) : Evs := fun σI B => (m σI B).bind fun d B1 => (ms σI B1).bind fun ds B2 => .ok (d :: ds) B2
def seqOf : D → Option (List D)
  | .tup ds => some ds
  | .lst ds => some ds
  | _ => Option.none
def mStar (m : Ev) (ms : Evs) : Evs := fun σI B => (m σI B).bind fun d B1 => match seqOf d with
  | some ds => (ms σI B1).bind fun es B2 => .ok (ds ++ es) B2
  | Option.none => .bad
variable {e : Expr} {es : List Expr} {m : Ev} {ms : Evs}
theorem a_nil : Snds g E H0 X [] mNil := weakA pa_nil fun σ H Q ⟨w, σI, B, s, p⟩ => p w [] H (Ext.refl _ _) s.rb (by simp only [Reps])
theorem a_cons (he : Snd g E H0 X false e m) (hr : Snds g E H0 X es ms) (hs : starEach (e :: es) X.env = (false, eval e X.env) :: starEach es X.env := by rfl) : Snds g E H0 X (e :: es) (mCons m ms) := by
  refine weakA (pa_cons he hr hs) ?_
  rintro σ H Q ⟨w, σI, B, s, p⟩
  refine tI_bindA s p fun d B1 w1 v H1 x1 s1 r1 p1 => ?_
  refine tIs_bindA s1 p1 fun ds B2 w2 vs H2 x2 s2 r2 p2 => ?_
  refine p2 w2 _ H2 (Ext.refl _ _) s2.rb ?_
  simp only [Reps]
  exact ⟨v, vs, rfl, Rep.mono x2.le _ _ r1, r2⟩
theorem a_star {p1 : Pos} (k : Ok g X) (he : Snd g E H0 X false e m) (hr : Snds g E H0 X es ms) (hs : starEach (.Starred e p1 :: es) X.env = (true, eval e X.env) :: starEach es X.env := by rfl) : Snds g E H0 X (.Starred e p1 :: es) (mStar m ms) := by
  refine weakA (StX.pa_star he hr hs) ?_
  rintro σ H Q ⟨w, σI, B, s, p⟩
  refine tI_bindA s p fun d B1 w1 v H1 x1 s1 r1 p1 => ?_
  cases hd : seqOf d with
  | none => rw [hd] at p1; exact p1.elim
  | some ds =>
    rw [hd] at p1
    have hv : ∃ a vs, v = V.ref a ∧ (SqT X.K H1 a vs ∨ SqL X.K H1 a vs) ∧ Reps g w1 ds vs := by
      cases d <;> simp [seqOf] at hd
      · subst hd
        obtain ⟨a, vs, e, q, r⟩ := (RepB.up r1).tup s1
        exact ⟨a, vs, e, .inl (k.K ▸ q), r⟩
      · subst hd
        obtain ⟨a, vs, e, q, r⟩ := (RepB.up r1).lst s1
        exact ⟨a, vs, e, .inr (.inl (.inl q)), r⟩
    obtain ⟨a, vs, e, q, r⟩ := hv
    refine ⟨a, vs, e, q, ?_⟩
    refine tIs_bindA s1 p1 fun es B2 w2 us H2 x2 s2 r2 p2 => ?_
    exact p2 w2 _ H2 (Ext.refl _ _) s2.rb (Reps.app (Reps.mono x2.le _ _ r) r2)
end
end Hf

set_option Elab.async false
set_option linter.all false
set_option maxRecDepth 100000
set_option maxHeartbeats 4000000
namespace Hf
open PySem PySem.Spec PyProof.Rows L2

/-! ### fresh containers -/
def PostF (g : Gs) (E : XK) (w : Wd) (H : Hp) (Q : VK) : Rs D → Prop
  | .ok d B' => ∀ w' a o H', Ext w H w' H' → RB g w' B' H' → H' a = some o → Cont g w' d a o → H a = Option.none → w'.P a = Option.none → (∀ n, w'.io n ≠ some a) → (∀ c ds, d ≠ .inst c ds) → Q (.ref a) H'
  | .exc c x B' => ∀ w' cls dd H', Ext w H w' H' → RB g w' B' H' → ExcR g w' c x cls dd H' → E cls dd H'
  | .bad => False
def tF (g : Gs) (E : XK) (H0 : Hp) (m : Ev) : TE := fun σ H Q => ∃ w σI B, S0 g H0 w σI B σ H ∧ PostF g E w H Q (m σI B)
/-- the expression makes a new container -/
abbrev SndF (g : Gs) (E : XK) (H0 : Hp) (X : Cx) (e : Expr) (m : Ev) : Prop := PE X e (tF g E H0 m)
section
variable {g : Gs} {E : XK} {H0 : Hp} {w w1 : Wd} {H H1 : Hp} {σI : Sl} {σ : L2.St} {bo bo1 : Bool} {Q : VK}
theorem PostF.ext (x : Ext w H w1 H1) : ∀ {m : Rs D}, PostF g E w H Q m → PostF g E w1 H1 Q m
  | .ok _ _, h => fun w2 a o H2 x2 rb2 e c n p i z => h w2 a o H2 (x.trans x2) rb2 e c (Classical.byContradiction fun q => x.there a q n) p i z
  | .exc _ _ _, h => fun w2 cls dd H2 x2 rb2 r2 => h w2 cls dd H2 (x.trans x2) rb2 r2
  | .bad, h => h
theorem Cont.rep {d : D} {o : HO} {a : Addr} (c : Cont g w d a o) (hp : w.P a = some o) (z : ∀ c ds, d ≠ .inst c ds) : Rep g w d (.ref a) := by
  cases d <;> simp only [Cont] at c
  · obtain ⟨vs, rfl, r⟩ := c; simp only [Rep]; exact ⟨a, vs, rfl, hp, r⟩
  · obtain ⟨xs, rfl, q⟩ := c; simp only [Rep]; exact ⟨a, xs, rfl, hp, q⟩
  · exact (z _ _ rfl).elim
/-- from now on it is persistent -/
theorem reg_ext {w' : Wd} {H' : Hp} {a : Addr} {o : HO} {B' : Bs} (x : Ext w H w' H') (rb : RB g w' B' H') (e : H' a = some o) (n : H a = Option.none) (p : w'.P a = Option.none) (i : ∀ n, w'.io n ≠ some a) (ho : Nt o) :
    Ext w H (regW w' a o) H' ∧ RB g (regW w' a o) B' H' := by
  have l := regLe w' (o := o) p
  refine ⟨⟨x.le.trans l, x.keep, fun b u h => ?_, x.iof, x.there, x.me⟩, rb.keep l rfl (fun b u h => ?_) (Same.refl _) (fun n b h => ?_) (nt_reg rb.nt ho.t)⟩
  · by_cases hb : b = a
    · subst hb; exact .inr (.inl n)
    · have h : upd w'.P a o b = some u := h
      rw [upd_ne hb] at h
      exact x.pf b u h
  · by_cases hb : b = a
    · subst hb
      have h : upd w'.P b o b = some u := h
      rw [upd_same] at h; cases h; exact e
    · have h : upd w'.P a o b = some u := h
      rw [upd_ne hb] at h
      exact rb.sub b u h
  · show upd w'.P a o b = Option.none
    rw [upd_ne (fun z => i n (by rw [← z]; exact h))]
    exact rb.np n b h
theorem PostF.of : ∀ {m : Rs D}, PostE g E w H σI σ false Q m → PostF g E w H Q m
  | .ok d B', h => fun w' a o H' x rb e c n p i z => by
    obtain ⟨x2, rb2⟩ := reg_ext x rb e n p i c.nt
    exact h (regW w' a o) _ H' x2 rb2 ((c.mono (regLe w' p)).rep upd_same z)
  | .exc _ _ _, h => h
  | .bad, h => h
variable {X : Cx} {e : Expr} {m : Ev}
theorem f_val (h : SndF g E H0 X e m) : Snd g E H0 X false e m := weak h fun σ H Q ⟨w, σI, B, s, p⟩ => ⟨w, σI, B, s, PostF.of p⟩
theorem PostF.newL {ds : List D} {vs : List V} {p : Addr} {B : Bs} (s : S0 g H0 w σI B σ H) (h : PostF g E w H Q (.ok (.lst ds) B)) (r : Reps g w ds vs) (hp : H p = Option.none) : Q (.ref p) (upd H p (.lst vs)) :=
  h w p _ _ (Ext.lay hp) (s.rb.lay hp) upd_same (by simp only [Cont]; exact ⟨vs, rfl, r⟩) hp (s.rb.fresh_P hp) (s.rb.fresh_io hp) (by simp)
theorem tI_bindF {m : Ev} {f : D → Bs → Rs D} {B : Bs} {Q1 : VK} (s : S0 g H0 w σI B σ H) (p : PostF g E w H Q ((m σI B).bind f))
    (ho : ∀ d B1 w1 v H1, Ext w H w1 H1 → S0 g H0 w1 σI B1 σ H1 → RepB g w1 σI σ bo d v → PostF g E w1 H1 Q (f d B1) → Q1 v H1) : tI g E H0 bo m σ H Q1 := by
  refine tI_go s (fun c x B1 q => ?_) (fun q => ?_) fun d B1 q w1 v H1 x s1 r => ?_
  · rw [q] at p; exact p
  · rw [q] at p; exact p
  · rw [q] at p; exact ho d B1 w1 v H1 x s1 r (PostF.ext x p)
theorem tIs_bindF {m : Evs} {f : List D → Bs → Rs D} {B : Bs} {Q1 : List V → Hp → Prop} (s : S0 g H0 w σI B σ H) (p : PostF g E w H Q ((m σI B).bind f))
    (ho : ∀ d B1 w1 v H1, Ext w H w1 H1 → S0 g H0 w1 σI B1 σ H1 → Reps g w1 d v → PostF g E w1 H1 Q (f d B1) → Q1 v H1) : tIs g E H0 m σ H Q1 := by
  refine tIs_go s (fun c x B1 q => ?_) (fun q => ?_) fun d B1 q w1 v H1 x s1 r => ?_
  · rw [q] at p; exact p
  · rw [q] at p; exact p
  · rw [q] at p; exact ho d B1 w1 v H1 x s1 r (PostF.ext x p)
variable {es : List Expr} {ms : Evs} {pos : Pos}
def szL (ds : List D) : Bool := decide (ds.length ≤ sizeLine)
def mTup (ms : Evs) : Ev := fun σI B => (ms σI B).bind fun ds B1 => if szL ds then .ok (.tup ds) B1 else .bad
def mLst (ms : Evs) : Ev := fun σI B => (ms σI B).bind fun ds B1 => if szL ds then .ok (.lst ds) B1 else .bad
/-- (a, b, ..): what is made has no dict -/
def tTupN (t : TA) : TE := fun σ H Q => t σ H fun xs H1 => xs.length ≤ sizeLine ∧ ∀ p (ob : Obj), H1 p = Option.none → ob.dict = Option.none → Q (.ref p) (upd H1 p (.frz ob (.tup xs)))
theorem pe_tupN {t : TA} {x1} (h : PA X es t) : PE X (.Tuple es x1 pos) (tTupN t) := by
  refine ⟨fun pins s σ H Q I h0 => ?_⟩
  refine wpAny_Tuple_spliced (thn (h.run pos pins s σ H _ I h0) fun ws s1 ⟨xs, H1, I1, r, z, q⟩ => ⟨by rw [← r.length]; exact z, ?_⟩)
  exact ⟨.ref s1.heap.objs.size, upd H1 s1.heap.objs.size _, I1.laid (t' := s1.toks) (o := .frz { cls := .type "tuple", data := .seq ws.toArray } (.tup xs)) (fun c oc qc => Heap.get?_push_of_some _ qc) (Nat.le_refl _)
    (frz_tup z r (Heap.get?_push_size _ rfl)), rfl, q _ _ (I1.hok.fresh (Nat.le_refl _)) rfl⟩
theorem s_tup {x1} (h : Snds g E H0 X es ms) : Snd g E H0 X false (.Tuple es x1 pos) (mTup ms) := by
  refine weak (pe_tupN h) ?_
  rintro σ H Q ⟨w, σI, B, s, p⟩
  refine tIs_bind s p fun ds B1 w1 vs H1 x1 s1 r1 p1 => ?_
  split at p1
  · rename_i hl
    exact ⟨by rw [r1.len]; exact of_decide_eq_true hl, fun q ob hq ho => p1.newT s1 r1 hq ho⟩
  · exact p1.elim
theorem f_lst (h : Snds g E H0 X es ms) : SndF g E H0 X (.List es pos) (mLst ms) := by
  refine weak (pe_lst h) ?_
  rintro σ H Q ⟨w, σI, B, s, p⟩
  refine tIs_bindF s p fun ds B1 w1 vs H1 x1 s1 r1 p1 => ?_
  split at p1
  · rename_i hl
    exact ⟨by rw [r1.len]; exact of_decide_eq_true hl, fun q hq => p1.newL s1 r1 hq⟩
  · exact p1.elim
end

/-! ### subscripts -/
def okIf (o : Option D) (B : Bs) : Rs D := match o with
  | some d => .ok d B
  | Option.none => .bad
def fIx : D → D → Bs → Rs D
  | .lst ds, .int i, B => okIf (atI ds i) B
  | .scr ds, .int i, B => okIf (atI ds i) B
  | .tup ds, .int i, B => okIf (atI ds i) B
  | .str z, .int i, B => if z.length ≤ sizeLine then okIf ((atI z.cps.toList i).map fun c => .str ⟨#[c]⟩) B else .bad
  | .box n, .int i, B => match B[n]? with
    | some (.lst ds) => okIf (atI ds i) B
    | _ => .bad
  | _, _, _ => .bad
theorem okIf_go {g : Gs} {E : XK} {w : Wd} {H : Hp} {σI : Sl} {σ : L2.St} {Q : VK} {o : Option D} {B : Bs} (p : PostE g E w H σI σ false Q (okIf o B)) : ∃ d, o = some d ∧ PostE g E w H σI σ false Q (.ok d B) := by
  cases o with
  | none => exact p.elim
  | some d => exact ⟨d, rfl, p⟩
theorem Reps.atI {g : Gs} {w : Wd} {ds : List D} {vs : List V} {i : Int} {d : D} (r : Reps g w ds vs) (e : L2.atI ds i = some d) : ∃ v, L2.atI vs i = some v ∧ Rep g w d v := by
  unfold L2.atI at e ⊢
  rw [r.len]
  cases h : ixN ds.length i with
  | none => rw [h] at e; cases e
  | some j =>
    rw [h] at e
    exact Reps.get r e
theorem os_ix {g : Gs} {E : XK} {H0 : Hp} : OpSem g E H0 (rIx g.K) fIx := by
  intro w σI B σ H Q x y dx dy s rx ry p
  unfold fIx at p
  split at p
  · obtain ⟨d, e, p⟩ := okIf_go p
    obtain ⟨a, vs, rfl, q, r⟩ := rx.lst s
    obtain ⟨v, e2, rv⟩ := r.atI e
    exact .inl ⟨a, vs, _, v, rfl, ry.int s, .inl (.inl q), e2, p.nowR s rv⟩
  · obtain ⟨d, e, p⟩ := okIf_go p
    obtain ⟨a, vs, rfl, q, r⟩ := rx.scr s
    obtain ⟨v, e2, rv⟩ := r.atI e
    exact .inl ⟨a, vs, _, v, rfl, ry.int s, q, e2, p.nowR s rv⟩
  · obtain ⟨d, e, p⟩ := okIf_go p
    obtain ⟨a, vs, rfl, q, r⟩ := rx.tup s
    obtain ⟨v, e2, rv⟩ := r.atI e
    exact .inr (.inl ⟨a, vs, _, v, rfl, ry.int s, q, e2, p.nowR s rv⟩)
  · split at p
    · rename_i hl
      obtain ⟨d, e, p⟩ := okIf_go p
      obtain ⟨c, e1, rfl⟩ := Option.map_eq_some_iff.mp e
      exact .inr (.inr ⟨_, _, c, rx.str s, ry.int s, hl, e1, p.nowR s (rep_str g w _)⟩)
    · exact p.elim
  · split at p
    · rename_i n i ds hb
      obtain ⟨d, e, p⟩ := okIf_go p
      obtain ⟨a, rfl, ha⟩ := rx.box s
      obtain ⟨a', o, h1, h2, c⟩ := s.rb.get _ _ hb
      rw [ha] at h1; cases h1
      simp only [Cont] at c
      obtain ⟨vs, rfl, r⟩ := c
      obtain ⟨v, e2, rv⟩ := r.atI e
      exact .inl ⟨a, vs, _, v, rfl, ry.int s, .inl (.inl h2), e2, p.nowR s rv⟩
    · exact p.elim
  · exact p.elim
section
variable {g : Gs} {E : XK} {H0 : Hp} {X : Cx} {a b e : Expr} {ma mb m ml mh : Ev} {pos p2 : Pos} {b1 b2 b3 : Bool}
theorem s_ix (k : Ok g X) (ha : Snd g E H0 X b1 a ma) (hb : Snd g E H0 X b2 b mb) (hs : PlainIx b := by exact fun _ _ => rfl) : Snd g E H0 X false (.Subscript a b pos) (mBin fIx ma mb) := weak (pe_ix (k.K ▸ ix_seq) ha hb hs) (tOp_of os_ix)
/-! ### slices -/
def cut {α : Type} (xs : List α) (lo hi : Option Int) : List α := (xs.drop (HT.sIx xs.length 0 lo)).take (HT.sIx xs.length xs.length hi - HT.sIx xs.length 0 lo)
def fSl : D → Option Int → Option Int → Bs → Rs D
  | .lst ds, lo, hi, B => .ok (.lst (cut ds lo hi)) B
  | .tup ds, lo, hi, B => .ok (.tup (cut ds lo hi)) B
  | .str z, lo, hi, B => if z.length ≤ sizeLine then .ok (.str (cutS z lo hi)) B else .bad
  | .box n, lo, hi, B => match B[n]? with
    | some (.lst ds) => .ok (.lst (cut ds lo hi)) B
    | _ => .bad
  | _, _, _, _ => .bad
theorem Reps.cut {w : Wd} {ds : List D} {vs : List V} (lo hi : Option Int) (r : Reps g w ds vs) : Reps g w (cut ds lo hi) (cutV vs lo hi) := by
  unfold Hf.cut cutV
  rw [r.len]
  exact Reps.take _ (Reps.drop _ r)
/-- t[lo:hi]: the whole of it is t itself, a part has no dict -/
def rSlN (K : PySem.W.Frag) : V → Option Int → Option Int → Hp → VK → Prop := fun x lo hi H Q => ∃ a xs, x = .ref a ∧ SqT K H a xs ∧
  (HT.sIx xs.length 0 lo = 0 ∧ HT.sIx xs.length xs.length hi = xs.length → Q (.ref a) H) ∧ (¬ (HT.sIx xs.length 0 lo = 0 ∧ HT.sIx xs.length xs.length hi = xs.length) → ∀ p (ob : Obj), H p = Option.none → ob.dict = Option.none → Q (.ref p) (upd H p (.frz ob (.tup (cutV xs lo hi)))))
theorem sl_tupN : SlR X (rSlN X.K) := by
  intro pins s σ H x v vl vu lo hi sl Q I rx hs pl pu h
  obtain ⟨a, xs, rfl, hx, q1, q2⟩ := h
  cases rx
  obtain ⟨us, r, ht, hz⟩ := I.tuple hx
  have hl : us.toArray.size = xs.length := by rw [List.size_toArray, r.length]
  refine ⟨"tuple", _, PyProof.Rows.slot_tuple_getitem.lookup, ht.typeIs, ?_⟩
  by_cases hw : HT.sIx xs.length 0 lo = 0 ∧ HT.sIx xs.length xs.length hi = xs.length
  · exact getItem_tuple_whole ht hs pl pu (by rw [hl]; exact hw) ⟨.ref a, H, I, rfl, q1 hw⟩
  · refine HT.getItem_tuple_cut ht hs pl pu (by rw [hl]; exact hw) ?_ (by rw [hl]; exact hz)
    rw [hl]
    exact ⟨.ref s.heap.objs.size, upd H s.heap.objs.size _, I.laid (t' := s.toks) (o := .frz { cls := .type "tuple", data := .seq ((us.drop (HT.sIx xs.length 0 lo)).take (HT.sIx xs.length xs.length hi - HT.sIx xs.length 0 lo)).toArray } (.tup (cutV xs lo hi))) (fun c oc qc => Heap.get?_push_of_some _ qc) (Nat.le_refl _)
      (frz_tup (Nat.le_trans (cutV_length xs lo hi) hz) ((r.drop _).take _) (Heap.get?_push_size _ rfl)), rfl, q2 hw _ _ (I.hok.fresh (Nat.le_refl _)) rfl⟩
def rSlAll (K : PySem.W.Frag) : V → Option Int → Option Int → Hp → VK → Prop := fun x lo hi H Q => rSlL K x lo hi H Q ∨ rSlN K x lo hi H Q ∨ rSlS x lo hi H Q
theorem sl_all : SlR X (rSlAll X.K) := sl_list.or (sl_tupN.or sl_str)
theorem sl_sem {w : Wd} {σI : Sl} {B : Bs} {σ : L2.St} {H : Hp} {Q : VK} {x : V} {d : D} {lo hi : Option Int} (s : S0 g H0 w σI B σ H) (rx : RepO g w σI σ d x) (p : PostE g E w H σI σ false Q (fSl d lo hi B)) : rSlAll g.K x lo hi H Q := by
  unfold fSl at p
  split at p
  · obtain ⟨a, vs, rfl, q, r⟩ := rx.lst s
    exact .inl ⟨a, vs, rfl, .inl (.inl q), fun q hq => p.newL s (r.cut _ _) hq⟩
  · obtain ⟨a, vs, rfl, q, r⟩ := rx.tup s
    refine .inr (.inl ⟨a, vs, rfl, q, fun h => ?_, fun _ q ob hq ho => p.newT s (r.cut _ _) hq ho⟩)
    have r2 := rx.tupR s
    have e : ∀ ds : List D, vs.length = ds.length → cut ds lo hi = ds := fun ds e => by
      unfold cut
      rw [← e, h.1, h.2, List.drop_zero, Nat.sub_zero, e, List.take_length]
    rw [e _ r.len] at p
    exact p.nowR s r2
  · split at p
    · rename_i hl
      exact .inr (.inr ⟨_, rx.str s, hl, p.nowR s (rep_str g w _)⟩)
    · exact p.elim
  · split at p
    · rename_i n lo hi ds hb
      obtain ⟨a, rfl, ha⟩ := rx.box s
      obtain ⟨a', o, h1, h2, c⟩ := s.rb.get _ _ hb
      rw [ha] at h1; cases h1
      simp only [Cont] at c
      obtain ⟨vs, rfl, r⟩ := c
      exact .inl ⟨a, vs, rfl, .inl (.inl h2), fun q hq => p.newL s (r.cut _ _) hq⟩
    · exact p.elim
  · exact p.elim
def asI (d : D) (B : Bs) : Rs Int := match d with
  | .int i => .ok i B
  | _ => .bad
def mSl10 (m ml : Ev) : Ev := fun σI B => (m σI B).bind fun d B1 => (ml σI B1).bind fun l B2 => (asI l B2).bind fun i B3 => fSl d (some i) none B3
def mSl01 (m mh : Ev) : Ev := fun σI B => (m σI B).bind fun d B1 => (mh σI B1).bind fun l B2 => (asI l B2).bind fun i B3 => fSl d none (some i) B3
def mSl11 (m ml mh : Ev) : Ev := fun σI B => (m σI B).bind fun d B1 => (ml σI B1).bind fun l B2 => (asI l B2).bind fun i B3 => (mh σI B3).bind fun h B4 => (asI h B4).bind fun j B5 => fSl d (some i) (some j) B5
theorem asI_go {w : Wd} {σI : Sl} {B B2 : Bs} {σ : L2.St} {H : Hp} {Q : VK} {d : D} {v : V} {f : Int → Bs → Rs D} (s : S0 g H0 w σI B2 σ H) (r : RepO g w σI σ d v) (p : PostE g E w H σI σ false Q ((asI d B).bind f)) :
    ∃ i, v = .int i ∧ PostE g E w H σI σ false Q (f i B) := by
  cases d <;> first | exact p.elim | skip
  exact ⟨_, r.int s, p⟩
theorem s_sl10 (k : Ok g X) {l : Expr} (he : Snd g E H0 X b1 e m) (hl : Snd g E H0 X b2 l ml) : Snd g E H0 X false (.Subscript e (.Slice (some l) none none p2) pos) (mSl10 m ml) := by
  refine weak (pe_slice (k.K ▸ sl_all) he (po_some hl) po_none) ?_
  rintro σ H Q ⟨w, σI, B, s, p⟩
  refine tI_bind s p fun d B1 w1 v H1 x1 s1 r1 p1 => ?_
  refine tI_bind s1 p1 fun d2 B2 w2 v2 H2 x2 s2 r2 p2 => ?_
  obtain ⟨i, rfl, p3⟩ := asI_go s2 r2.up p2
  exact ⟨i, rfl, sl_sem s2 (r1.up.mono x2.le) p3⟩
theorem s_sl01 (k : Ok g X) {h : Expr} (he : Snd g E H0 X b1 e m) (hh : Snd g E H0 X b2 h mh) : Snd g E H0 X false (.Subscript e (.Slice none (some h) none p2) pos) (mSl01 m mh) := by
  refine weak (pe_slice (k.K ▸ sl_all) he po_none (po_some hh)) ?_
  rintro σ H Q ⟨w, σI, B, s, p⟩
  refine tI_bind s p fun d B1 w1 v H1 x1 s1 r1 p1 => ?_
  refine tI_bind s1 p1 fun d2 B2 w2 v2 H2 x2 s2 r2 p2 => ?_
  obtain ⟨i, rfl, p3⟩ := asI_go s2 r2.up p2
  exact ⟨i, rfl, sl_sem s2 (r1.up.mono x2.le) p3⟩
theorem s_sl11 (k : Ok g X) {l h : Expr} (he : Snd g E H0 X b1 e m) (hl : Snd g E H0 X b2 l ml) (hh : Snd g E H0 X b3 h mh) : Snd g E H0 X false (.Subscript e (.Slice (some l) (some h) none p2) pos) (mSl11 m ml mh) := by
  refine weak (pe_slice (k.K ▸ sl_all) he (po_some hl) (po_some hh)) ?_
  rintro σ H Q ⟨w, σI, B, s, p⟩
  refine tI_bind s p fun d B1 w1 v H1 x1 s1 r1 p1 => ?_
  refine tI_bind s1 p1 fun d2 B2 w2 v2 H2 x2 s2 r2 p2 => ?_
  obtain ⟨i, rfl, p3⟩ := asI_go s2 r2.up p2
  refine ⟨i, rfl, tI_bind s2 p3 fun d3 B3 w3 v3 H3 x3 s3 r3 p4 => ?_⟩
  obtain ⟨j, rfl, p5⟩ := asI_go s3 r3.up p4
  exact ⟨j, rfl, sl_sem s3 (r1.up.mono (x2.le.trans x3.le)) p5⟩
end

/-! ### built-in functions -/
/-- a built-in by values: one argument -/
def One (g : Gs) (E : XK) (H0 : Hp) (X : Cx) (f : Value) (k : D → Bs → Rs D) : Prop := ∃ r, CallR X f r ∧ ∀ (w : Wd) (σI : Sl) (B : Bs) (σ : L2.St) (H : Hp) (Q : VK) (x : V) (d : D),
  S0 g H0 w σI B σ H → RepO g w σI σ d x → PostE g E w H σI σ false Q (k d B) → r [x] H Q
def Two (g : Gs) (E : XK) (H0 : Hp) (X : Cx) (f : Value) (k : D → D → Bs → Rs D) : Prop := ∃ r, CallR X f r ∧ ∀ (w : Wd) (σI : Sl) (B : Bs) (σ : L2.St) (H : Hp) (Q : VK) (x y : V) (d e : D),
  S0 g H0 w σI B σ H → RepO g w σI σ d x → RepO g w σI σ e y → PostE g E w H σI σ false Q (k d e B) → r [x, y] H Q
/-- .. that makes a new list -/
def OneF (g : Gs) (E : XK) (H0 : Hp) (X : Cx) (f : Value) (k : D → Bs → Rs D) : Prop := ∃ r, CallR X f r ∧ ∀ (w : Wd) (σI : Sl) (B : Bs) (σ : L2.St) (H : Hp) (Q : VK) (x : V) (d : D),
  S0 g H0 w σI B σ H → RepO g w σI σ d x → PostF g E w H Q (k d B) → r [x] H Q
section
variable {g : Gs} {E : XK} {H0 : Hp} {X : Cx} {a b e : Expr} {ma mb m : Ev} {pos p1 : Pos} {b1 b2 : Bool} {x : Str} {id T : String} {k : D → Bs → Rs D} {k2 : D → D → Bs → Rs D}
def m1 (k : D → Bs → Rs D) (m : Ev) : Ev := fun σI B => (m σI B).bind k
theorem one_go {r : List V → Hp → VK → Prop} (hr : ∀ (w : Wd) (σI : Sl) (B : Bs) (σ : L2.St) (H : Hp) (Q : VK) (x : V) (d : D), S0 g H0 w σI B σ H → RepO g w σI σ d x → PostE g E w H σI σ false Q (k d B) → r [x] H Q) :
    ∀ σ H Q, tI g E H0 false (m1 k m) σ H Q → tCB r (tCons (tI g E H0 b1 m) tNil) σ H Q := by
  rintro σ H Q ⟨w, σI, B, s, p⟩
  exact tI_bind s p fun d B1 w1 v H1 x1 s1 r1 p1 => hr w1 σI B1 σ H1 Q v d s1 r1.up p1
theorem s_b1 (h : One g E H0 X (.builtin id) k) (hv : bootBuiltins x = some (.builtin id)) (hm : X.mg x = none) (he : Snd g E H0 X b1 e m) (hg : Gl X x := by rfl) (hn : x ≠ "__name__" := by decide) (hdb : (x == ("__debug__" : Str)) = false := by decide)
    (h1 : starEach (e :: []) X.env = (false, eval e X.env) :: starEach [] X.env := by rfl) : Snd g E H0 X false (.Call (.Name x p1) [e] [] pos) (m1 k m) := by
  obtain ⟨r, hc, hr⟩ := h
  exact weak (pe_callB hc hg hm hv (pa_cons he pa_nil h1) hn hdb h1 rfl) (one_go hr)
theorem s_ty1 (h : One g E H0 X (.type T) k) (hv : bootBuiltins x = some (.type T)) (hm : X.mg x = none) (he : Snd g E H0 X b1 e m) (hg : Gl X x := by rfl) (hn : x ≠ "__name__" := by decide) (hdb : (x == ("__debug__" : Str)) = false := by decide)
    (h1 : starEach (e :: []) X.env = (false, eval e X.env) :: starEach [] X.env := by rfl) : Snd g E H0 X false (.Call (.Name x p1) [e] [] pos) (m1 k m) := by
  obtain ⟨r, hc, hr⟩ := h
  exact weak (pe_callTy hc hg hm hv (pa_cons he pa_nil h1) hn hdb h1 rfl) (one_go hr)
theorem f_ty1 (h : OneF g E H0 X (.type T) k) (hv : bootBuiltins x = some (.type T)) (hm : X.mg x = none) (he : Snd g E H0 X b1 e m) (hg : Gl X x := by rfl) (hn : x ≠ "__name__" := by decide) (hdb : (x == ("__debug__" : Str)) = false := by decide)
    (h1 : starEach (e :: []) X.env = (false, eval e X.env) :: starEach [] X.env := by rfl) : SndF g E H0 X (.Call (.Name x p1) [e] [] pos) (m1 k m) := by
  obtain ⟨r, hc, hr⟩ := h
  refine weak (pe_callTy hc hg hm hv (pa_cons he pa_nil h1) hn hdb h1 rfl) ?_
  rintro σ H Q ⟨w, σI, B, s, p⟩
  exact tI_bindF s p fun d B1 w1 v H1 x1 s1 r1 p1 => hr w1 σI B1 σ H1 Q v d s1 r1.up p1
theorem s_b2 (h : Two g E H0 X (.builtin id) k2) (hv : bootBuiltins x = some (.builtin id)) (hm : X.mg x = none) (ha : Snd g E H0 X b1 a ma) (hb : Snd g E H0 X b2 b mb) (hg : Gl X x := by rfl) (hn : x ≠ "__name__" := by decide) (hdb : (x == ("__debug__" : Str)) = false := by decide)
    (h1 : starEach (a :: [b]) X.env = (false, eval a X.env) :: starEach [b] X.env := by rfl) (h2 : starEach (b :: []) X.env = (false, eval b X.env) :: starEach [] X.env := by rfl) (hpl : (backTo pos (starEach [b] X.env)).any (·.1) = false := by rfl) :
    Snd g E H0 X false (.Call (.Name x p1) [a, b] [] pos) (mBin k2 ma mb) := by
  obtain ⟨r, hc, hr⟩ := h
  refine weak (pe_callB hc hg hm hv (pa_cons ha (pa_cons hb pa_nil h2) h1) hn hdb h1 hpl) ?_
  rintro σ H Q ⟨w, σI, B, s, p⟩
  refine tI_bind s p fun d B1 w1 v H1 x1 s1 r1 p1 => ?_
  refine tI_bind s1 p1 fun d2 B2 w2 v2 H2 x2 s2 r2 p2 => ?_
  exact hr w2 σI B2 σ H2 Q v v2 d d2 s2 (r1.up.mono x2.le) r2.up p2

def fLen : D → Bs → Rs D
  | .str z, B => if z.length ≤ sizeLine then .ok (.int z.length) B else .bad
  | .tup ds, B => .ok (.int ds.length) B
  | .lst ds, B => .ok (.int ds.length) B
  | .scr ds, B => .ok (.int ds.length) B
  | .box n, B => match B[n]? with
    | some (.lst ds) => .ok (.int ds.length) B
    | _ => .bad
  | _, _ => .bad
theorem o_len (c : Ok g X) : One g E H0 X (.builtin "len") fLen := ⟨_, call_len, fun w σI B σ H Q x d s r p => by
  unfold fLen at p
  split at p
  · split at p
    · rename_i hl
      exact ⟨x, _, rfl, by rw [r.str s]; exact ⟨hl, rfl⟩, p.nowR s (rep_int g w _)⟩
    · exact p.elim
  · obtain ⟨a, vs, rfl, q, r⟩ := r.tup s
    exact ⟨_, _, rfl, .inr ⟨vs, c.K ▸ q, rfl⟩, by rw [r.len]; exact p.nowR s (rep_int g w _)⟩
  · obtain ⟨a, vs, rfl, q, r⟩ := r.lst s
    exact ⟨_, _, rfl, .inl ⟨vs, .inl (.inl q), rfl⟩, by rw [r.len]; exact p.nowR s (rep_int g w _)⟩
  · obtain ⟨a, vs, rfl, q, r⟩ := r.scr s
    exact ⟨_, _, rfl, .inl ⟨vs, c.K ▸ q, rfl⟩, by rw [r.len]; exact p.nowR s (rep_int g w _)⟩
  · split at p
    · rename_i n ds hb
      obtain ⟨a, rfl, ha⟩ := r.box s
      obtain ⟨a', o, h1, h2, c⟩ := s.rb.get _ _ hb
      rw [ha] at h1; cases h1
      simp only [Cont] at c
      obtain ⟨vs, rfl, r⟩ := c
      exact ⟨_, _, rfl, .inl ⟨vs, .inl (.inl h2), rfl⟩, by rw [r.len]; exact p.nowR s (rep_int g w _)⟩
    · exact p.elim
  · exact p.elim⟩
def fTupO : D → Bs → Rs D
  | .tup ds, B => .ok (.tup ds) B
  | .lst ds, B => .ok (.tup ds) B
  | _, _ => .bad
/-- tuple(x): a tuple is itself, of a list a new one without a dict -/
def rTupN (K : PySem.W.Frag) : List V → Hp → VK → Prop := fun xs H Q => ∃ p ys, xs = [.ref p] ∧ ((SqL K H p ys ∧ ∀ l (ob : Obj), H l = Option.none → ob.dict = Option.none → Q (.ref l) (upd H l (.frz ob (.tup ys)))) ∨ (SqT K H p ys ∧ Q (.ref p) H))
theorem call_tupN : CallR X (.type "tuple") (rTupN X.K) := by
  intro pins s σ H xs us Q I r h
  obtain ⟨p, ys, rfl, h⟩ := h
  obtain ⟨u, rfl, rx⟩ := vals1 r
  cases rx
  rcases h with ⟨hq, q⟩ | ⟨hq, q⟩
  · obtain ⟨ws, r', pl, hz⟩ := I.list hq
    have hl := r'.length
    refine call_tuple_list pl.isList (fun h1 kp => ?_) (by simp only [List.size_toArray] <;> omega)
    have I1 : Inv X pins σ H { s with heap := h1 } := I.kept (t' := s.toks) kp
    exact ⟨.ref h1.objs.size, upd H h1.objs.size _, I1.laid (t' := s.toks) (o := .frz { cls := .type "tuple", data := .seq ws.toArray } (.tup ys)) (fun c oc qc => Heap.get?_push_of_some _ qc) (Nat.le_refl _)
      (frz_tup hz r' (Heap.get?_push_size _ rfl)), rfl, q _ _ (I1.hok.fresh (Nat.le_refl _)) rfl⟩
  · obtain ⟨ws, _, pl, _⟩ := I.tuple hq
    exact call_tuple_same pl ⟨.ref p, H, I, rfl, q⟩
theorem o_tuple (c : Ok g X) : One g E H0 X (.type "tuple") fTupO := ⟨_, call_tupN, fun w σI B σ H Q x d s r p => by
  unfold fTupO at p
  split at p
  · have r2 := r.tupR s
    obtain ⟨a, vs, rfl, q, r⟩ := r.tup s
    exact ⟨a, vs, rfl, .inr ⟨c.K ▸ q, p.nowR s r2⟩⟩
  · obtain ⟨a, vs, rfl, q, r⟩ := r.lst s
    exact ⟨a, vs, rfl, .inl ⟨.inl (.inl q), fun l ob hl ho => p.newT s r hl ho⟩⟩
  · exact p.elim⟩
def fLstO : D → Bs → Rs D
  | .tup ds, B => .ok (.lst ds) B
  | .lst ds, B => .ok (.lst ds) B
  | .box n, B => match B[n]? with
    | some (.lst ds) => .ok (.lst ds) B
    | _ => .bad
  | _, _ => .bad
theorem o_list (c : Ok g X) : OneF g E H0 X (.type "list") fLstO := ⟨_, call_list_of, fun w σI B σ H Q x d s r p => by
  unfold fLstO at p
  split at p
  · obtain ⟨a, vs, rfl, q, r⟩ := r.tup s
    exact ⟨a, vs, rfl, .inr (c.K ▸ q), fun l hl => p.newL s r hl⟩
  · obtain ⟨a, vs, rfl, q, r⟩ := r.lst s
    exact ⟨a, vs, rfl, .inl (.inl (.inl q)), fun l hl => p.newL s r hl⟩
  · split at p
    · rename_i n ds hb
      obtain ⟨a, rfl, ha⟩ := r.box s
      obtain ⟨a', o, h1, h2, c⟩ := s.rb.get _ _ hb
      rw [ha] at h1; cases h1
      simp only [Cont] at c
      obtain ⟨vs, rfl, r⟩ := c
      exact ⟨a, vs, rfl, .inl (.inl (.inl h2)), fun l hl => p.newL s r hl⟩
    · exact p.elim
  · exact p.elim⟩
def fStrI : D → Bs → Rs D
  | .int i, B => if i.natAbs.log2 < 1920 then .ok (.str (Str.ofString (toString i))) B else .bad
  | _, _ => .bad
theorem o_str : One g E H0 X (.type "str") fStrI := ⟨_, call_str_int, fun w σI B σ H Q x d s r p => by
  unfold fStrI at p
  split at p
  · split at p
    · rename_i hl
      exact ⟨_, by rw [r.int s], hl, p.nowR s (rep_str g w _)⟩
    · exact p.elim
  · exact p.elim⟩
abbrev fMax2 := fI2 (fun i j => .int (if j > i then j else i)) fun _ _ => true
abbrev fMin2 := fI2 (fun i j => .int (if j < i then j else i)) fun _ _ => true
theorem o_max2 (c : Ok g X) : Two g E H0 X (.builtin "max") fMax2 := ⟨_, call_max2 c.calm, fun w σI B σ H Q x y d e s r1 r2 p => by
  cases d <;> first | exact p.elim | skip
  cases e <;> first | exact p.elim | skip
  exact ⟨_, _, by rw [r1.int s, r2.int s], PostE.nowR s p (rep_int g w _)⟩⟩
theorem o_min2 (c : Ok g X) : Two g E H0 X (.builtin "min") fMin2 := ⟨_, call_min2 c.calm, fun w σI B σ H Q x y d e s r1 r2 p => by
  cases d <;> first | exact p.elim | skip
  cases e <;> first | exact p.elim | skip
  exact ⟨_, _, by rw [r1.int s, r2.int s], PostE.nowR s p (rep_int g w _)⟩⟩
end
end Hf

set_option Elab.async false
set_option linter.all false
set_option maxRecDepth 100000
set_option maxHeartbeats 4000000
namespace Hf
open PySem PySem.Spec PyProof.Rows L2

/-! ### statements -/
inductive Ss where
  | next (σ : Sl) (B : Bs) | ret (d : D) (B : Bs) | exc (c : Nat) (x : Option D) (B : Bs) | bad
abbrev Ms := Sl → Bs → Ss
def Ss.seq (m : Ss) (k : Ms) : Ss := match m with
  | .next σ B => k σ B
  | .ret d B => .ret d B
  | .exc c x B => .exc c x B
  | .bad => .bad
def Rs.st {α : Type} (m : Rs α) (k : α → Bs → Ss) : Ss := match m with
  | .ok a B => k a B
  | .exc c x B => .exc c x B
  | .bad => .bad
def PostS (g : Gs) (E : XK) (w0 : Wd) (H0 : Hp) (w : Wd) (D : Ends) : Ss → Prop
  | .next σI B => ∀ w' σ H, Le w w' → S0 g H0 w' σI B σ H → Ext w0 H0 w' H → D.nx σ H
  | .ret d B => ∀ w v H, RB g w B H → Ext w0 H0 w H → Rep g w d v → D.rt v H
  | .exc c x B => ∀ w cls dd H, RB g w B H → Ext w0 H0 w H → ExcR g w c x cls dd H → E cls dd H
  | .bad => False
def tS (g : Gs) (E : XK) (w0 : Wd) (H0 : Hp) (m : Ms) : TS := fun D σ H => ∃ w σI B, S0 g H0 w σI B σ H ∧ Ext w0 H0 w H ∧ PostS g E w0 H0 w D (m σI B)
abbrev SndS (g : Gs) (E : XK) (w0 : Wd) (H0 : Hp) (X : Cx) (st : Stmt) (m : Ms) : Prop := PS X st (tS g E w0 H0 m)
abbrev SndB (g : Gs) (E : XK) (w0 : Wd) (H0 : Hp) (X : Cx) (st : List Stmt) (m : Ms) : Prop := PSs X st (tS g E w0 H0 m)
theorem weakS {X : Cx} {e : Stmt} {t t' : TS} (h : PS X e t) (k : ∀ D σ H, t' D σ H → t D σ H) : PS X e t' := ⟨fun pins s σ H Q I q => h.run pins s σ H Q I (k Q σ H q)⟩
theorem weakB {X : Cx} {e : List Stmt} {t t' : TS} (h : PSs X e t) (k : ∀ D σ H, t' D σ H → t D σ H) : PSs X e t' := ⟨fun pins s σ H Q I q => h.run pins s σ H Q I (k Q σ H q)⟩

section
variable {g : Gs} {E : XK} {w0 w w1 : Wd} {H H0 H1 : Hp} {σI : Sl} {σ : L2.St} {B : Bs} {bo : Bool} {Q : VK} {D : Ends}
theorem PostS.le (l : Le w w1) : ∀ {m : Ss}, PostS g E w0 H0 w D m → PostS g E w0 H0 w1 D m
  | .next _ _, h => fun w' σ H l' s x => h w' σ H (l.trans l') s x
  | .ret _ _, h => h
  | .exc _ _ _, h => h
  | .bad, h => h
/-- an expression at the head of a statement -/
theorem st_go {m : Ev} {f : Hf.D → Bs → Ss} {Q1 : VK} (s : S0 g H0 w σI B σ H) (x0 : Ext w0 H0 w H) (p : PostS g E w0 H0 w D ((m σI B).st f))
    (ho : ∀ d B1 w1 v H1, Ext w0 H0 w1 H1 → Ext w H w1 H1 → S0 g H0 w1 σI B1 σ H1 → RepB g w1 σI σ bo d v → PostS g E w0 H0 w1 D (f d B1) → Q1 v H1) : tI g E H0 bo m σ H Q1 := by
  refine tI_go s (fun c x B1 q => ?_) (fun q => ?_) fun d B1 q w1 v H1 x s1 r => ?_
  · rw [q] at p; exact fun w' cls dd H' x' rb r => p w' cls dd H' rb (x0.trans x') r
  · rw [q] at p; exact p
  · rw [q] at p; exact ho d B1 w1 v H1 (x0.trans x) x s1 r (PostS.le x.le p)
theorem st_goT {m : Et} {f : Bool → Bs → Ss} {Q1 : Bool → Hp → Prop} (s : S0 g H0 w σI B σ H) (x0 : Ext w0 H0 w H) (p : PostS g E w0 H0 w D ((m σI B).st f))
    (ho : ∀ d B1 w1 H1, Ext w0 H0 w1 H1 → S0 g H0 w1 σI B1 σ H1 → PostS g E w0 H0 w1 D (f d B1) → Q1 d H1) : tIt g E H0 m σ H Q1 := by
  refine tIt_go s (fun c x B1 q => ?_) (fun q => ?_) fun d B1 q w1 H1 x s1 => ?_
  · rw [q] at p; exact fun w' cls dd H' x' rb r => p w' cls dd H' rb (x0.trans x') r
  · rw [q] at p; exact p
  · rw [q] at p; exact ho d B1 w1 H1 (x0.trans x) s1 (PostS.le x.le p)
theorem st_goF {m : Ev} {f : Hf.D → Bs → Ss} {Q1 : VK} (s : S0 g H0 w σI B σ H) (x0 : Ext w0 H0 w H) (p : PostS g E w0 H0 w D ((m σI B).st f))
    (ho : ∀ d B1 w1 a o H1, Ext w0 H0 w1 H1 → Ext w H w1 H1 → S0 g H0 w1 σI B1 σ H1 → H1 a = some o → Cont g w1 d a o → H a = Option.none → w1.P a = Option.none → (∀ n, w1.io n ≠ some a) → (∀ c ds, d ≠ .inst c ds) → PostS g E w0 H0 w1 D (f d B1) → Q1 (.ref a) H1) : tF g E H0 m σ H Q1 := by
  refine ⟨w, σI, B, s, ?_⟩
  cases q : m σI B with
  | ok d B1 =>
    rw [q] at p
    exact fun w1 a o H1 x rb e c n pp i z => ho d B1 w1 a o H1 (x0.trans x) x (s.step x rb) e c n pp i z (PostS.le x.le p)
  | exc c x B1 =>
    rw [q] at p
    exact fun w' cls dd H' x' rb r => p w' cls dd H' rb (x0.trans x') r
  | bad => rw [q] at p; exact p

/-! slots -/
theorem get_set {α : Type} {l : List α} {i j : Nat} {a b : α} (h : (l.set i a)[j]? = some b) : (i = j ∧ a = b ∧ i < l.length) ∨ (i ≠ j ∧ l[j]? = some b) := by
  by_cases e : i = j
  · subst e
    by_cases hl : i < l.length
    · rw [List.getElem?_set_self hl] at h; exact .inl ⟨rfl, Option.some.inj h, hl⟩
    · rw [List.getElem?_eq_none (by simp; omega)] at h; cases h
  · rw [List.getElem?_set_ne e] at h; exact .inr ⟨e, h⟩
theorem S0.set {d : Hf.D} {v : V} (s : S0 g H0 w σI B σ H) (i : Nat) (r : Rep g w d v) : S0 g H0 w (σI.set i (some (false, d))) B (σ.set i (some v)) H where
  rb := s.rb
  len := by simp [s.len]
  sl := fun j e h => by
    rcases get_set h with ⟨rfl, h1, h2⟩ | ⟨h1, h2⟩
    · cases h1
      exact ⟨v, by rw [List.getElem?_set_self (by rw [← s.len]; exact h2)], r⟩
    · obtain ⟨u, e1, e2⟩ := s.sl j e h2
      exact ⟨u, by rw [List.getElem?_set_ne h1]; exact e1, e2⟩
  ow := fun j e h => by
    rcases get_set h with ⟨rfl, h1, h2⟩ | ⟨h1, h2⟩
    · cases h1
    · obtain ⟨a, o, e1, e2⟩ := s.ow j e h2
      exact ⟨a, o, by rw [List.getElem?_set_ne h1]; exact e1, e2⟩
  oi := fun j k e f a h1 h2 h3 h4 => by
    rcases get_set h1 with ⟨rfl, q, _⟩ | ⟨n1, q1⟩
    · cases q
    rcases get_set h2 with ⟨rfl, q, _⟩ | ⟨n2, q2⟩
    · cases q
    rw [List.getElem?_set_ne n1] at h3
    rw [List.getElem?_set_ne n2] at h4
    exact s.oi j k e f a q1 q2 h3 h4
  me := fun j c ds b h1 h2 => by
    rcases get_set h1 with ⟨rfl, q, _⟩ | ⟨n1, q1⟩
    · cases q
    rw [List.getElem?_set_ne n1] at h2
    exact s.me j c ds b q1 h2
theorem S0.own_ne {j : Nat} {e : Hf.D} {a : Addr} (s : S0 g H0 w σI B σ H) (h : σI[j]? = some (some (true, e))) (n : H a = Option.none) : σ[j]? ≠ some (some (.ref a)) := fun z => by
  obtain ⟨b, o, e1, e2, _⟩ := s.ow j e h
  rw [z] at e1; cases e1; rw [n] at e2; cases e2
theorem S0.setO {d : Hf.D} {a : Addr} {o : HO} (s : S0 g H0 w σI B σ H) (i : Nat) (e : H a = some o) (c : Cont g w d a o) (np : w.P a = Option.none) (nb : ∀ n, w.io n ≠ some a) (n0 : H0 a = Option.none)
    (nw : ∀ (j : Nat) (e : Hf.D), σI[j]? = some (some (true, e)) → σ[j]? ≠ some (some (V.ref a))) (z : ∀ c ds, d ≠ .inst c ds) : S0 g H0 w (σI.set i (some (true, d))) B (σ.set i (some (.ref a))) H where
  rb := s.rb
  len := by simp [s.len]
  sl := fun j f h => by
    rcases get_set h with ⟨rfl, h1, h2⟩ | ⟨h1, h2⟩
    · cases h1
    · obtain ⟨u, e1, e2⟩ := s.sl j f h2
      exact ⟨u, by rw [List.getElem?_set_ne h1]; exact e1, e2⟩
  ow := fun j f h => by
    rcases get_set h with ⟨rfl, h1, h2⟩ | ⟨h1, h2⟩
    · cases h1
      exact ⟨a, o, by rw [List.getElem?_set_self (by rw [← s.len]; exact h2)], e, c, np, nb, n0⟩
    · obtain ⟨b, u, e1, e2⟩ := s.ow j f h2
      exact ⟨b, u, by rw [List.getElem?_set_ne h1]; exact e1, e2⟩
  oi := fun j k f f' b h1 h2 h3 h4 => by
    rcases get_set h1 with ⟨rfl, q, l⟩ | ⟨n1, q1⟩
    · rcases get_set h2 with ⟨rfl, q', l'⟩ | ⟨n2, q2⟩
      · rfl
      · rw [List.getElem?_set_self (by rw [← s.len]; exact l)] at h3
        rw [List.getElem?_set_ne n2] at h4
        cases h3
        exact (nw k f' q2 h4).elim
    · rcases get_set h2 with ⟨rfl, q', l'⟩ | ⟨n2, q2⟩
      · rw [List.getElem?_set_self (by rw [← s.len]; exact l')] at h4
        rw [List.getElem?_set_ne n1] at h3
        cases h4
        exact (nw j f q1 h3).elim
      · rw [List.getElem?_set_ne n1] at h3
        rw [List.getElem?_set_ne n2] at h4
        exact s.oi j k f f' b q1 q2 h3 h4
  me := fun j c ds b h1 h2 => by
    rcases get_set h1 with ⟨rfl, q, _⟩ | ⟨n1, q1⟩
    · cases q; exact (z _ _ rfl).elim
    rw [List.getElem?_set_ne n1] at h2
    exact s.me j c ds b q1 h2
theorem set_same {l : L2.St} {i : Nat} {x : Option V} (h : l[i]? = some x) : l.set i x = l := by
  apply List.ext_getElem?
  intro j
  by_cases e : i = j
  · subst e
    rw [List.getElem?_set_self (by
      have := (List.getElem?_eq_some_iff.mp h).1
      exact this), h]
  · rw [List.getElem?_set_ne e]
/-- a name's own container is changed -/
theorem S0.mut {d d' : Hf.D} {a : Addr} {o' : HO} {i : Nat} (s : S0 g H0 w σI B σ H) (h : σI[i]? = some (some (true, d))) (hi : σ[i]? = some (some (.ref a))) (c : Cont g w d' a o') (hm : ∀ c ds, d' = .inst c ds → ∃ c' ds', d = .inst c' ds') : S0 g H0 w (σI.set i (some (true, d'))) B σ (upd H a o') := by
  obtain ⟨a', o, e1, ha, cd, np, nb, n0⟩ := s.ow i d h
  rw [hi] at e1; cases e1
  have hP : ∀ b u, w.P b = some u → b ≠ a := fun b u e z => by subst z; rw [np] at e; cases e
  refine ⟨⟨fun b u e => by rw [upd_ne (hP b u e)]; exact s.rb.sub b u e, fun n b e => ?_, s.rb.inj, s.rb.np, s.rb.dom, tabs_upd s.rb.tb fun u q => by rw [ha] at q; cases q; exact cd.nt, s.rb.nt⟩, by simp [s.len], fun j e q => ?_, fun j e q => ?_, fun j k e f b h1 h2 h3 h4 => ?_, fun j c ds b h1 h2 => ?_⟩
  · obtain ⟨b', u, h1, h2, h3⟩ := s.rb.get n b e
    exact ⟨b', u, h1, by rw [upd_ne (fun z => nb n (by rw [← z]; exact h1))]; exact h2, h3⟩
  · rcases get_set q with ⟨rfl, h1, h2⟩ | ⟨h1, h2⟩
    · cases h1
    · exact s.sl j e h2
  · rcases get_set q with ⟨rfl, h1, h2⟩ | ⟨h1, h2⟩
    · cases h1
      exact ⟨a, o', hi, upd_same, c, np, nb, n0⟩
    · obtain ⟨b, u, e1, e2, e3⟩ := s.ow j e h2
      refine ⟨b, u, e1, ?_, e3⟩
      rw [upd_ne (fun z => h1 (s.oi i j d e a h h2 hi (by rw [← z]; exact e1)))]
      exact e2
  · rcases get_set h1 with ⟨rfl, q, l⟩ | ⟨n1, q1⟩
    · rcases get_set h2 with ⟨rfl, q', l'⟩ | ⟨n2, q2⟩
      · rfl
      · exact s.oi _ _ _ _ b h q2 h3 h4
    · rcases get_set h2 with ⟨rfl, q', l'⟩ | ⟨n2, q2⟩
      · exact s.oi _ _ _ _ b q1 h h3 h4
      · exact s.oi _ _ _ _ b q1 q2 h3 h4
  · rcases get_set h1 with ⟨rfl, q, _⟩ | ⟨n1, q1⟩
    · cases q
      obtain ⟨c', ds', rfl⟩ := hm _ _ rfl
      exact s.me _ c' ds' b h h2
    · exact s.me j c ds b q1 h2
theorem Ext.mut {a : Addr} {o : HO} (x : Ext w0 H0 w H) (n0 : H0 a = Option.none) : Ext w0 H0 w (upd H a o) where
  le := x.le
  keep := fun b u h hn ht => by rw [upd_ne (ne_of_none h n0)]; exact x.keep b u h hn ht
  pf := x.pf
  iof := x.iof
  there := fun b h z => by
    by_cases e : b = a
    · subst e; exact h n0
    · rw [upd_ne e] at z; exact x.there b h z
  me := x.me
/-- .. a box -/
theorem Ext.mutB {n : Nat} {a : Addr} {o : HO} (x : Ext w0 H0 w H) (hn : w.io n = some a) : Ext w0 H0 w (upd H a o) where
  le := x.le
  keep := fun b u h hb ht => by
    have e : b ≠ a := fun z => by
      subst z
      rcases x.iof n b hn with q | q
      · exact hb n q
      · rw [h] at q; cases q
    rw [upd_ne e]; exact x.keep b u h hb ht
  pf := x.pf
  iof := x.iof
  there := fun b h z => by
    by_cases e : b = a
    · subst e; rw [upd_same] at z; cases z
    · rw [upd_ne e] at z; exact x.there b h z
  me := x.me
theorem RB.mut {n : Nat} {a : Addr} {o' : HO} {d' : Hf.D} (rb : RB g w B H) (hn : w.io n = some a) (c : Cont g w d' a o') : RB g w (B.set n d') (upd H a o') where
  sub := fun b u e => by
    rw [upd_ne (fun z => by subst z; rw [rb.np n b hn] at e; cases e)]; exact rb.sub b u e
  get := fun m b e => by
    rcases get_set e with ⟨rfl, rfl, _⟩ | ⟨h1, h2⟩
    · exact ⟨a, o', hn, upd_same, c⟩
    · obtain ⟨b', u, e1, e2, e3⟩ := rb.get m b h2
      exact ⟨b', u, e1, by rw [upd_ne (fun z => h1 (rb.inj n m a hn (by rw [← z]; exact e1)))]; exact e2, e3⟩
  inj := rb.inj
  np := rb.np
  dom := fun m b e => by rw [List.length_set]; exact rb.dom m b e
  tb := tabs_upd rb.tb fun u e => by
    obtain ⟨b, hb⟩ : ∃ b, B[n]? = some b := ⟨_, List.getElem?_eq_getElem (rb.dom n a hn)⟩
    obtain ⟨a', o, h1, h2, h3⟩ := rb.get n b hb
    rw [hn] at h1; cases h1
    rw [e] at h2; cases h2
    exact h3.nt
  nt := rb.nt
theorem S0.mutB {n : Nat} {a : Addr} {o' : HO} {d' : Hf.D} (s : S0 g H0 w σI B σ H) (hn : w.io n = some a) (c : Cont g w d' a o') : S0 g H0 w σI (B.set n d') σ (upd H a o') where
  rb := s.rb.mut hn c
  len := s.len
  sl := s.sl
  ow := fun i d h => by
    obtain ⟨b, u, e1, e2, e3, e4, e5, e6⟩ := s.ow i d h
    exact ⟨b, u, e1, by rw [upd_ne (fun z => e5 n (by rw [z]; exact hn))]; exact e2, e3, e4, e5, e6⟩
  oi := s.oi
  me := s.me
/-- a name's own container is from now on data -/
def frz (i : Nat) (σI : Sl) : Option Sl := match σI[i]? with
  | some (some (true, .inst _ _)) => Option.none
  | some (some (_, d)) => some (σI.set i (some (false, d)))
  | _ => Option.none
theorem S0.frz {i : Nat} {σI' : Sl} (s : S0 g H0 w σI B σ H) (x0 : Ext w0 H0 w H) (h : Hf.frz i σI = some σI') : ∃ w', Le w w' ∧ S0 g H0 w' σI' B σ H ∧ Ext w0 H0 w' H := by
  unfold Hf.frz at h
  split at h
  · cases h
  · rename_i k d hi hz
    cases h
    cases k with
    | false =>
      obtain ⟨v, e, r⟩ := s.sl i d hz
      refine ⟨w, Le.refl _, ?_, x0⟩
      have := s.set i r
      rw [set_same e] at this
      exact this
    | true =>
      obtain ⟨a, o, e1, ha, c, np, nb, n0⟩ := s.ow i d hz
      have l := regLe w (o := o) np
      refine ⟨regW w a o, l, ⟨s.rb.keep l rfl (fun b u h => ?_) (Same.refl _) (fun n b h => ?_) (nt_reg s.rb.nt c.nt.t), by simp [s.len], fun j e h => ?_, fun j e h => ?_, fun j k e f b h1 h2 h3 h4 => ?_, fun j c' ds' b h1 h2 => ?_⟩, ⟨x0.le.trans l, x0.keep, fun b u h => ?_, x0.iof, x0.there, x0.me⟩⟩
      · by_cases hb : b = a
        · subst hb
          have h : upd w.P b o b = some u := h
          rw [upd_same] at h; cases h; exact ha
        · have h : upd w.P a o b = some u := h
          rw [upd_ne hb] at h
          exact s.rb.sub b u h
      · show upd w.P a o b = Option.none
        rw [upd_ne (fun z => nb n (by rw [← z]; exact h))]
        exact s.rb.np n b h
      · rcases get_set h with ⟨rfl, h1, h2⟩ | ⟨h1, h2⟩
        · cases h1
          refine ⟨_, e1, (c.mono l).rep upd_same fun c ds z => ?_⟩
          subst z
          exact hi _ _ rfl rfl
        · obtain ⟨v, e2, r⟩ := s.sl j e h2
          exact ⟨v, e2, Rep.mono l _ _ r⟩
      · rcases get_set h with ⟨rfl, h1, h2⟩ | ⟨h1, h2⟩
        · cases h1
        · obtain ⟨b, u, e2, e3, e4, e5, e6, e7⟩ := s.ow j e h2
          have hb : b ≠ a := fun z => h1 (s.oi i j d e a hz h2 e1 (by rw [← z]; exact e2))
          exact ⟨b, u, e2, e3, e4.mono l, (by show upd w.P a o b = Option.none; rw [upd_ne hb]; exact e5), e6, e7⟩
      · rcases get_set h1 with ⟨rfl, q, _⟩ | ⟨n1, q1⟩
        · cases q
        rcases get_set h2 with ⟨rfl, q, _⟩ | ⟨n2, q2⟩
        · cases q
        exact s.oi j k e f b q1 q2 h3 h4
      · rcases get_set h1 with ⟨rfl, q, _⟩ | ⟨n1, q1⟩
        · cases q
        exact s.me j c' ds' b q1 h2
      · by_cases hb : b = a
        · subst hb; exact .inr (.inl n0)
        · have h : upd w.P a o b = some u := h
          rw [upd_ne hb] at h
          exact x0.pf b u h
  · cases h
theorem Ext.none0 {a : Addr} (x : Ext w0 H0 w H) (n : H a = Option.none) : H0 a = Option.none := Classical.byContradiction fun q => x.there a q n
end

section
variable {g : Gs} {E : XK} {w0 : Wd} {H0 : Hp} {X : Cx} {st : Stmt} {rest sts sts2 : List Stmt} {m m1 m2 : Ms} {e a b c : Expr} {me ma mb : Ev} {ms : Evs} {mt : Et} {pos p1 p2 : Pos} {bo b1 b2 : Bool} {x : Str} {i j : Nat}
/-! blocks -/
def mSkip : Ms := fun σ B => .next σ B
def mSeq (m1 m2 : Ms) : Ms := fun σ B => (m1 σ B).seq m2
def mFrz (i : Nat) (m : Ms) : Ms := fun σ B => match frz i σ with
  | some σ' => m σ' B
  | Option.none => .bad
theorem b_nil : SndB g E w0 H0 X [] mSkip := weakB pss_nil fun D σ H ⟨w, σI, B, s, x, p⟩ => p w σ H (Le.refl _) s x
theorem b_one (h : SndS g E w0 H0 X st m) : SndB g E w0 H0 X [st] m := pss_one h
theorem b_cons (h1 : SndS g E w0 H0 X st m1) (h2 : SndB g E w0 H0 X rest m2) : SndB g E w0 H0 X (st :: rest) (mSeq m1 m2) := by
  refine weakB (pss_cons h1 h2) ?_
  rintro D σ H ⟨w, σI, B, s, x, p⟩
  refine ⟨w, σI, B, s, x, ?_⟩
  unfold mSeq at p
  revert p
  generalize m1 σI B = q
  intro p
  cases q with
  | next σ' B' => exact fun w' σ'' H' l' s' x' => ⟨w', σ', B', s', x', PostS.le l' p⟩
  | ret d B' => exact p
  | exc c y B' => exact p
  | bad => exact p
theorem s_frz (h : SndS g E w0 H0 X st m) : SndS g E w0 H0 X st (mFrz i m) := weakS h fun D σ H ⟨w, σI, B, s, x, p⟩ => by
  unfold mFrz at p
  split at p
  · rename_i σI' e
    obtain ⟨w', l, s', x'⟩ := s.frz x e
    exact ⟨w', σI', B, s', x', PostS.le l p⟩
  · exact p.elim
/-! simple statements -/
def mRet (m : Ev) : Ms := fun σ B => (m σ B).st fun d B1 => .ret d B1
theorem z_ret (h : Snd g E H0 X false e me) : SndS g E w0 H0 X (.Return (some e) pos) (mRet me) := by
  refine weakS (ps_ret h) ?_
  rintro D σ H ⟨w, σI, B, s, x, p⟩
  exact st_go s x p fun d B1 w1 v H1 x1 _ s1 r p1 => p1 w1 v H1 s1.rb x1 r
def mDo (m : Ev) : Ms := fun σ B => (m σ B).st fun _ B1 => .next σ B1
theorem z_expr (h : Snd g E H0 X bo e me) (hs : swapsWith e none pos.line X.env = pure false := by rfl) : SndS g E w0 H0 X (.Expr e pos) (mDo me) := by
  refine weakS (ps_expr h hs) ?_
  rintro D σ H ⟨w, σI, B, s, x, p⟩
  exact st_go s x p fun d B1 w1 v H1 x1 _ s1 r p1 => p1 w1 σ H1 (Le.refl _) s1 x1
def mIf (t : Et) (m1 m2 : Ms) : Ms := fun σ B => (t σ B).st fun k B1 => if k then m1 σ B1 else m2 σ B1
theorem z_if (hc : SndT g E H0 X c mt) (ha : SndB g E w0 H0 X sts m1) (hb : SndB g E w0 H0 X sts2 m2) : SndS g E w0 H0 X (.If c sts sts2 pos) (mIf mt m1 m2) := by
  refine weakS (ps_if hc ha hb) ?_
  rintro D σ H ⟨w, σI, B, s, x, p⟩
  refine st_goT s x p fun k B1 w1 H1 x1 s1 p1 => ?_
  cases k with
  | true => exact ⟨w1, σI, B1, s1, x1, p1⟩
  | false => exact ⟨w1, σI, B1, s1, x1, p1⟩
/-! names stored -/
def mSet (i : Nat) (m : Ev) : Ms := fun σ B => (m σ B).st fun d B1 => .next (σ.set i (some (false, d))) B1
def mSetO (i : Nat) (m : Ev) : Ms := fun σ B => (m σ B).st fun d B1 => .next (σ.set i (some (true, d))) B1
theorem set_at {t : TE} (ht : t = tI g E H0 false me) {D : Ends} {σ : L2.St} {H : Hp} (h : tS g E w0 H0 (mSet i me) D σ H) : tAsg t (gName i) D σ H := by
  subst ht
  obtain ⟨w, σI, B, s, x, p⟩ := h
  exact st_go s x p fun d B1 w1 v H1 x1 _ s1 r p1 => p1 w1 _ H1 (Le.refl _) (s1.set i r) x1
theorem setO_at {D : Ends} {σ : L2.St} {H : Hp} (h : tS g E w0 H0 (mSetO i me) D σ H) : tAsg (tF g E H0 me) (gName i) D σ H := by
  obtain ⟨w, σI, B, s, x, p⟩ := h
  exact st_goF s x p fun d B1 w1 a o H1 x1 x2 s1 e c n pp io z p1 => p1 w1 _ H1 (Le.refl _) (s1.setO i e c pp io (x.none0 n) (fun j f hj => s.own_ne hj n) z) x1
theorem z_set (hN : X.N.Nodup) (h : Snd g E H0 X false e me) (hi : X.N[i]? = some x := by rfl) (hx : Loc X.env.scope x := by first | exact .inl rfl | exact .inr rfl) (hs : swapsWith e (some (.Name x p1)) pos.line X.env = pure false := by rfl) (hf : X.fn x = true := by rfl) :
    SndS g E w0 H0 X (.Assign [.Name x p1] e pos) (mSet i me) := weakS (ps_set hN hi hx h hs (.inl hf)) fun _ _ _ h => set_at rfl h
theorem z_setO (hN : X.N.Nodup) (h : SndF g E H0 X e me) (hi : X.N[i]? = some x := by rfl) (hx : Loc X.env.scope x := by first | exact .inl rfl | exact .inr rfl) (hs : swapsWith e (some (.Name x p1)) pos.line X.env = pure false := by rfl) (hf : X.fn x = true := by rfl) :
    SndS g E w0 H0 X (.Assign [.Name x p1] e pos) (mSetO i me) := weakS (ps_set hN hi hx h hs (.inl hf)) fun _ _ _ h => setO_at h
/-! targets -/
abbrev Tg := D → Sl → Option Sl
def tG (g : Gs) (H0 : Hp) (t : Tg) (sl : List Nat) : TG := fun v σ H Q => ∃ w d σI B σI', S0 g H0 w σI B σ H ∧ Rep g w d v ∧ t d σI = some σI' ∧ ∀ σ' : L2.St, S0 g H0 w σI' B σ' H → σ'.length = σ.length → (∀ j : Nat, j ∉ sl → σ'[j]? = σ[j]?) → Q σ' H
abbrev SndG (g : Gs) (H0 : Hp) (X : Cx) (e : Expr) (t : Tg) (sl : List Nat) : Prop := PG X e (tG g H0 t sl)
abbrev Tgs := List D → Sl → Option Sl
def tGs (g : Gs) (H0 : Hp) (t : Tgs) (sl : List Nat) : TGs := fun vs σ H Q => ∃ w ds σI B σI', S0 g H0 w σI B σ H ∧ Reps g w ds vs ∧ t ds σI = some σI' ∧ ∀ σ' : L2.St, S0 g H0 w σI' B σ' H → σ'.length = σ.length → (∀ j : Nat, j ∉ sl → σ'[j]? = σ[j]?) → Q σ' H
abbrev SndGs (g : Gs) (H0 : Hp) (X : Cx) (es : List Expr) (t : Tgs) (sl : List Nat) : Prop := PGs X es (tGs g H0 t sl)
theorem weakG {X : Cx} {e : Expr} {t t' : TG} (h : PG X e t) (k : ∀ v σ H Q, t' v σ H Q → t v σ H Q) : PG X e t' := ⟨fun pins s σ H v u Q I r q => h.run pins s σ H v u Q I r (k v σ H Q q)⟩
theorem weakGs {X : Cx} {e : List Expr} {t t' : TGs} (h : PGs X e t) (k : ∀ v σ H Q, t' v σ H Q → t v σ H Q) : PGs X e t' := ⟨fun pins s σ H v u Q I r q => h.run pins s σ H v u Q I r (k v σ H Q q)⟩
def gN (i : Nat) : Tg := fun d σ => some (σ.set i (some (false, d)))
theorem g_name (hN : X.N.Nodup) (hi : X.N[i]? = some x := by rfl) (hx : Loc X.env.scope x := by first | exact .inl rfl | exact .inr rfl) (hf : X.fn x = true ∨ X.env.scope.names.lookup x = some .local := by first | exact .inl rfl | exact .inr rfl) : SndG g H0 X (.Name x pos) (gN i) [i] :=
  weakG (pg_name hN hi hx hf) fun v σ H Q ⟨w, d, σI, B, σI', s, r, e, q⟩ => by cases e; exact q _ (s.set i r) (by simp) fun j hj => List.getElem?_set_ne (by simpa [eq_comm] using hj)
def gT (t : Tgs) : Tg := fun d σ => match d with
  | .tup ds => t ds σ
  | .prs ds => t ds σ
  | _ => Option.none
def gs0 : Tgs := fun ds σ => match ds with
  | [] => some σ
  | _ => Option.none
def gsC (t : Tg) (u : Tgs) : Tgs := fun ds σ => match ds with
  | d :: r => (t d σ).bind fun σ' => u r σ'
  | [] => Option.none
def gsN : Tgs → Nat → Prop := fun t n => ∀ ds σ σ', t ds σ = some σ' → ds.length = n
theorem gs_nil : SndGs g H0 X [] gs0 [] := weakGs pgs_nil fun vs σ H Q ⟨w, ds, σI, B, σI', s, r, e, q⟩ => by
  cases ds with
  | nil => simp only [Reps] at r; cases e; exact ⟨r, q σ s rfl fun _ _ => rfl⟩
  | cons d ds => cases e
theorem gs_cons {es : List Expr} {t : Tg} {u : Tgs} {l1 l2 : List Nat} (h1 : SndG g H0 X e t l1) (h2 : SndGs g H0 X es u l2) (hs : (assignEach (e :: es) X.env).map (·.2) = assign e X.env :: (assignEach es X.env).map (·.2) := by rfl) : SndGs g H0 X (e :: es) (gsC t u) (l1 ++ l2) :=
  weakGs (pgs_cons h1 h2 hs) fun vs σ H Q ⟨w, ds, σI, B, σI', s, r, e, q⟩ => by
  cases ds with
  | nil => cases e
  | cons d ds =>
    simp only [Reps] at r
    obtain ⟨v, us, rfl, r1, r2⟩ := r
    obtain ⟨σ1, e1, e2⟩ := Option.bind_eq_some_iff.mp e
    refine ⟨v, us, rfl, w, d, σI, B, σ1, s, r1, e1, fun σ' s' n' k' => ⟨w, ds, σ1, B, σI', s', r2, e2, fun σ2 s2 n2 k2 => q σ2 s2 (n2.trans n') fun j hj => ?_⟩⟩
    simp only [List.mem_append, not_or] at hj
    exact (k2 j hj.2).trans (k' j hj.1)
theorem n_nil : gsN gs0 0 := fun ds σ σ' h => by cases ds; rfl; cases h
theorem n_cons {t : Tg} {u : Tgs} {n : Nat} (h : gsN u n) : gsN (gsC t u) (n + 1) := fun ds σ σ' e => by
  cases ds with
  | nil => cases e
  | cons d ds =>
    obtain ⟨σ1, e1, e2⟩ := Option.bind_eq_some_iff.mp e
    simp [h _ _ _ e2]
theorem g_tup {es : List Expr} {k n : Nat} {t : Tgs} {l : List Nat} (c : Ok g X) (h : SndGs g H0 X es t l) (hn : gsN t n) (h1 : (assignEach es X.env).length = n := by rfl) (h2 : (assignEach es X.env).findIdx? (·.1) = none := by rfl) : SndG g H0 X (.Tuple es k pos) (gT t) l :=
  weakG (pg_tup c.calm h h1 h2) fun v σ H Q ⟨w, d, σI, B, σI', s, r, e, q⟩ => by
  cases d <;> first | cases e | skip
  · rename_i ds
    simp only [Rep] at r
    obtain ⟨a, vs, rfl, p, r⟩ := r
    exact ⟨a, vs, rfl, c.K ▸ sqT_mono s.rb.sub p.T, by rw [r.len]; exact hn _ _ _ e, w, ds, σI, B, σI', s, r, e, q⟩
  · rename_i ds
    simp only [Rep] at r
    obtain ⟨a, vs, rfl, p, r⟩ := r
    exact ⟨a, vs, rfl, c.K ▸ sqT_mono s.rb.sub p, by rw [r.len]; exact hn _ _ _ e, w, ds, σI, B, σI', s, r, e, q⟩
def mAsg (t : Tg) (m : Ev) : Ms := fun σ B => (m σ B).st fun d B1 => match t d σ with
  | some σ' => .next σ' B1
  | Option.none => .bad
theorem z_asg {tg : Expr} {t : Tg} {l : List Nat} (he : Snd g E H0 X false e me) (hg : SndG g H0 X tg t l) (hs : swapsWithSole [tg] e pos.line X.env = pure false := by rfl) (hw : swappedStores [tg] e X.env = pure none := by rfl)
    (h1 : (assignEach [tg] X.env).map (·.2) = [assign tg X.env] := by rfl) : SndS g E w0 H0 X (.Assign [tg] e pos) (mAsg t me) := by
  refine weakS (ps_asg he hg hs hw h1) ?_
  rintro D σ H ⟨w, σI, B, s, x, p⟩
  refine st_go s x p fun d B1 w1 v H1 x1 _ s1 r p1 => ?_
  split at p1
  · rename_i σ' e
    exact ⟨w1, d, σI, B1, σ', s1, r, e, fun σ2 s2 _ _ => p1 w1 σ2 H1 (Le.refl _) s2 x1⟩
  · exact p1.elim
end
end Hf

set_option Elab.async false
set_option linter.all false
set_option maxRecDepth 100000
set_option maxHeartbeats 4000000
namespace Hf
open PySem PySem.Spec PyProof.Rows L2

/-! ### what is walked -/
structure ItOk (g : Gs) (w : Wd) (J : It) (ds : List D) : Prop where
  go : ∀ i H, i < ds.length → Same w.P H → J.go i H
  stop : ∀ i H, i = ds.length → Same w.P H → J.stop i H
  yld : ∀ i H x H' d w1 B, ds[i]? = some d → Le w w1 → RB g w1 B H → J.yld i H x H' → ∃ w2, Ext w1 H w2 H' ∧ RB g w2 B H' ∧ Rep g w2 d x
def PostI (g : Gs) (E : XK) (w : Wd) (H : Hp) (R : It → Hp → Prop) : Rs (List D) → Prop
  | .ok ds B' => ∀ w' J H', Ext w H w' H' → RB g w' B' H' → ItOk g w' J ds → R J H'
  | .exc c x B' => ∀ w' cls dd H', Ext w H w' H' → RB g w' B' H' → ExcR g w' c x cls dd H' → E cls dd H'
  | .bad => False
abbrev Ei := Sl → Bs → Rs (List D)
def tIi (g : Gs) (E : XK) (H0 : Hp) (m : Ei) : TI := fun σ H R => ∃ w σI B, S0 g H0 w σI B σ H ∧ PostI g E w H R (m σI B)
abbrev SndI (g : Gs) (E : XK) (H0 : Hp) (X : Cx) (tg e : Expr) (m : Ei) : Prop := PI X tg e (tIi g E H0 m)
theorem weakI {X : Cx} {tg e : Expr} {t t' : TI} (h : PI X tg e t) (k : ∀ σ H R, t' σ H R → t σ H R) : PI X tg e t' := ⟨fun pins s σ H R I q => h.run pins s σ H R I (k σ H R q)⟩
section
variable {g : Gs} {E : XK} {H0 : Hp} {w w1 : Wd} {H H1 : Hp} {σI : Sl} {σ : L2.St} {bo bo1 : Bool} {B : Bs}
theorem PostI.ext {R : It → Hp → Prop} (x : Ext w H w1 H1) : ∀ {m : Rs (List D)}, PostI g E w H R m → PostI g E w1 H1 R m
  | .ok _ _, h => fun w2 v2 H2 x2 rb2 r2 => h w2 v2 H2 (x.trans x2) rb2 r2
  | .exc _ _ _, h => fun w2 cls dd H2 x2 rb2 r2 => h w2 cls dd H2 (x.trans x2) rb2 r2
  | .bad, h => h
theorem tI_bindI {m : Ev} {f : D → Bs → Rs (List D)} {Q1 : VK} {R : It → Hp → Prop} (s : S0 g H0 w σI B σ H) (p : PostI g E w H R ((m σI B).bind f))
    (ho : ∀ d B1 w1 v H1, Ext w H w1 H1 → S0 g H0 w1 σI B1 σ H1 → RepB g w1 σI σ bo d v → PostI g E w1 H1 R (f d B1) → Q1 v H1) : tI g E H0 bo m σ H Q1 := by
  refine tI_go s (fun c x B1 q => ?_) (fun q => ?_) fun d B1 q w1 v H1 x s1 r => ?_
  · rw [q] at p; exact p
  · rw [q] at p; exact p
  · rw [q] at p; exact ho d B1 w1 v H1 x s1 r (PostI.ext x p)
end
theorem Rd.uniq {H : Hp} {a : Addr} {u v : HO} (h : Rd H a u) (h' : Rd H a v) (hu : ∀ o x, u ≠ .frz o x) (hv : ∀ o x, v ≠ .frz o x) : u = v := by
  rcases h with h | ⟨o, h⟩ <;> rcases h' with h' | ⟨o', h'⟩ <;> rw [h] at h' <;> cases h'
  · rfl
  · exact (hu _ _ rfl).elim
  · exact (hv _ _ rfl).elim
  · rfl
section
variable {g : Gs} {w : Wd} {K : PySem.W.Frag}
theorem it_scr {a : Addr} {vs : List V} {ds : List D} (hp : SqL K w.P a vs) (r : Reps g w ds vs) : ItOk g w (Itl K a) ds where
  go := fun i H hi hs => by
    obtain ⟨v, e, _⟩ := Reps.get r (List.getElem?_eq_getElem hi)
    exact ⟨vs, v, hs.seq hp, e⟩
  stop := fun i H hi hs => ⟨vs, hs.seq hp, by rw [r.len]; exact Nat.le_of_eq hi.symm⟩
  yld := fun i H x H' d w1 B e l rb y => by
    obtain ⟨rfl, y⟩ := y
    obtain ⟨v, e2, rv⟩ := Reps.get r e
    have q := y vs (rb.sub.seq (l.P.seq hp))
    rw [e2] at q; cases q
    exact ⟨w1, Ext.refl _ _, rb, Rep.mono l _ _ rv⟩
theorem it_tup {a : Addr} {vs : List V} {ds : List D} (hp : SqT K w.P a vs) (r : Reps g w ds vs) : ItOk g w (Itt K a) ds where
  go := fun i H hi hs => by
    obtain ⟨v, e, _⟩ := Reps.get r (List.getElem?_eq_getElem hi)
    exact ⟨vs, v, sqT_mono hs hp, e⟩
  stop := fun i H hi hs => ⟨vs, sqT_mono hs hp, by rw [r.len]; exact Nat.le_of_eq hi.symm⟩
  yld := fun i H x H' d w1 B e l rb y => by
    obtain ⟨rfl, y⟩ := y
    obtain ⟨v, e2, rv⟩ := Reps.get r e
    have q := y vs (sqT_mono rb.sub (sqT_mono l.P hp))
    rw [e2] at q; cases q
    exact ⟨w1, Ext.refl _ _, rb, Rep.mono l _ _ rv⟩
def rngD (lo : Int) (n : Nat) : List D := (List.range n).map fun i => .int (lo + (i : Nat))
theorem rngD_len (lo : Int) (n : Nat) : (rngD lo n).length = n := by simp [rngD]
theorem it_rng {lo : Int} {n : Nat} : ItOk g w (Itr lo n) (rngD lo n) where
  go := fun i H hi hs => by rw [rngD_len] at hi; exact hi
  stop := fun i H hi hs => by rw [rngD_len] at hi; exact Nat.le_of_eq hi.symm
  yld := fun i H x H' d w1 B e l rb y => by
    obtain ⟨rfl, rfl⟩ := y
    refine ⟨w1, Ext.refl _ _, rb, ?_⟩
    unfold rngD at e
    rw [List.getElem?_map] at e
    by_cases hi : i < n
    · rw [List.getElem?_range hi] at e
      cases e
      exact rep_int g w1 _
    · rw [List.getElem?_eq_none (by simp; omega)] at e; cases e
end
/-! ### sources: lists, tuples, texts -/
inductive Sk where
  | l (a : Addr) | t (a : Addr) | s (x : Str)
def Sk.v : Sk → V
  | .l a => .ref a
  | .t a => .ref a
  | .s x => .str x
def chV (x : Str) : List V := x.cps.toList.map fun c => V.str ⟨#[c]⟩
def chD (x : Str) : List D := x.cps.toList.map fun c => D.str ⟨#[c]⟩
def Sk.At (K : PySem.W.Frag) (H : Hp) : Sk → List V → Prop
  | .l a, xs => SqL K H a xs
  | .t a, xs => SqT K H a xs
  | .s x, xs => xs = chV x
def Sk.It (K : PySem.W.Frag) : Sk → L2.It
  | .l a => Itl K a
  | .t a => Itt K a
  | .s x => Its x
/-- the iterator at it stands before the item i -/
def Sk.St (it : Addr) (i : Nat) (h : Heap) : Sk → Prop
  | .l a => h.IsListIter it a i
  | .t a => h.IsTupleIter it a i
  | .s x => ∃ t, h.IsStrIter it (strIterType x) x t i
theorem Sk.St.at {it : Addr} {i : Nat} {h h' : Heap} {k : Sk} (x : k.St it i h) (e : ∀ o, h.get? it = some o → h'.get? it = some o) : k.St it i h' := by
  cases k with
  | l a => exact Heap.IsListIter.at x e
  | t a => exact Heap.IsTupleIter.at x e
  | s y =>
    obtain ⟨t, o, ho, r⟩ := x
    exact ⟨t, o, e o ho, r⟩
theorem Sk.St.obj {it : Addr} {i : Nat} {h : Heap} {k : Sk} (x : k.St it i h) : ∃ o, h.get? it = some o ∧ ∀ v, o.data ≠ .cell v := by
  cases k with
  | l a => obtain ⟨o, ho, hc, hd⟩ := x; exact ⟨o, ho, fun v z => by rw [hd] at z; cases z⟩
  | t a => obtain ⟨o, ho, hc, hd⟩ := x; exact ⟨o, ho, fun v z => by rw [hd] at z; cases z⟩
  | s y => obtain ⟨t, o, ho, hc, hd⟩ := x; exact ⟨o, ho, fun v z => by rw [hd] at z; cases z⟩
section
variable {X : Cx} {pins : List (Addr × Obj)} {σ : L2.St} {H : Hp} {s : Shared}
theorem src_ne (I : Inv X pins σ H s) {b c : Addr} (hf : FpOk X pins H c) (hb : (∃ o, H b = some o) ∨ ∃ o, X.K.lookup b = some o) : b ≠ c := fun e => by
  subst e
  obtain ⟨h1, _, _, h4, _⟩ := hf
  rcases hb with ⟨o, q⟩ | ⟨o, q⟩
  · rw [h1] at q; cases q
  · have q2 := I.ok.mod.kin _ _ q
    rcases h4 with h4 | h4
    · exact I.ok.noex _ _ q2 h4
    · exact absurd (Heap.lt_size (I.ok.bs _ _ q2).1) (Nat.not_lt_of_le h4)
/-- what the iterator of a source draws, and where it reads -/
theorem Sk.draws (I : Inv X pins σ H s) {k : Sk} {xs : List V} (hk : k.At X.K H xs) {it : Addr} {i : Nat} (hst : k.St it i s.heap) (A : Around) (hh : A.handled = none) (hf : FpOk X pins H it) :
    ∃ (fp : List Addr) (n : Nat) (P : Nat → Value → Prop) (St : Nat → Heap → Prop), Draws X.prog X.w A it (it :: fp) n P St ∧ n = xs.length ∧ St i s.heap ∧ (∀ j h, St j h → k.St it j h) ∧ (∀ j u, P j u → ∃ x, xs[j]? = some x ∧ RelV x u) ∧ ∀ b ∈ fp, (∃ o, H b = some o) ∨ ∃ o, X.K.lookup b = some o := by
  cases k with
  | l a =>
    have hk : SqL X.K H a xs := hk
    obtain ⟨its, rv, p, hz⟩ := I.list hk
    have ha : a ≠ it := by
      rcases hk with (q | ⟨o, q⟩) | ⟨o, _, _, q, _⟩
      · exact src_ne I hf (.inl ⟨_, q⟩)
      · exact src_ne I hf (.inl ⟨_, q⟩)
      · exact src_ne I hf (.inr ⟨_, q⟩)
    refine ⟨[a], _, _, _, Draws.list hh it a ha its.toArray, by simp [rv.length], ⟨hst, p.isList⟩, fun j h q => q.1, fun j u q => ?_, fun b hb => ?_⟩
    · have q : its[j]? = some u := by simpa using q
      have hj : j < its.length := (List.getElem?_eq_some_iff.mp q).1
      have hj2 : j < xs.length := by rw [rv.length]; exact hj
      obtain ⟨u', hu, ru⟩ := rv.get (List.getElem?_eq_getElem hj2)
      rw [q] at hu; cases hu
      exact ⟨_, List.getElem?_eq_getElem hj2, ru⟩
    · rw [List.mem_singleton.mp hb]
      rcases hk with (q | ⟨o, q⟩) | ⟨o, _, _, q, _⟩
      · exact .inl ⟨_, q⟩
      · exact .inl ⟨_, q⟩
      · exact .inr ⟨_, q⟩
  | t a =>
    have hk : SqT X.K H a xs := hk
    obtain ⟨its, rv, p, hz⟩ := I.tuple hk
    have ha : a ≠ it := by
      rcases hk with (q | ⟨o, q⟩) | ⟨o, _, _, q, _⟩
      · exact src_ne I hf (.inl ⟨_, q⟩)
      · exact src_ne I hf (.inl ⟨_, q⟩)
      · exact src_ne I hf (.inr ⟨_, q⟩)
    refine ⟨[a], _, _, _, Draws.tuple hh it a ha its.toArray, by simp [rv.length], ⟨hst, p⟩, fun j h q => q.1, fun j u q => ?_, fun b hb => ?_⟩
    · have q : its[j]? = some u := by simpa using q
      have hj : j < its.length := (List.getElem?_eq_some_iff.mp q).1
      have hj2 : j < xs.length := by rw [rv.length]; exact hj
      obtain ⟨u', hu, ru⟩ := rv.get (List.getElem?_eq_getElem hj2)
      rw [q] at hu; cases hu
      exact ⟨_, List.getElem?_eq_getElem hj2, ru⟩
    · rw [List.mem_singleton.mp hb]
      rcases hk with (q | ⟨o, q⟩) | ⟨o, _, _, q, _⟩
      · exact .inl ⟨_, q⟩
      · exact .inl ⟨_, q⟩
      · exact .inr ⟨_, q⟩
  | s x =>
    have hk : xs = chV x := hk
    subst hk
    obtain ⟨t, hst⟩ := hst
    refine ⟨[], _, _, _, Draws.text hh it x t, by simp [chV], hst, fun j h q => ⟨t, q⟩, fun j u q => ?_, fun b hb => nomatch hb⟩
    obtain ⟨c, u', h1, rfl⟩ := q
    exact ⟨.str ⟨#[c]⟩, by simp [chV, h1], _, rfl⟩
/-- how a source begins -/
theorem Sk.begins (I : Inv X pins σ H s) {k : Sk} {xs : List V} (hk : k.At X.K H xs) {u : Value} (ru : RelV k.v u) : ∃ (o : Obj) (HH : Heap → Prop), Begins u o HH ∧ HH s.heap ∧ ∀ (it : Addr) (h : Heap), h.get? it = some o → k.St it 0 h := by
  cases k with
  | l a =>
    cases ru
    obtain ⟨its, rv, p, hz⟩ := I.list hk
    exact ⟨_, _, begins_list a its.toArray, p.isList, fun it h e => ⟨_, e, rfl, rfl⟩⟩
  | t a =>
    cases ru
    obtain ⟨its, rv, p, hz⟩ := I.tuple hk
    exact ⟨_, _, begins_tuple a its.toArray, p, fun it h e => ⟨_, e, rfl, rfl⟩⟩
  | s x =>
    obtain ⟨t, rfl⟩ := ru
    exact ⟨_, _, begins_text x t, trivial, fun it h e => ⟨t, _, e, rfl, rfl⟩⟩
end
section
variable {g : Gs} {E : XK} {H0 : Hp} {X : Cx} {tg e a b : Expr} {m ma mb : Ev} {pos p1 : Pos} {bo b1 b2 : Bool}
/-- a list, a tuple, a text -/
def iAny (K : PySem.W.Frag) (tl : TE) : TI := fun σ H R => tl σ H fun x H1 => ∃ k xs, x = Sk.v k ∧ k.At K H1 xs ∧ R (k.It K) H1
theorem turn_any {P : Program} {w : World} {K : PySem.W.Frag} {tg : Expr} (k : Sk) (it : Addr) : Turn P w K tg (k.It K) [it] it fun i h => k.St it i h := by
  cases k with
  | l a => exact turn_list a it
  | t a => exact turn_tuple a it
  | s x =>
    have z : strIterType x = "str_ascii_iterator" ∨ strIterType x = "str_iterator" := by
      unfold strIterType
      split
      · exact .inl rfl
      · exact .inr rfl
    have T : ∀ t, Turn P w K tg (Its x) [it] it (fun i h => h.IsStrIter it (strIterType x) x t i) := fun t => turn_str it x t (strIterType x) z
    exact
      { mem := (T 0).mem
        obj := fun i h st => let ⟨t, q⟩ := st; (T t).obj i h q
        keep := fun i h h' st kk => let ⟨t, q⟩ := st; ⟨t, (T t).keep i h h' q kk⟩
        item := fun X hP hw hK hc i pins s σ H E I hf st hg => by
          obtain ⟨t, q⟩ := st
          refine wpAny_mono ((T t).item X hP hw hK hc i pins s σ H E I hf q hg) (fun r s1 h1 => ?_) fun _ _ h => h
          obtain ⟨u, e, h1⟩ := h1
          refine ⟨u, e, wpAny_mono h1 (fun _ s2 h2 => ?_) fun _ _ h => h⟩
          obtain ⟨x, H', a1, a2, a3, a4, a5⟩ := h2
          exact ⟨x, H', a1, a2, a3, ⟨t, a4⟩, a5⟩
        done := fun X hP hw hK hc i pins s σ H E I hf st hg => by
          obtain ⟨t, q⟩ := st
          exact (T t).done X hP hw hK hc i pins s σ H E I hf q hg
        self := fun A i s Q E st h => let ⟨t, q⟩ := st; (T t).self A i s Q E q h }
theorem pi_any {l : Expr} {tl : TE} (hl : PE X l tl) : PI X tg l (iAny X.K tl) := by
  refine ⟨fun pins s σ H R I h => ?_⟩
  refine thn (hl.run pins s σ H _ I h) fun v s1 ⟨x, H1, I1, r1, k, xs, ex, hk, q⟩ => ?_
  subst ex
  obtain ⟨o, HH, B, h1, hs⟩ := Sk.begins I1 hk r1
  refine B.iter _ _ _ _ _ _ h1 ?_
  refine ⟨s1.heap.objs.size, [s1.heap.objs.size], _, _, H1, rfl, I1.kept (t' := s1.toks) fun b o' e => Heap.get?_push_of_some _ e, turn_any k _, hs _ _ (Heap.get?_push_size _ B.free), fun c hc => ?_, q⟩
  rw [List.mem_singleton.mp hc]
  exact I1.fpOk (Nat.le_refl _) (I1.hok.fresh (Nat.le_refl _))
def itemsOf : D → Option (List D)
  | .tup ds => some ds
  | .lst ds => some ds
  | .scr ds => some ds
  | .str x => some (chD x)
  | _ => Option.none
def mItems (m : Ev) : Ei := fun σ B => (m σ B).bind fun d B1 => match itemsOf d with
  | some ds => .ok ds B1
  | Option.none => .bad
/-- a value as a source -/
def SkAt (g : Gs) (w : Wd) (k : Sk) (ds : List D) : Prop := ∃ vs, k.At g.K w.P vs ∧ Reps g w ds vs
theorem Sk.At.mono {K : PySem.W.Frag} {P P' : Hp} {k : Sk} {xs : List V} (hs : Same P P') (h : k.At K P xs) : k.At K P' xs := by
  cases k with
  | l a => exact hs.seq h
  | t a => exact sqT_mono hs h
  | s x => exact h
theorem reps_chs (g : Gs) (w : Wd) (x : Str) : Reps g w (chD x) (chV x) := by
  unfold chD chV
  induction x.cps.toList with
  | nil => simp only [List.map_nil, Reps]
  | cons c cs ih =>
    simp only [List.map_cons, Reps, Rep]
    exact ⟨_, _, rfl, rfl, ih⟩
theorem Rep.sk {w : Wd} {d : D} {v : V} {ds : List D} (r : Rep g w d v) (h : itemsOf d = some ds) : ∃ k, v = Sk.v k ∧ SkAt g w k ds := by
  cases d <;> simp only [itemsOf, reduceCtorEq, Option.some.injEq] at h <;> subst h <;> simp only [Rep] at r
  · subst r; exact ⟨.s _, rfl, _, rfl, reps_chs g w _⟩
  · obtain ⟨a, vs, rfl, q, r⟩ := r; exact ⟨.t a, rfl, vs, q.T, r⟩
  · obtain ⟨a, vs, rfl, q, r⟩ := r; exact ⟨.l a, rfl, vs, .inl (.inl q), r⟩
  · obtain ⟨a, vs, rfl, q, r⟩ := r; exact ⟨.l a, rfl, vs, q, r⟩
theorem it_any {w : Wd} {k : Sk} {ds : List D} (h : SkAt g w k ds) : ItOk g w (k.It g.K) ds := by
  obtain ⟨vs, hk, r⟩ := h
  cases k with
  | l a => exact it_scr hk r
  | t a => exact it_tup hk r
  | s x =>
    have hk : vs = chV x := hk
    subst hk
    have hl : x.cps.size = ds.length := by rw [← r.len]; simp [chV]
    exact
      { go := fun i H hi hs => by show i < x.cps.size; omega
        stop := fun i H hi hs => by show x.cps.size ≤ i; omega
        yld := fun i H y H' d w1 B e l rb yl => by
          obtain ⟨rfl, c, hc, rfl⟩ := yl
          obtain ⟨v, e2, rv⟩ := Reps.get r e
          have : v = .str ⟨#[c]⟩ := by
            unfold chV at e2
            rw [List.getElem?_map, Array.getElem?_toList, hc] at e2
            exact (Option.some.inj e2).symm
          subst this
          exact ⟨w1, Ext.refl _ _, rb, Rep.mono l _ _ rv⟩ }
theorem i_seq (c : Ok g X) (h : Snd g E H0 X false e m) : SndI g E H0 X tg e (mItems m) := by
  refine weakI (pi_any h) ?_
  rintro σ H R ⟨w, σI, B, s, p⟩
  refine tI_bindI s p fun d B1 w1 v H1 x1 s1 r p1 => ?_
  rw [c.K]
  cases hd : itemsOf d with
  | none => rw [hd] at p1; exact p1.elim
  | some ds =>
    rw [hd] at p1
    obtain ⟨k, rfl, hk⟩ := Rep.sk r hd
    obtain ⟨vs, hk2, _⟩ := id hk
    exact ⟨k, vs, rfl, hk2.mono s1.rb.sub, p1 w1 _ H1 (Ext.refl _ _) s1.rb (it_any hk)⟩
def rngB (i : Int) : Bool := decide (-(2 ^ 62) ≤ i) && decide (i < 2 ^ 62)
def mRng1 (m : Ev) : Ei := fun σ B => (m σ B).bind fun d B1 => (asI d B1).bind fun n B2 => if rngB n then .ok (rngD 0 n.toNat) B2 else .bad
theorem rngB_ok {i : Int} (h : rngB i = true) : -(2 ^ 62) ≤ i ∧ i < 2 ^ 62 := by
  unfold rngB at h
  simp only [Bool.and_eq_true, decide_eq_true_eq] at h
  exact h
theorem asI_goI {w : Wd} {σI : Sl} {B B2 : Bs} {σ : L2.St} {H : Hp} {R : It → Hp → Prop} {d : D} {v : V} {f : Int → Bs → Rs (List D)} (s : S0 g H0 w σI B2 σ H) (r : RepO g w σI σ d v) (p : PostI g E w H R ((asI d B).bind f)) :
    ∃ i, v = .int i ∧ PostI g E w H R (f i B) := by
  cases d <;> first | exact p.elim | skip
  exact ⟨_, r.int s, p⟩
theorem i_rng1 (c : Ok g X) (hm : g.mg "range" = none) (h : Snd g E H0 X b1 a ma) (hg : Gl X "range" := by rfl) (hs : starEach [a] X.env = [(false, eval a X.env)] := by rfl) : SndI g E H0 X tg (.Call (.Name "range" p1) [a] [] pos) (mRng1 ma) := by
  refine weakI (pi_range1 hg (c.mg ▸ hm) (pa_cons h pa_nil hs) hs) ?_
  rintro σ H R ⟨w, σI, B, s, p⟩
  refine tI_bindI s p fun d B1 w1 v H1 x1 s1 r p1 => ?_
  obtain ⟨n, rfl, p2⟩ := asI_goI s1 r.up p1
  split at p2
  · rename_i hb
    obtain ⟨h1, h2⟩ := rngB_ok hb
    exact ⟨n, rfl, h1, h2, p2 w1 _ H1 (Ext.refl _ _) s1.rb it_rng⟩
  · exact p2.elim
end

/-! ### for -/
def forL (t : Tg) (b : Ms) : List D → Sl → Bs → Ss
  | [], σ, B => .next σ B
  | d :: ds, σ, B => match t d σ with
    | some σ' => (b σ' B).seq (forL t b ds)
    | Option.none => .bad
def mFor (t : Tg) (mi : Ei) (b : Ms) : Ms := fun σ B => (mi σ B).st fun ds B1 => forL t b ds σ B1
section
variable {g : Gs} {E : XK} {w0 : Wd} {H0 : Hp} {X : Cx} {tg e c : Expr} {sts : List Stmt} {mi : Ei} {t : Tg} {b : Ms} {pos : Pos} {sl : List Nat} {mt : Et}
theorem z_for (k : Ok g X) (hp : PassesOwn (model X.prog X.w) X.A X.env X.xe) (hi : SndI g E H0 X tg e mi) (hg : SndG g H0 X tg t sl) (hb : SndB g E w0 H0 X sts b) (hs : ∀ x, foldedSetIterable e X.env x = pure x := by intro _; rfl) :
    SndS g E w0 H0 X (.For tg e sts [] pos) (mFor t mi b) := by
  refine weakS (ps_for hp k.calm hi hg hb hs) ?_
  rintro D σ H ⟨w, σI, B, s, x0, p⟩
  refine ⟨w, σI, B, s, ?_⟩
  unfold mFor at p
  revert p
  generalize mi σI B = q
  intro p
  cases q with
  | bad => exact p
  | exc cc y B1 => exact fun w' cls dd H' x' rb r => p w' cls dd H' rb (x0.trans x') r
  | ok ds B1 =>
    intro w1 J H1 x1 rb1 it
    have p : PostS g E w0 H0 w D (forL t b ds σI B1) := p
    have s1 := s.step x1 rb1
    refine ⟨fun i m σ H => m = ds.length - i ∧ i ≤ ds.length ∧ ∃ w σI B, Le w1 w ∧ S0 g H0 w σI B σ H ∧ Ext w0 H0 w H ∧ PostS g E w0 H0 w D (forL t b (ds.drop i) σI B), ⟨ds.length, by simp, Nat.zero_le _, w1, σI, B1, Le.refl _, s1, x0.trans x1, by simpa using PostS.le x1.le p⟩, ?_⟩
    rintro i m σ H ⟨rfl, hi, w, σI, B, l, s, x, p⟩
    by_cases hlt : i < ds.length
    · refine .inr ⟨it.go i H hlt (l.P.trans s.rb.sub), fun σ' H' => ∃ w σI B, Le w1 w ∧ S0 g H0 w σI B σ' H' ∧ Ext w0 H0 w H' ∧ PostS g E w0 H0 w D (forL t b (ds.drop (i + 1)) σI B), ?_, ?_⟩
      · rintro σ' H' q
        exact ⟨ds.length - (i + 1), by omega, rfl, hlt, q⟩
      · intro y H' yl
        obtain ⟨w2, x2, rb2, r2⟩ := it.yld i H y H' ds[i] w B (List.getElem?_eq_getElem hlt) l s.rb yl
        rw [List.drop_eq_getElem_cons hlt] at p
        simp only [forL] at p
        cases e : t ds[i] σI with
        | none => rw [e] at p; exact p.elim
        | some σ' =>
          rw [e] at p
          refine ⟨w2, ds[i], σI, B, σ', s.step x2 rb2, r2, e, fun σ2 s2 _ _ => ⟨w2, σ', B, s2, x.trans x2, ?_⟩⟩
          have p := PostS.le x2.le p
          revert p
          show PostS g E w0 H0 w2 D ((b σ' B).seq (forL t b (List.drop (i + 1) ds))) → _
          generalize b σ' B = q
          intro p
          cases q with
          | next σ3 B3 => exact fun w' σ'' H'' l' s' x' => ⟨w', σ3, B3, (l.trans x2.le).trans l', s', x', PostS.le l' p⟩
          | ret d B' => exact p
          | exc c y B' => exact p
          | bad => exact p
    · refine .inl ⟨it.stop i H (by omega) (l.P.trans s.rb.sub), ?_⟩
      rw [List.drop_eq_nil_of_le (by omega)] at p
      exact p w σ H (Le.refl _) s x
end
end Hf

set_option Elab.async false
set_option linter.all false
set_option maxRecDepth 100000
set_option maxHeartbeats 4000000
namespace Hf
open PySem PySem.Spec PyProof.Rows L2

/-! ### while -/
section
variable {g : Gs} {E : XK} {w0 : Wd} {H0 : Hp} {X : Cx} {tg e c : Expr} {sts : List Stmt} {mi : Ei} {t : Tg} {b : Ms} {pos : Pos} {sl : List Nat} {mt : Et}
end

/-! ### list comprehensions -/
def noX {α : Type} : Rs α → Rs α
  | .ok a B => .ok a B
  | _ => .bad
def lcL (t : Tg) (mt : Et) (me : Ev) (σ : Sl) : List D → Bs → Rs (List D)
  | [], B => .ok [] B
  | d :: ds, B => match t d σ with
    | some σ' => (mt σ' B).bind fun k B1 => if k then (me σ' B1).bind fun e B2 => (lcL t mt me σ ds B2).bind fun es B3 => .ok (e :: es) B3 else lcL t mt me σ ds B1
    | Option.none => .bad
def wipeI (σ : Sl) : List Nat → Sl
  | [] => σ
  | v :: vs => (wipeI σ vs).set v Option.none
def mLc (vs : List Nat) (t : Tg) (mi : Ei) (mt : Et) (me : Ev) : Ev := fun σ B => (mi σ B).bind fun ds B1 => (noX (lcL t mt me (wipeI σ vs) ds B1)).bind fun es B2 => if szL es then .ok (.lst es) B2 else .bad
theorem wipeI_length (σ : Sl) : ∀ vs : List Nat, (wipeI σ vs).length = σ.length
  | [] => rfl
  | v :: vs => by unfold wipeI; rw [List.length_set, wipeI_length σ vs]
theorem wipe_get (σ : L2.St) (j : Nat) : ∀ vs : List Nat, (wipe σ vs)[j]? = if j ∈ vs ∧ j < σ.length then some Option.none else σ[j]?
  | [] => by simp [wipe]
  | v :: vs => by
    unfold wipe
    by_cases e : v = j
    · subst e
      by_cases hl : v < σ.length
      · rw [List.getElem?_set_self (by rw [wipe_length]; exact hl), if_pos ⟨by simp, hl⟩]
      · rw [List.getElem?_eq_none (by rw [List.length_set, wipe_length]; omega), if_neg (fun z => hl z.2), List.getElem?_eq_none (by omega)]
    · rw [List.getElem?_set_ne e, wipe_get σ j vs]
      have : (j ∈ v :: vs) ↔ j ∈ vs := by simp [Ne.symm e]
      simp only [this]
theorem wipeI_get (σ : Sl) (j : Nat) : ∀ vs : List Nat, (wipeI σ vs)[j]? = if j ∈ vs ∧ j < σ.length then some Option.none else σ[j]?
  | [] => by simp [wipeI]
  | v :: vs => by
    unfold wipeI
    by_cases e : v = j
    · subst e
      by_cases hl : v < σ.length
      · rw [List.getElem?_set_self (by rw [wipeI_length]; exact hl), if_pos ⟨by simp, hl⟩]
      · rw [List.getElem?_eq_none (by rw [List.length_set, wipeI_length]; omega), if_neg (fun z => hl z.2), List.getElem?_eq_none (by omega)]
    · rw [List.getElem?_set_ne e, wipeI_get σ j vs]
      have : (j ∈ v :: vs) ↔ j ∈ vs := by simp [Ne.symm e]
      simp only [this]
theorem wipe_eq {σ σ2 : L2.St} {vs : List Nat} (hl : σ2.length = σ.length) (h : ∀ j : Nat, j ∉ vs → σ2[j]? = σ[j]?) : wipe σ2 vs = wipe σ vs := by
  apply List.ext_getElem?
  intro j
  rw [wipe_get, wipe_get, hl]
  by_cases hj : j ∈ vs
  · by_cases hk : j < σ.length
    · rw [if_pos ⟨hj, hk⟩, if_pos ⟨hj, hk⟩]
    · rw [if_neg (fun z => hk z.2), if_neg (fun z => hk z.2), List.getElem?_eq_none (by omega), List.getElem?_eq_none (by omega)]
  · rw [if_neg (fun z => hj z.1), if_neg (fun z => hj z.1), h j hj]
theorem wipe_wipe (σ : L2.St) (vs : List Nat) : wipe (wipe σ vs) vs = wipe σ vs := wipe_eq (wipe_length _ _) fun j hj => by rw [wipe_get, if_neg (fun z => hj z.1)]
section
variable {g : Gs} {E : XK} {w0 w w1 : Wd} {H H0 H1 : Hp} {σI : Sl} {σ : L2.St} {B : Bs} {X : Cx}
theorem S0.wipe (s : S0 g H0 w σI B σ H) (vs : List Nat) : S0 g H0 w (wipeI σI vs) B (L2.wipe σ vs) H where
  rb := s.rb
  len := by rw [wipeI_length, wipe_length]; exact s.len
  sl := fun j e h => by
    rw [wipeI_get] at h
    split at h
    · cases h
    · rename_i hj
      rw [wipe_get, if_neg (by rw [← s.len]; exact hj)]
      exact s.sl j e h
  ow := fun j e h => by
    rw [wipeI_get] at h
    split at h
    · cases h
    · rename_i hj
      rw [wipe_get, if_neg (by rw [← s.len]; exact hj)]
      exact s.ow j e h
  oi := fun i j e f a h1 h2 h3 h4 => by
    rw [wipeI_get] at h1 h2
    split at h1
    · cases h1
    split at h2
    · cases h2
    rename_i hi hj
    rw [wipe_get, if_neg (by rw [← s.len]; exact hi)] at h3
    rw [wipe_get, if_neg (by rw [← s.len]; exact hj)] at h4
    exact s.oi i j e f a h1 h2 h3 h4
  me := fun i c ds a h1 h2 => by
    rw [wipeI_get] at h1
    split at h1
    · cases h1
    rename_i hi
    rw [wipe_get, if_neg (by rw [← s.len]; exact hi)] at h2
    exact s.me i c ds a h1 h2
/-- something else is changed -/
theorem RB.other {a : Addr} {o : HO} (rb : RB g w B H) (np : w.P a = Option.none) (nb : ∀ n, w.io n ≠ some a) (nh : ∀ u, H a = some u → Nt u) : RB g w B (upd H a o) where
  tb := tabs_upd rb.tb nh
  nt := rb.nt
  sub := fun b u e => by rw [upd_ne (fun z => by subst z; rw [np] at e; cases e)]; exact rb.sub b u e
  get := fun n b e => by
    obtain ⟨c, u, h1, h2, h3⟩ := rb.get n b e
    exact ⟨c, u, h1, by rw [upd_ne (fun z => nb n (by rw [← z]; exact h1))]; exact h2, h3⟩
  inj := rb.inj
  np := rb.np
  dom := rb.dom
theorem S0.other {a : Addr} {o : HO} (s : S0 g H0 w σI B σ H) (np : w.P a = Option.none) (nb : ∀ n, w.io n ≠ some a) (nw : ∀ (j : Nat) (e : D), σI[j]? = some (some (true, e)) → σ[j]? ≠ some (some (V.ref a))) (nh : ∀ u, H a = some u → Nt u) : S0 g H0 w σI B σ (upd H a o) where
  rb := s.rb.other np nb nh
  len := s.len
  sl := s.sl
  ow := fun j e h => by
    obtain ⟨b, u, e1, e2, e3⟩ := s.ow j e h
    exact ⟨b, u, e1, by rw [upd_ne (fun z => nw j e h (by rw [← z]; exact e1))]; exact e2, e3⟩
  oi := s.oi
  me := s.me
theorem Ok.blk (k : Ok g X) (s : Shared) (H : Hp) (scope : Scope) (env : Env) (fp : List Addr) : Ok g (X.blk s H scope env fp) := ⟨k.K, k.mg, k.calm, k.un, k.prog, k.w, k.base, k.fx⟩
abbrev SndTs (g : Gs) (E : XK) (H0 : Hp) (X : Cx) (es : List Expr) (m : Et) : Prop := PTs X es (tIt g E H0 m)
def mYes : Et := fun _ B => .ok true B
theorem ts_nil : SndTs g E H0 X [] mYes := ⟨fun pins s σ H Q I q => pts_nil.run pins s σ H Q I (by
  obtain ⟨w, σI, B, s, p⟩ := q
  exact p w H (Ext.refl _ _) s.rb)⟩
theorem ts_one {c : Expr} {m : Et} (h : SndT g E H0 X c m) : SndTs g E H0 X [c] m := pts_one h
theorem lcL_cons {t : Tg} {mt : Et} {me : Ev} {σ : Sl} {d : D} {ds : List D} {B B' : Bs} {es : List D} (h : lcL t mt me σ (d :: ds) B = .ok es B') :
    ∃ σ' k B1, t d σ = some σ' ∧ mt σ' B = .ok k B1 ∧ ((k = true ∧ ∃ e B2 es', me σ' B1 = .ok e B2 ∧ lcL t mt me σ ds B2 = .ok es' B' ∧ es = e :: es') ∨ (k = false ∧ lcL t mt me σ ds B1 = .ok es B')) := by
  simp only [lcL] at h
  cases e1 : t d σ with
  | none => rw [e1] at h; cases h
  | some σ' =>
    rw [e1] at h
    simp only at h
    cases e2 : mt σ' B with
    | bad => rw [e2] at h; cases h
    | exc _ _ _ => rw [e2] at h; cases h
    | ok k B1 =>
      rw [e2] at h
      simp only [Rs.bind] at h
      refine ⟨σ', k, B1, rfl, e2, ?_⟩
      cases k with
      | false => exact .inr ⟨rfl, h⟩
      | true =>
        simp only [if_true] at h
        cases e3 : me σ' B1 with
        | bad => rw [e3] at h; cases h
        | exc _ _ _ => rw [e3] at h; cases h
        | ok e B2 =>
          rw [e3] at h
          simp only at h
          cases e4 : lcL t mt me σ ds B2 with
          | bad => rw [e4] at h; cases h
          | exc _ _ _ => rw [e4] at h; cases h
          | ok es' B3 =>
            rw [e4] at h
            cases h
            exact .inl ⟨rfl, e, B2, es', rfl, e4, rfl⟩
def LcInv (g : Gs) (H0 : Hp) (w : Wd) (H : Hp) (w1 : Wd) (σI : Sl) (σ : L2.St) (vs : List Nat) (t : Tg) (mt : Et) (me : Ev) (ds es : List D) (B' : Bs) (Da : Addr) (i : Nat) (H' : Hp) : Prop :=
  ∃ w' B2 acc es' av, Ext w H w' H' ∧ Le w1 w' ∧ S0 g H0 w' σI B2 σ H' ∧ H' Da = some (.lst av) ∧ Reps g w' acc av ∧ w'.P Da = Option.none ∧ (∀ n, w'.io n ≠ some Da) ∧ (∀ (j : Nat) (e : D), σI[j]? = some (some (true, e)) → σ[j]? ≠ some (some (V.ref Da))) ∧
    lcL t mt me (wipeI σI vs) (ds.drop i) B2 = .ok es' B' ∧ es = acc ++ es'
/-- the elements one by one: from what an element at the head means -/
theorem lc_at {t : Tg} {mt : Et} {me : Ev} {sl vs : List Nat} {mi : Ei} {wi : TI} (hwi : wi = tIi g E H0 mi) (hsl : ∀ j ∈ sl, j ∈ vs) {Q : VK} (s : S0 g H0 w σI B σ H) (p : PostF g E w H Q (mLc vs t mi mt me σI B)) :
    tLc wi (tG g H0 t sl) (tIt g E0 H0 mt) (tI g E0 H0 false me) vs σ H Q := by
  subst hwi
  refine ⟨w, σI, B, s, ?_⟩
  unfold mLc at p
  cases q : mi σI B with
  | bad => rw [q] at p; exact p
  | exc c y B1 => rw [q] at p; exact p
  | ok ds B1 =>
    rw [q] at p
    simp only [Rs.bind] at p
    intro w1 J H1 x1 rb1 it D hD
    have s1 := s.step x1 rb1
    cases q2 : lcL t mt me (wipeI σI vs) ds B1 with
    | bad => rw [q2] at p; exact p.elim
    | exc c y B1 => rw [q2] at p; exact p.elim
    | ok es B' =>
      rw [q2] at p
      simp only [noX] at p
      split at p
      · rename_i hz
        have hz : es.length ≤ sizeLine := of_decide_eq_true hz
        have nD : H D = Option.none := Classical.byContradiction fun z => x1.there D z hD
        have start : LcInv g H0 w H w1 σI σ vs t mt me ds es B' D 0 (upd H1 D (.lst [])) :=
          ⟨w1, B1, [], es, [], x1.mut nD, Le.refl _, s1.other (s1.rb.fresh_P hD) (s1.rb.fresh_io hD) (fun j e hj => s1.own_ne hj hD) (fun u q => by rw [hD] at q; cases q), upd_same, by simp only [Reps], s1.rb.fresh_P hD, s1.rb.fresh_io hD, fun j e hj => s1.own_ne hj hD, by simpa using q2, rfl⟩
        refine ⟨fun i m H' => m = ds.length - i ∧ i ≤ ds.length ∧ LcInv g H0 w H w1 σI σ vs t mt me ds es B' D i H', ⟨ds.length, by simp, Nat.zero_le _, start⟩, ?_⟩
        rintro i m H' ⟨rfl, hi, w', B2, acc, es', av, x', l', s', eD, ra, np, nb, nw, q3, hes⟩
        by_cases hlt : i < ds.length
        · refine .inr ⟨it.go i H' hlt (l'.P.trans s'.rb.sub), LcInv g H0 w H w1 σI σ vs t mt me ds es B' D (i + 1), fun H2 q => ⟨ds.length - (i + 1), by omega, rfl, hlt, q⟩, fun y H2 yl => ?_⟩
          obtain ⟨w2, x2, rb2, r2⟩ := it.yld i H' y H2 ds[i] w' B2 (List.getElem?_eq_getElem hlt) l' s'.rb yl
          have s2 := s'.step x2 rb2
          rw [List.drop_eq_getElem_cons hlt] at q3
          obtain ⟨σ', k, B3, et, em, q4⟩ := lcL_cons q3
          refine ⟨w2, ds[i], wipeI σI vs, B2, σ', s2.wipe vs, r2, et, fun σ2 s3 hl hk => ⟨(wipe_eq hl fun j hj => hk j fun z => hj (hsl j z)).trans (wipe_wipe _ _), ?_⟩⟩
          have keep : ∀ {wa wb : Wd} {Ha Hb : Hp}, Ext wa Ha wb Hb → Same wb.P Hb → Ha D = some (.lst av) → wa.P D = Option.none → (∀ n, wa.io n ≠ some D) → Hb D = some (.lst av) ∧ wb.P D = Option.none ∧ ∀ n, wb.io n ≠ some D := by
            intro wa wb Ha Hb x sb e n1 n2
            refine ⟨x.keep D _ e n2 (nt_lst _).t, ?_, fun n z => ?_⟩
            · cases q : wb.P D with
              | none => rfl
              | some u =>
                rcases x.pf D u q with z | z | z
                · rw [n1] at z; cases z
                · rw [e] at z; cases z
                · have y := sb D u q
                  rw [x.keep D _ e n2 (nt_lst _).t] at y; cases y
                  exact ((nt_lst _).px z).elim
            · rcases x.iof n D z with z | z
              · exact n2 n z
              · rw [e] at z; cases z
          obtain ⟨eD2, np2, nb2⟩ := keep x2 rb2.sub eD np nb
          refine tIt_go s3 (fun c x B1 q => by rw [em] at q; cases q) (by rw [em]; simp) fun k' B4 q5 w3 H3 x3 s4 => ?_
          rw [em] at q5; cases q5
          obtain ⟨eD3, np3, nb3⟩ := keep x3 s4.rb.sub eD2 np2 nb2
          have sO := (s2.step x3 s4.rb)
          rcases q4 with ⟨rfl, e, B5, es2, e1, e2, rfl⟩ | ⟨rfl, e2⟩
          · rw [if_pos rfl]
            refine tI_go s4 (fun c x B1 q => by rw [e1] at q; cases q) (by rw [e1]; simp) fun d B6 q6 w4 v H4 x4 s5 r4 => ?_
            rw [e1] at q6; cases q6
            obtain ⟨eD4, np4, nb4⟩ := keep x4 s5.rb.sub eD3 np3 nb3
            have hl : av.length = acc.length := ra.len
            refine ⟨av, eD4, ?_, w4, B5, acc ++ [e], es2, av ++ [v], (((x'.trans x2).trans x3).trans x4).mut nD, ((l'.trans x2.le).trans x3.le).trans x4.le, (sO.step x4 s5.rb).other np4 nb4 nw (fun u q => by rw [eD4] at q; cases q; exact nt_lst _), upd_same,
              Reps.app (Reps.mono ((x2.le.trans x3.le).trans x4.le) _ _ ra) (Reps.one r4), np4, nb4, nw, e2, by rw [hes]; simp⟩
            rw [hes, List.length_append, List.length_cons] at hz
            omega
          · rw [if_neg (by simp)]
            exact ⟨w3, B3, acc, es', av, (x'.trans x2).trans x3, (l'.trans x2.le).trans x3.le, sO, eD3, Reps.mono (x2.le.trans x3.le) _ _ ra, np3, nb3, nw, e2, hes⟩
        · rw [List.drop_eq_nil_of_le (by omega)] at q3
          simp only [lcL] at q3
          cases q3
          rw [List.append_nil] at hes
          subst hes
          exact .inl ⟨it.stop i H' (by omega) (l'.P.trans s'.rb.sub), p w' D _ H' x' s'.rb eD (by simp only [Cont]; exact ⟨av, rfl, ra⟩) nD np nb (by simp)⟩
      · exact p.elim
variable {elt tg iter : Expr} {ifs : List Expr} {scope : Scope} {own : List (Str × Nat)} {pos : Pos} {t : Tg} {mi : Ei} {mt : Et} {me : Ev} {sl : List Nat}
theorem f_lc (c : Ok g X) (hN : X.N.Nodup) (hi : SndI g E H0 X tg iter mi) (ok : BlkOk X.N X.env.scope scope own) (hsl : ∀ j ∈ sl, j ∈ own.map (·.2))
    (hg : ∀ (s : Shared) (H : Hp) (C : Addr) (cl : List (Str × Addr)) (fp : List Addr), SndG g H0 (X.blk s H scope (compEnvC scope cl C X.env) fp) tg t sl) (ht : ∀ (s : Shared) (H : Hp) (C : Addr) (cl : List (Str × Addr)) (fp : List Addr), SndTs g E0 H0 (X.blk s H scope (compEnvC scope cl C X.env) fp) ifs mt)
    (he : ∀ (s : Shared) (H : Hp) (C : Addr) (cl : List (Str × Addr)) (fp : List Addr), Snd g E0 H0 (X.blk s H scope (compEnvC scope cl C X.env) fp) false elt me) (hs : ∀ x, foldedSetIterable iter X.env x = pure x := by intro _; rfl) :
    SndF g E H0 X (.ListComp elt [⟨tg, iter, ifs, 0⟩] scope pos) (mLc (own.map (·.2)) t mi mt me) :=
  weak (pe_lc c.calm hN hi ok hg ht he hs) fun σ H Q ⟨w, σI, B, s, p⟩ => lc_at rfl hsl s p
theorem z_setLc {i : Nat} {y : Str} {py spos : Pos} (c : Ok g X) (hN : X.N.Nodup) (hy : X.N[i]? = some y) (hyl : X.env.scope.names.lookup y = some .local) (hsw : swapsWith (.ListComp elt [⟨tg, iter, ifs, 0⟩] scope pos) (some (.Name y py)) spos.line X.env = pure true)
    (hi : SndI g E H0 X tg iter mi) (ok : BlkOk X.N X.env.scope scope own) (hsl : ∀ j ∈ sl, j ∈ own.map (·.2))
    (hg : ∀ (s : Shared) (H : Hp) (C : Addr) (cl : List (Str × Addr)) (fp : List Addr), SndG g H0 (X.blk s H scope (compEnvC scope cl C X.env) fp) tg t sl) (ht : ∀ (s : Shared) (H : Hp) (C : Addr) (cl : List (Str × Addr)) (fp : List Addr), SndTs g E0 H0 (X.blk s H scope (compEnvC scope cl C X.env) fp) ifs mt)
    (he : ∀ (s : Shared) (H : Hp) (C : Addr) (cl : List (Str × Addr)) (fp : List Addr), Snd g E0 H0 (X.blk s H scope (compEnvC scope cl C X.env) fp) false elt me) (hs : ∀ x, foldedSetIterable iter X.env x = pure x := by intro _; rfl) :
    SndS g E w0 H0 X (.Assign [.Name y py] (.ListComp elt [⟨tg, iter, ifs, 0⟩] scope pos) spos) (mSet i (mLc (own.map (·.2)) t mi mt me)) := by
  refine weakS (ps_setLc c.calm hN hy hyl hsw hi ok hg ht he hs) ?_
  rintro D σ H ⟨w, σI, B, s, x, p⟩
  have h : tI g E H0 false (mLc (own.map (·.2)) t mi mt me) σ H (fun x H1 => gName i x σ H1 D.nx) :=
    st_go s x p fun d B1 w1 v H1 x1 x2 s1 r p1 => p1 w1 _ H1 (Le.refl _) (s1.set i r) x1
  obtain ⟨w', σI', B', s', p'⟩ := h
  exact lc_at rfl hsl s' (PostF.of p')
end
end Hf

set_option Elab.async false
set_option linter.all false
set_option maxRecDepth 100000
set_option maxHeartbeats 4000000
namespace Hf
open PySem PySem.Spec PyProof.Rows L2

/-! ### a name's own list is changed -/
section
variable {g : Gs} {E : XK} {w0 w : Wd} {H0 H : Hp} {X : Cx} {e : Expr} {me : Ev} {pos p1 p2 apos : Pos} {bo : Bool} {x : Str} {i : Nat} {σI : Sl} {σ : L2.St} {B : Bs} {D : Ends}
def upO (i : Nat) (f : List Hf.D → Option (List Hf.D)) (σ : Sl) (B : Bs) : Ss := match σ[i]? with
  | some (some (true, .lst ds)) => match f ds with
    | some es => .next (σ.set i (some (true, .lst es))) B
    | Option.none => .bad
  | _ => .bad
theorem upO_go {f : List Hf.D → Option (List Hf.D)} (s : S0 g H0 w σI B σ H) (x : Ext w0 H0 w H) (p : PostS g E w0 H0 w D (upO i f σI B)) :
    ∃ a vs ds es, σ[i]? = some (some (.ref a)) ∧ H a = some (.lst vs) ∧ Reps g w ds vs ∧ σI[i]? = some (some (true, .lst ds)) ∧ f ds = some es ∧ ∀ us, Reps g w es us → D.nx σ (upd H a (.lst us)) := by
  unfold upO at p
  split at p
  · rename_i ds hi
    obtain ⟨a, o, e1, ha, c, np, nb, n0⟩ := s.ow i _ hi
    simp only [Cont] at c
    obtain ⟨vs, rfl, r⟩ := c
    split at p
    · rename_i es hf
      exact ⟨a, vs, ds, es, e1, ha, r, hi, hf, fun us ru => p w σ _ (Le.refl _) (s.mut hi e1 (by simp only [Cont]; exact ⟨us, rfl, ru⟩) (by intro _ _ z; cases z)) (x.mut n0)⟩
    · exact p.elim
  · exact p.elim
def mApp (i : Nat) (m : Ev) : Ms := fun σ B => match σ[i]? with
  | some (some (true, .lst _)) => (m σ B).st fun d B1 => upO i (fun ds => if ds.length < sizeLine then some (ds ++ [d]) else Option.none) σ B1
  | _ => .bad
theorem tyL {K : PySem.W.Frag} {H : Hp} {a : Addr} {xs : List V} (h : H a = some (.lst xs)) : tyV K "list" (.ref a) H := .inl ⟨rfl, xs, .inl (.inl h)⟩
theorem own_at {P : Prop} (s : S0 g H0 w σI B σ H) (hi : ∀ a vs, σ[i]? = some (some (.ref a)) → H a = some (.lst vs) → P) (h : ∃ ds, σI[i]? = some (some (true, .lst ds))) : P := by
  obtain ⟨ds, h⟩ := h
  obtain ⟨a, o, e1, ha, c, _⟩ := s.ow i _ h
  simp only [Cont] at c
  obtain ⟨vs, rfl, r⟩ := c
  exact hi a vs e1 ha
theorem z_app (he : Snd g E H0 X false e me) (hN : X.N[i]? = some x := by rfl) (hv : Vis X.env.scope x := by first | exact Or.inl rfl | exact Or.inr (Or.inl rfl) | exact Or.inr (Or.inr rfl)) (hd : (x == ("__debug__" : Str)) = false := by decide) (hcd : (x == ("__classdict__" : Str)) = false := by decide)
    (hbase : attributeBase (.Name x p1) "append" X.env (eval (.Name x p1) X.env) = eval (.Name x p1) X.env := by rfl)
    (hfew : ((backTo p2 (starEach [e] X.env)).all (fun x => !x.1) && (backToKw p2 (keywordEach [] X.env)).all (fun x => x.1.isSome) && decide ([e].length + ([] : List Keyword).length + (if ([] : List Keyword).isEmpty then 0 else 1) < 30)) = true := by rfl)
    (hline : (apos.endLine == p2.line) = true := by rfl) (hs : starEach [e] X.env = (false, eval e X.env) :: starEach [] X.env := by rfl) (hpl : (backTo p2 (starEach [] X.env)).any (·.1) = false := by rfl) (hsw : swapsWith (.Call (.Attribute (.Name x p1) "append" apos) [e] [] p2) none pos.line X.env = pure false := by rfl) :
    SndS g E w0 H0 X (.Expr (.Call (.Attribute (.Name x p1) "append" apos) [e] [] p2) pos) (mApp i me) := by
  refine weakS (ps_expr (pe_bm PySem.F.plainAttrs_list PySem.F.slot_list_append PySem.F.type_list_append mt_append (pe_var hN hv hd hcd) (pa_cons he pa_nil hs) hbase hfew hline hs hpl) hsw) ?_
  rintro D σ H ⟨w, σI, B, s, x0, p⟩
  unfold mApp at p
  split at p
  · rename_i ds0 hi
    refine own_at s (fun a vs e1 ha => ⟨_, e1, tyL ha, ?_⟩) ⟨ds0, hi⟩
    refine st_go s x0 p fun d B1 w1 v H1 x1 x2 s1 r p1 => ?_
    obtain ⟨a', vs', ds, es, f1, f2, f3, f4, f5, k⟩ := upO_go s1 x1 p1
    rw [e1] at f1; cases f1
    split at f5
    · rename_i hl
      cases f5
      exact ⟨a, vs', v, rfl, rfl, f2, by rw [f3.len]; exact hl, k _ (Reps.app f3 (Reps.one r))⟩
    · cases f5
  · exact p.elim
def mExt (i : Nat) (m : Ev) : Ms := fun σ B => match σ[i]? with
  | some (some (true, .lst _)) => (m σ B).st fun d B1 => match d with
    | .lst zs => upO i (fun ds => if ds.length + zs.length ≤ sizeLine then some (ds ++ zs) else Option.none) σ B1
    | _ => .bad
  | _ => .bad
theorem z_ext (he : Snd g E H0 X bo e me) (hN : X.N[i]? = some x := by rfl) (hv : Vis X.env.scope x := by first | exact Or.inl rfl | exact Or.inr (Or.inl rfl) | exact Or.inr (Or.inr rfl)) (hd : (x == ("__debug__" : Str)) = false := by decide) (hcd : (x == ("__classdict__" : Str)) = false := by decide)
    (hbase : attributeBase (.Name x p1) "extend" X.env (eval (.Name x p1) X.env) = eval (.Name x p1) X.env := by rfl)
    (hfew : ((backTo p2 (starEach [e] X.env)).all (fun x => !x.1) && (backToKw p2 (keywordEach [] X.env)).all (fun x => x.1.isSome) && decide ([e].length + ([] : List Keyword).length + (if ([] : List Keyword).isEmpty then 0 else 1) < 30)) = true := by rfl)
    (hline : (apos.endLine == p2.line) = true := by rfl) (hs : starEach [e] X.env = (false, eval e X.env) :: starEach [] X.env := by rfl) (hpl : (backTo p2 (starEach [] X.env)).any (·.1) = false := by rfl) (hsw : swapsWith (.Call (.Attribute (.Name x p1) "extend" apos) [e] [] p2) none pos.line X.env = pure false := by rfl) :
    SndS g E w0 H0 X (.Expr (.Call (.Attribute (.Name x p1) "extend" apos) [e] [] p2) pos) (mExt i me) := by
  refine weakS (ps_expr (pe_bm PySem.F.plainAttrs_list PySem.F.slot_list_extend PySem.F.type_list_extend mt_extend (pe_var hN hv hd hcd) (pa_cons he pa_nil hs) hbase hfew hline hs hpl) hsw) ?_
  rintro D σ H ⟨w, σI, B, s, x0, p⟩
  unfold mExt at p
  split at p
  · rename_i ds0 hi
    refine own_at s (fun a vs e1 ha => ⟨_, e1, tyL ha, ?_⟩) ⟨ds0, hi⟩
    refine st_go s x0 p fun d B1 w1 v H1 x1 x2 s1 r p1 => ?_
    split at p1
    · rename_i zs
      obtain ⟨b, us, rfl, g1, g2⟩ := r.up.lst s1
      obtain ⟨a', vs', ds, es, f1, f2, f3, f4, f5, k⟩ := upO_go s1 x1 p1
      rw [e1] at f1; cases f1
      split at f5
      · rename_i hl
        cases f5
        exact ⟨a, b, vs', us, rfl, rfl, f2, g1, by rw [f3.len, g2.len]; exact hl, k _ (Reps.app f3 g2)⟩
      · cases f5
    · exact p1.elim
  · exact p.elim
theorem Reps.erase {g : Gs} {w : Wd} : ∀ {ds : List Hf.D} {vs : List V} (k : Nat), Reps g w ds vs → Reps g w (ds.eraseIdx k) (vs.eraseIdx k)
  | [], vs, k, h => by simp only [Reps] at h; subst h; simp [Reps]
  | d :: ds, vs, 0, h => by
    simp only [Reps] at h
    obtain ⟨v, us, rfl, r, rs⟩ := h
    simpa using rs
  | d :: ds, vs, k + 1, h => by
    simp only [Reps] at h
    obtain ⟨v, us, rfl, r, rs⟩ := h
    simp only [List.eraseIdx_cons_succ, Reps]
    exact ⟨v, _, rfl, r, Reps.erase k rs⟩
/-! ### a box is changed: x[e] = v -/
def mSetIx (ob ix v : Ev) : Ms := fun σ B => (v σ B).st fun d B1 => (ob σ B1).st fun o B2 => (ix σ B2).st fun i B3 => match o, i with
  | .box n, .int k => match B3[n]? with
    | some (.lst ds) => match ixN ds.length k with
      | some j => .next σ (B3.set n (.lst (ds.set j d)))
      | Option.none => .bad
    | _ => .bad
  | _, _ => .bad
theorem z_setIx {o ix : Expr} {mo mi : Ev} {b1 : Bool} (he : Snd g E H0 X false e me) (ho : Snd g E H0 X false o mo) (hi : Snd g E H0 X b1 ix mi) (hs : swapsWithSole [.Subscript o ix p1] e pos.line X.env = pure false := by rfl) (hw : swappedStores [.Subscript o ix p1] e X.env = pure none := by rfl)
    (h1 : (assignEach [.Subscript o ix p1] X.env).map (·.2) = [assign (.Subscript o ix p1) X.env] := by rfl)
    (ha : ∀ v, assign (.Subscript o ix p1) X.env v = (do
      let ov ← holding [v] (eval o X.env)
      let iv ← holding [v, ov] (eval ix X.env)
      standAt p1
      holding [v, ov, iv] (setItem ov iv v)
      release [v, ov, iv] []) := by intro _; rfl) : SndS g E w0 H0 X (.Assign [.Subscript o ix p1] e pos) (mSetIx mo mi me) := by
  refine weakS (ps_asg he (pg_sub ho hi set_list ha) hs hw h1) ?_
  rintro D σ H ⟨w, σI, B, s, x0, p⟩
  refine st_go s x0 p fun d B1 w1 v H1 x1 x2 s1 r p1 => ?_
  refine st_go s1 x1 p1 fun o B2 w2 ov H2 y1 y2 s2 r2 p2 => ?_
  refine st_go s2 y1 p2 fun i B3 w3 iv H3 z1 z2 s3 r3 p3 => ?_
  split at p3
  · rename_i n k
    split at p3
    · rename_i ds hb
      split at p3
      · rename_i j hj
        obtain ⟨a, rfl, hn⟩ := (RepB.up (r2 : RepB g w2 σI σ false (.box n) ov)).mono z2.le |>.box s3
        obtain ⟨a', oo, h1, h2, c⟩ := s3.rb.get _ _ hb
        rw [hn] at h1; cases h1
        simp only [Cont] at c
        obtain ⟨vs, rfl, rr⟩ := c
        have rv : Rep g w3 d v := Rep.mono (y2.le.trans z2.le) _ _ r
        refine ⟨a, vs, k, j, rfl, r3.up.int s3, h2, by rw [rr.len]; exact hj, ?_⟩
        exact p3 w3 σ _ (Le.refl _) (s3.mutB hn (by simp only [Cont]; exact ⟨_, rfl, Reps.set j rr rv⟩)) (z1.mutB hn)
      · exact p3.elim
    · exact p3.elim
  · exact p3.elim
/-! own list by place: x[k] = v -/
def mSetOwn (i : Nat) (ix v : Ev) : Ms := fun σ B => (v σ B).st fun d B1 => match σ[i]? with
  | some (some (true, .lst _)) => (ix σ B1).st fun k B2 => match k with
    | .int k => upO i (fun ds => (ixN ds.length k).map fun j => ds.set j d) σ B2
    | _ => .bad
  | _ => .bad
theorem z_setOwn {ix : Expr} {mi : Ev} {b1 : Bool} (he : Snd g E H0 X false e me) (hi : Snd g E H0 X b1 ix mi) (hN : X.N[i]? = some x := by rfl) (hv : Vis X.env.scope x := by first | exact Or.inl rfl | exact Or.inr (Or.inl rfl) | exact Or.inr (Or.inr rfl)) (hd : (x == ("__debug__" : Str)) = false := by decide) (hcd : (x == ("__classdict__" : Str)) = false := by decide)
    (hs : swapsWithSole [.Subscript (.Name x p2) ix p1] e pos.line X.env = pure false := by rfl) (hw : swappedStores [.Subscript (.Name x p2) ix p1] e X.env = pure none := by rfl)
    (h1 : (assignEach [.Subscript (.Name x p2) ix p1] X.env).map (·.2) = [assign (.Subscript (.Name x p2) ix p1) X.env] := by rfl)
    (ha : ∀ v, assign (.Subscript (.Name x p2) ix p1) X.env v = (do
      let ov ← holding [v] (eval (.Name x p2) X.env)
      let iv ← holding [v, ov] (eval ix X.env)
      standAt p1
      holding [v, ov, iv] (setItem ov iv v)
      release [v, ov, iv] []) := by intro _; rfl) : SndS g E w0 H0 X (.Assign [.Subscript (.Name x p2) ix p1] e pos) (mSetOwn i mi me) := by
  refine weakS (ps_asg he (pg_sub (pe_var hN hv hd hcd) hi set_list ha) hs hw h1) ?_
  rintro D σ H ⟨w, σI, B, s, x0, p⟩
  refine st_go s x0 p fun d B1 w1 v H1 x1 x2 s1 r p1 => ?_
  split at p1
  · rename_i ds0 hi
    refine own_at s1 (fun a vs e1 ha => ⟨_, e1, ?_⟩) ⟨ds0, hi⟩
    refine st_go s1 x1 p1 fun k B2 w2 kv H2 y1 y2 s2 r2 p2 => ?_
    split at p2
    · rename_i k
      obtain ⟨a', vs', ds, es, f1, f2, f3, f4, f5, kk⟩ := upO_go s2 y1 p2
      rw [e1] at f1; cases f1
      obtain ⟨j, hj, rfl⟩ := Option.map_eq_some_iff.mp f5
      exact ⟨a, vs', k, j, rfl, r2.up.int s2, f2, by rw [f3.len]; exact hj, kk _ (Reps.set j f3 (Rep.mono y2.le _ _ r))⟩
    · exact p2.elim
  · exact p1.elim
end

/-! ### calls -/
def PostC (g : Gs) (E : XK) (w : Wd) (H : Hp) (Q : VK) : Rs D → Prop
  | .ok d B' => ∀ w' v H', Ext w H w' H' → RB g w' B' H' → Rep g w' d v → Q v H'
  | .exc c x B' => ∀ w' cls dd H', Ext w H w' H' → RB g w' B' H' → ExcR g w' c x cls dd H' → E cls dd H'
  | .bad => False
/-- the promise of a def whose meaning is f -/
def spF (g : Gs) (f : Fn) : Sp := fun vs H Q E => ∃ w ds B, RB g w B H ∧ Reps g w ds vs ∧ PostC g E w H Q (f ds B)
/-- a body's end as a call's result -/
def Ss.fin : Ss → Rs D
  | .next _ B => .ok .none B
  | .ret d B => .ok d B
  | .exc c x B => .exc c x B
  | .bad => .bad
/-- the meaning of a def: n parameters, k names in all -/
def mkFn (n k : Nat) (b : Ms) : Fn := fun ds B => if ds.length = n then (b (ds.map (fun d => some (false, d)) ++ List.replicate (k - n) Option.none) B).fin else .bad
/-- what a body may count on -/
structure OkC (g : Gs) (E : XK) (lv : Nat) (X : Cx) : Prop extends Ok g X where
  room : Room lv X.A
  hx : Passes (L2N.CX X.prog X.w) X E
theorem OkC.blk {g : Gs} {E : XK} {lv : Nat} {X : Cx} (k : OkC g E lv X) (s : Shared) (H : Hp) (scope : Scope) (env : Env) (fp : List Addr) : OkC g E0 lv (X.blk s H scope env fp) := ⟨k.toOk.blk s H scope env fp, k.room, passN⟩
/-- a def of the module -/
def Def (g : Gs) (k : Nat) (x : Str) (dfl : List D) (f : Fn) : Prop := ∃ (fa : Addr) (fd : FuncData) (ps : List Str) (dvs : List V) (ds : List Value), FnOk g.prog g.w g.K g.mg g.base (L2N.CX g.prog g.w) k fa fd ps (spF g f) ∧ g.mg x = some (.ref fa) ∧ PySem.W.keepIn g.K (.ref fa) = true ∧ Binds g.K fd ps ds ∧ Vals dvs ds ∧ ∀ w, Reps g w dfl dvs
section
variable {g : Gs} {E : XK} {w0 w : Wd} {H0 H : Hp} {X : Cx} {e : Expr} {es : List Expr} {ms : Evs} {pos p : Pos} {x : Str} {f : Fn} {lv k : Nat} {dfl : List D} {σI : Sl} {σ : L2.St} {B : Bs} {Q : VK}
def mCall (f : Fn) (dfl : List D) (ms : Evs) : Ev := fun σ B => (ms σ B).bind fun ds B1 => f (ds ++ dfl) B1
theorem PostC.of (s : S0 g H0 w σI B σ H) : ∀ {m : Rs D}, PostE g E w H σI σ false Q m → PostC g E w H Q m
  | .ok _ _, h => h
  | .exc _ _ _, h => h
  | .bad, h => h
theorem call_go {sp : Sp} {dvs : List V} (hsp : sp = spF g f) (hd : ∀ w, Reps g w dfl dvs) : ∀ σ H Q, tI g E H0 false (mCall f dfl ms) σ H Q → tCall sp dvs E (tIs g E H0 ms) σ H Q := by
  subst hsp
  rintro σ H Q ⟨w, σI, B, s, p⟩
  exact tIs_bind s p fun ds B1 w1 vs H1 x1 s1 r1 p1 => ⟨w1, ds ++ dfl, B1, s1.rb, Reps.app r1 (hd w1), PostC.of s1 p1⟩
theorem s_call (c : OkC g E lv X) (d : Def g k x dfl f) (hk : k ≤ lv) (ha : Snds g E H0 X (e :: es) ms) (hg : Gl X x := by rfl) (hdb : (x == ("__debug__" : Str)) = false := by decide) (he : starEach (e :: es) X.env = (false, eval e X.env) :: starEach es X.env := by rfl) (hpl : (backTo pos (starEach es X.env)).any (·.1) = false := by rfl) :
    Snd g E H0 X false (.Call (.Name x p) (e :: es) [] pos) (mCall f dfl ms) := by
  obtain ⟨fa, fd, ps, dvs, ds, F, hm, kp, b, hd, hr⟩ := d
  obtain ⟨prog, w', K, mg, base, A, N, s_0, H_0, env, outer, stack, ex, fn, calm, pn, xe⟩ := X
  obtain ⟨⟨h1, h2, h3, h4, h5, h6, h7, hfx⟩, h8, h9⟩ := c
  simp only at h1 h2 h5 h6 h7
  subst h1 h2 h5 h6 h7
  exact weak (pe_call F (h8.mono hk) hg hm kp b hd h9 ha hdb he hpl) (call_go rfl hr)
/-! ### a def keeps its promise -/
variable {P : Program} {K : PySem.W.Frag} {base : Heap}
theorem start_at {N : List Str} {ds : List D} {vs : List V} {n : Nat} (rb : RB g w B H) (r : Reps g w ds vs) (hn : ds.length = n) (hN : n ≤ N.length) : S0 g H w (ds.map (fun d => some (false, d)) ++ List.replicate (N.length - n) Option.none) B (L2.start N vs) H where
  rb := rb
  len := by simp [L2.start, r.len, hn]
  sl := fun i d h => by
    by_cases hi : i < ds.length
    · rw [List.getElem?_append_left (by simpa using hi), List.getElem?_map] at h
      cases q : ds[i]? with
      | none => rw [q] at h; cases h
      | some d' =>
        rw [q] at h; cases h
        obtain ⟨v, e1, rv⟩ := Reps.get r q
        refine ⟨v, ?_, rv⟩
        unfold L2.start
        rw [List.getElem?_append_left (by rw [List.length_map, r.len]; exact hi), List.getElem?_map, e1]; rfl
    · rw [List.getElem?_append_right (by simp; omega)] at h
      rw [List.getElem?_replicate] at h
      split at h <;> cases h
  ow := fun i d h => by
    by_cases hi : i < ds.length
    · rw [List.getElem?_append_left (by simpa using hi), List.getElem?_map] at h
      cases q : ds[i]? with
      | none => rw [q] at h; cases h
      | some d' => rw [q] at h; cases h
    · rw [List.getElem?_append_right (by simp; omega)] at h
      rw [List.getElem?_replicate] at h
      split at h <;> cases h
  oi := fun i j d e a h => by
    by_cases hi : i < ds.length
    · rw [List.getElem?_append_left (by simpa using hi), List.getElem?_map] at h
      cases q : ds[i]? with
      | none => rw [q] at h; cases h
      | some d' => rw [q] at h; cases h
    · rw [List.getElem?_append_right (by simp; omega)] at h
      rw [List.getElem?_replicate] at h
      split at h <;> cases h
  me := fun i c es a h => by
    by_cases hi : i < ds.length
    · rw [List.getElem?_append_left (by simpa using hi), List.getElem?_map] at h
      cases q : ds[i]? with
      | none => rw [q] at h; cases h
      | some d' => rw [q] at h; cases h
    · rw [List.getElem?_append_right (by simp; omega)] at h
      rw [List.getElem?_replicate] at h
      split at h <;> cases h
/-- a def of the text whose body means b -/
theorem def_ok {x qual : Str} {st : Stmt} {fa : Addr} {fd : FuncData} {N ps : List Str} {n : Nat} {b : Ms} (F : L2.Fun g.K x qual st fa fd) (S : FnScope N ps (defScope st)) (hn : ps.length = n) (hN : n ≤ N.length)
    (fx : Fx g) (hb : ∀ (E : XK) (w0 : Wd) (H0 : Hp) (X : Cx), OkC g E k X → PassesOwn (model X.prog X.w) X.A X.env X.xe → L2N.Takes X (fun cls d _ H => E cls d H) → X.N = N → X.env.scope = defScope st → X.fn = (fun _ => true) → SndB g E w0 H0 X (defBody st) b) :
    FnOk g.prog g.w g.K g.mg g.base (L2N.CX g.prog g.w) (k + 1) fa fd ps (spF g (mkFn n N.length b)) := by
  refine F.okN S (fun vs H Q E h => ?_) (fun cdv A outer s H vs Q E hr h => ?_)
  · obtain ⟨w, ds, B, rb, r, p⟩ := h
    unfold mkFn at p
    split at p
    · rename_i e; rw [r.len, e, hn]
    · exact p.elim
  · obtain ⟨w, ds, B, rb, r, p⟩ := h
    unfold mkFn at p
    split at p
    · rename_i e
      refine ⟨_, hb E w H _ ⟨⟨rfl, rfl, rfl, ?_, rfl, rfl, rfl, fx⟩, hr, ?_⟩ (passes_of rfl) (L2N.takes_of rfl rfl rfl rfl) rfl rfl rfl, ?_⟩
      · have := hr.un; show A.units + 3 + 100 < cLine; have h2 : A.units + 3 + 16 * k + 200 < cLine := this; omega
      · exact L2N.passes_call (L2N.takes_of rfl rfl rfl rfl) (fun _ _ _ _ h => h)
      · refine ⟨w, _, B, start_at rb r e hN, Ext.refl _ _, ?_⟩
        revert p
        generalize b _ B = q
        intro p
        cases q with
        | next σI' B' => exact fun w' σ H' _ s x => p w' .non H' x s.rb (rep_none g w')
        | ret d B' => exact fun w' v H' rb x r => p w' v H' x rb r
        | exc c y B' => exact fun w' cls dd H' rb x r => p w' cls dd H' x rb r
        | bad => exact p
    · exact p.elim
end
end Hf

set_option Elab.async false
set_option linter.all false
set_option maxRecDepth 100000
set_option maxHeartbeats 4000000
namespace Hf
open PySem PySem.Spec PyProof.Rows L2

section
variable {g : Gs} {w : Wd} {H H0 : Hp} {σI : Sl} {σ : L2.St} {B : Bs} {x : V} {c : Nat} {ds : List D}
theorem RepO.inst (s : S0 g H0 w σI B σ H) (h : RepO g w σI σ (.inst c ds) x) : ∃ a dx vs, x = .ref a ∧ H a = some (.ins (g.cl c) dx ((fldN c).zip vs)) ∧ ds.length ≤ (fldN c).length ∧ g.has c = true ∧ Reps g w ds vs := by
  rcases h with h | ⟨i, h1, h2⟩
  · simp only [Rep] at h
    obtain ⟨a, dx, vs, rfl, p, l, hc, r⟩ := h
    exact ⟨a, dx, vs, rfl, s.rb.sub _ _ p, by omega, hc, r⟩
  · obtain ⟨a, o, e, ha, ct, _⟩ := s.ow i _ h1
    rw [h2] at e
    cases e
    simp only [Cont] at ct
    obtain ⟨dx, vs, rfl, l, hc, r⟩ := ct
    exact ⟨a, dx, vs, rfl, ha, l, hc, r⟩
theorem zip_lookup : ∀ {ns : List Str} {vs : List V} {j : Nat} {f : Str} {v : V}, ns.Nodup → ns[j]? = some f → vs[j]? = some v → (ns.zip vs).lookup f = some v
  | [], _, _, _, _, _, h, _ => by simp at h
  | n :: ns, [], j, f, v, _, _, h => by simp at h
  | n :: ns, u :: us, 0, f, v, nd, h1, h2 => by
    simp at h1 h2; subst h1 h2
    simp [List.lookup]
  | n :: ns, u :: us, j + 1, f, v, nd, h1, h2 => by
    simp only [List.getElem?_cons_succ] at h1 h2
    have hne : f ≠ n := fun e => by
      subst e
      exact (List.nodup_cons.mp nd).1 (List.mem_of_getElem? h1)
    simp only [List.zip_cons_cons, List.lookup]
    rw [show (f == n) = false from beq_eq_false_iff_ne.mpr hne]
    exact zip_lookup (List.nodup_cons.mp nd).2 h1 h2
theorem putF_zip : ∀ {ns : List Str} {vs : List V} {f : Str} {v : V}, ns.Nodup → ns[vs.length]? = some f → putF f v (ns.zip vs) = ns.zip (vs ++ [v])
  | [], vs, f, v, _, h => by simp at h
  | n :: ns, [], f, v, _, h => by simp at h; subst h; simp [putF]
  | n :: ns, u :: us, f, v, nd, h => by
    simp only [List.length_cons, List.getElem?_cons_succ] at h
    have hne : n ≠ f := fun e => by
      subst e
      exact (List.nodup_cons.mp nd).1 (List.mem_of_getElem? h)
    simp only [List.zip_cons_cons, List.cons_append, putF]
    rw [if_neg hne, putF_zip (List.nodup_cons.mp nd).2 h]
end
section
variable {g : Gs} {E : XK} {w0 w : Wd} {H0 H : Hp} {X : Cx} {e o : Expr} {es : List Expr} {m : Ev} {ms : Evs} {pos p p1 p2 : Pos} {x : Str} {f : Fn} {lv k c : Nat} {dfl : List D} {σI : Sl} {σ : L2.St} {B : Bs} {Q : VK} {b1 : Bool} {i : Nat}
/-! ### fields -/
def mFld (c j : Nat) (m : Ev) : Ev := fun σ B => (m σ B).bind fun d B1 => match d with
  | .inst c' ds => if c' = c then okIf ds[j]? B1 else .bad
  | _ => .bad
theorem s_fld (ok : Ok g X) {j : Nat} {n : Str} (hj : (fldN c)[j]? = some n) (he : Snd g E H0 X b1 e m) (hb : attributeBase e n X.env (eval e X.env) = eval e X.env := by rfl) : Snd g E H0 X false (.Attribute e n pos) (mFld c j m) := by
  refine weak (pe_fld he hb) ?_
  rintro σ H Q ⟨w, σI, B, s, p⟩
  refine tI_bind s p fun d B1 w1 v H1 x1 s1 r1 p1 => ?_
  split at p1
  · rename_i c' ds
    split at p1
    · rename_i hc
      subst hc
      obtain ⟨d, hd, p2⟩ := okIf_go p1
      obtain ⟨a, dx, vs, rfl, ha, hl, hh, r⟩ := r1.up.inst s1
      have C := ok.fx.cls _ hh
      obtain ⟨u, e1, ru⟩ := Reps.get r hd
      rw [ok.K]
      exact ⟨a, _, dx, _, u, rfl, ha, C.cls, C.na _ (List.mem_of_getElem? hj), zip_lookup C.nd hj e1, p2.nowR s1 ru⟩
    · exact p1.elim
  · exact p1.elim
/-- self.f = e in an __init__: self is the own instance in slot 0 -/
def mFldSet (c : Nat) (m : Ev) : Ms := fun σ B => (m σ B).st fun d B1 => match σ[(0 : Nat)]? with
  | some (some (true, .inst c' ds)) => if c' = c ∧ ds.length < (fldN c).length then .next (σ.set 0 (some (true, .inst c (ds ++ [d])))) B1 else .bad
  | _ => .bad
theorem fldN_len (c : Nat) : (fldN c).length ≤ 3 := by
  unfold fldN
  split <;> simp
theorem z_fldSet (ok : Ok g X) {j : Nat} {n : Str} (hj : (fldN c)[j]? = some n) (he : Snd g E H0 X false e m) (hN : X.N[0]? = some x := by rfl) (hv : Vis X.env.scope x := by first | exact Or.inl rfl | exact Or.inr (Or.inl rfl) | exact Or.inr (Or.inr rfl)) (hd : (x == ("__debug__" : Str)) = false := by decide) (hcd : (x == ("__classdict__" : Str)) = false := by decide)
    (hs : swapsWith e (some (.Attribute (.Name x p1) n p2)) pos.line X.env = pure false := by rfl) : SndS g E w0 H0 X (.Assign [.Attribute (.Name x p1) n p2] e pos) (fun σ B => match σ[(0 : Nat)]? with
      | some (some (true, .inst _ ds)) => if ds.length = j then mFldSet c m σ B else .bad
      | _ => .bad) := by
  refine weakS (ps_fld (pe_var hN hv hd hcd) he hs) ?_
  rintro D σ H ⟨w, σI, B, s, x0, p⟩
  unfold mFldSet at p
  simp only at p
  split at p
  · rename_i c0 ds hi
    split at p
    · rename_i hl0
      subst hl0
      refine st_go s x0 p fun d B1 w1 v H1 x1 x2 s1 r p1 => ?_
      simp only at p1
      split at p1
      · rename_i h
        obtain ⟨hc, hl⟩ := h
        subst hc
        obtain ⟨a, o, e1, ha, ct, np, nb, n0⟩ := s1.ow 0 _ hi
        simp only [Cont] at ct
        obtain ⟨dx, vs, rfl, l, hh, rr⟩ := ct
        have C := ok.fx.cls _ hh
        refine ⟨_, e1, a, _, dx, _, rfl, ha, ok.K ▸ C.cls, ok.K ▸ C.na _ (List.mem_of_getElem? hj), ?_, ?_⟩
        · have := fldN_len c0; rw [List.length_zip]; omega
        · rw [putF_zip C.nd (by rw [rr.len]; exact hj)]
          exact p1 w1 σ _ (Le.refl _) (s1.mut hi e1 (by simp only [Cont]; exact ⟨dx, _, rfl, by simp; omega, hh, Reps.app rr (Reps.one r)⟩) (fun _ _ _ => ⟨_, _, rfl⟩)) (x1.mut n0)
      · exact p1.elim
    · exact p.elim
  · exact p.elim
end
end Hf

set_option Elab.async false
set_option linter.all false
set_option maxRecDepth 100000
set_option maxHeartbeats 4000000
namespace Hf
open PySem PySem.Spec PyProof.Rows L2

/-- a constant of the module -/
def GlobC (g : Gs) (x : Str) (d : D) : Prop := ∃ v u, g.mg x = some u ∧ RelV v u ∧ ∀ w, Rep g w d v
theorem nbs {g : Gs} {X : Cx} (ok : Ok g X) {x : String} (h : x ∈ ["len", "range", "isinstance", "tuple", "list", "all", "any", "max", "min", "set", "sorted", "enumerate", "zip", "repr", "str", "int", "sum", "dict", "bool"] := by decide) : X.mg (Str.ofString x) = Option.none := by
  rw [ok.mg]
  exact ok.fx.nb x h
section
variable {g : Gs} {E : XK} {w0 w : Wd} {H0 H : Hp} {X : Cx} {e o a b : Expr} {es : List Expr} {m ma mb : Ev} {ms : Evs} {pos p p1 p2 apos : Pos} {x : Str} {f : Fn} {lv k c : Nat} {dfl : List D} {σI : Sl} {σ : L2.St} {B : Bs} {Q : VK} {b1 b2 : Bool} {i : Nat}
theorem s_glob (ok : Ok g X) {d : D} (G : GlobC g x d) (hg : Gl X x := by rfl) (hd : (x == ("__debug__" : Str)) = false := by decide) : Snd g E H0 X false (.Name x pos) (mC d) := by
  obtain ⟨v, u, hm, r, h⟩ := G
  exact s_const (pe_glob hg (by rw [ok.mg]; exact hm) r hd) h
/-! ### isinstance -/
def isB : Bt → D → Option Bool
  | .int, .int _ => some true
  | .int, .bool _ => some true
  | .bool, .bool _ => some true
  | .tuple, .tup _ => some true
  | .str, .str _ => some true
  | .list, .lst _ => some true
  | .list, .scr _ => some true
  | _, .prs _ => Option.none
  | _, .box _ => Option.none
  | _, .cls _ => Option.none
  | _, .ptr _ => Option.none
  | _, .fnT _ => Option.none
  | _, .exo .. => Option.none
  | _, _ => some false
def tyN : D → Option String
  | .none => some "NoneType"
  | .int _ => some "int"
  | .bool _ => some "bool"
  | .str _ => some "str"
  | .lst _ => some "list"
  | .scr _ => some "list"
  | .tup _ => some "tuple"
  | .dct _ _ => some "dict"
  | .kd _ _ => some "dict"
  | _ => Option.none
def TyY (g : Gs) (H : Hp) (v : V) (t : Value) : Prop := TyX g.K H v t ∨ (∃ a xs, v = .ref a ∧ H a = some (dctO g a xs) ∧ t = .type "dict") ∨ ∃ (a : Addr) (k x : Int), v = .ref a ∧ H a = some (.dK [(.inl k, .int x)]) ∧ t = .type "dict"
def rIsY (g : Gs) : List V → Hp → VK → Prop := fun xs H Q => ∃ (x c : V) (t u : Value) (b : Bool), xs = [x, c] ∧ ClsV c u ∧ TyY g H x t ∧ PySem.W.kitOne g.K t u = some b ∧ Q (.bl b) H
theorem call_isY (hK : X.K = g.K) : CallR X (.builtin "isinstance") (rIsY g) := by
  intro pins s σ H xs us Q I r h
  obtain ⟨x, c, t, u, b, rfl, k, ty, e, q⟩ := h
  rcases ty with ty | ⟨a, ys, rfl, ha, rfl⟩ | ⟨a, kk, kx, rfl, ha, rfl⟩
  · exact call_isi pins s σ H _ us Q I r ⟨x, c, t, u, b, rfl, k, hK ▸ ty, hK ▸ e, q⟩
  · obtain ⟨u1, u2, rfl, r1, r2⟩ := vals2 r
    have e2 := k.eq r2
    subst e2
    cases (show u1 = Value.ref a from r1)
    obtain ⟨⟨_, _, _, _, _, _, o, es, ep, h1, h2, _⟩, _, _⟩ := (show ObjOk X.prog X.w H s.heap a (dctO g a ys) from I.hok a _ ha)
    exact PySem.W.kia_one PySem.W.kitx_dict I.kIn ⟨o, h1, h2.1⟩ (hK ▸ e) (fun z => nomatch z) fun tk => ⟨.bl b, H, I.tok tk, rfl, q⟩
  · obtain ⟨u1, u2, rfl, r1, r2⟩ := vals2 r
    have e2 := k.eq r2
    subst e2
    cases (show u1 = Value.ref a from r1)
    obtain ⟨_, _, vs, _, o, es, ep, h1, h2, _⟩ := dk_of I.hok ha
    exact PySem.W.kia_one PySem.W.kitx_dict I.kIn ⟨o, h1, h2.1⟩ (hK ▸ e) (fun z => nomatch z) fun tk => ⟨.bl b, H, I.tok tk, rfl, q⟩
theorem tyX_of (s : S0 g H0 w σI B σ H) {d : D} {v : V} {n : String} (r : RepO g w σI σ d v) (h : tyN d = some n) : TyY g H v (.type n) := by
  by_cases hd : ∃ ks ds, d = .dct ks ds
  · obtain ⟨ks, ds, rfl⟩ := hd
    cases h
    obtain ⟨a, xs, rfl, ha, _⟩ := r.dct s
    exact .inr (.inl ⟨a, xs, rfl, ha, rfl⟩)
  by_cases hk : ∃ k x, d = .kd k x
  · obtain ⟨k, x, rfl⟩ := hk
    cases h
    have z := r.of s (by simp) (by simp) (by simp)
    simp only [Rep] at z
    obtain ⟨a, rfl, ha⟩ := z
    exact .inr (.inr ⟨a, k, x, rfl, s.rb.sub _ _ ha, rfl⟩)
  refine .inl ?_
  cases d <;> simp only [tyN, Option.some.injEq, reduceCtorEq] at h <;> subst h
  · rw [r.none s]; exact .base .non
  · rw [r.bool s]; exact .base (.bl _)
  · rw [r.int s]; exact .base (.int _)
  · rw [r.str s]; exact .base (.str _)
  · obtain ⟨a, vs, rfl, q, _⟩ := r.tup s
    rcases q with (q | ⟨o, q⟩) | ⟨o, its, n, q, q2, _⟩
    · exact .base (.tup q)
    · exact .fTuple q
    · exact .kTuple q q2
  · obtain ⟨a, vs, rfl, q, _⟩ := r.lst s
    exact .base (.lst q)
  · obtain ⟨a, vs, rfl, q, _⟩ := r.scr s
    rcases q with (q | ⟨o, q⟩) | ⟨o, its, n, q, q2, _⟩
    · exact .base (.lst q)
    · exact .base (.frz q)
    · exact .kList q q2
  · exact absurd ⟨_, _, rfl⟩ hd
  · exact absurd ⟨_, _, rfl⟩ hk
theorem tyX_ins (ok : Ok g X) (s : S0 g H0 w σI B σ H) {ds : List D} {v : V} (r : RepO g w σI σ (.inst c ds) v) : g.has c = true ∧ TyY g H v (.ref (g.cl c)) := by
  obtain ⟨a, dx, vs, rfl, ha, hl, hh, r⟩ := r.inst s
  have C := ok.fx.cls _ hh
  exact ⟨hh, .inl (.base (.ins ha C.cls C.ha ok.fx.hn ok.fx.htk C.hm))⟩
theorem kit_tab : ∀ T : Bt, ∀ n ∈ ["NoneType", "int", "bool", "str", "list", "tuple", "dict"], kitB n T.nm = some (n == T.nm || (n == "bool" && T == .int)) := by
  intro T
  cases T <;> decide +kernel
theorem tyN_mem {d : D} {n : String} (h : tyN d = some n) : n ∈ ["NoneType", "int", "bool", "str", "list", "tuple", "dict"] := by
  cases d <;> simp only [tyN, Option.some.injEq, reduceCtorEq] at h <;> subst h <;> decide
theorem isB_ty (T : Bt) {d : D} {n : String} (h : tyN d = some n) : isB T d = some (n == T.nm || (n == "bool" && T == .int)) := by
  cases d <;> simp only [tyN, Option.some.injEq, reduceCtorEq] at h <;> subst h <;> cases T <;> rfl
theorem isB_kit (ok : Ok g X) (T : Bt) (s : S0 g H0 w σI B σ H) {d : D} {v : V} {r : Bool} (hr : RepO g w σI σ d v) (h : isB T d = some r) : ∃ t, TyY g H v t ∧ PySem.W.kitOne g.K t (.type T.nm) = some r := by
  cases q : tyN d with
  | some n =>
    refine ⟨_, tyX_of s hr q, ?_⟩
    rw [isB_ty T q] at h
    cases h
    exact kit_ty (kit_tab T n (tyN_mem q))
  | none =>
    cases d <;> simp only [tyN, reduceCtorEq] at q
    · cases T <;> simp [isB] at h
    · obtain ⟨hh, ty⟩ := tyX_ins ok s hr
      refine ⟨_, ty, ?_⟩
      have : r = false := by cases T <;> simp [isB] at h <;> first | exact h | exact h.symm
      subst this
      exact (ok.fx.cls _ hh).isB T
    · cases T <;> simp [isB] at h
    · cases T <;> simp [isB] at h
    · cases T <;> simp [isB] at h
    · cases T <;> simp [isB] at h
    · cases T <;> simp [isB] at h
def mIsB (T : Bt) (m : Ev) : Ev := m1 (fun d B => match isB T d with
  | some r => .ok (.bool r) B
  | Option.none => .bad) m
theorem boot_bt (T : Bt) : bootBuiltins (Str.ofString T.nm) = some (.type T.nm) := by cases T <;> decide +kernel
theorem nm_mem (T : Bt) : T.nm ∈ ["len", "range", "isinstance", "tuple", "list", "all", "any", "max", "min", "set", "sorted", "enumerate", "zip", "repr", "str", "int", "sum", "dict", "bool"] := by cases T <;> decide
theorem s_isB (ok : Ok g X) (T : Bt) {tn : Str} (ht : tn = Str.ofString T.nm) (he : Snd g E H0 X b1 e m) (hg : Gl X "isinstance" := by rfl) (hg2 : Gl X tn := by rfl) (hd : (tn == ("__debug__" : Str)) = false := by decide) (hn : tn ≠ "__name__" := by decide)
    (h1 : starEach [e, .Name tn p2] X.env = (false, eval e X.env) :: starEach [.Name tn p2] X.env := by rfl) (h2 : starEach [.Name tn p2] X.env = (false, eval (.Name tn p2) X.env) :: starEach [] X.env := by rfl) (hpl : (backTo pos (starEach [.Name tn p2] X.env)).any (·.1) = false := by rfl) :
    Snd g E H0 X false (.Call (.Name "isinstance" p1) [e, .Name tn p2] [] pos) (mIsB T m) := by
  subst ht
  refine weak (pe_callB (call_isY (g := g) ok.K) hg (nbs ok) PyProof.Rows.boot_isinstance (pa_cons he (pa_cons (pe_bltn (v := .ty T.nm) hg2 (by rw [ok.mg]; exact ok.fx.nb _ (nm_mem T)) (boot_bt T) rfl hn hd) pa_nil h2) h1) (by decide) (by decide) h1 hpl) ?_
  rintro σ H Q ⟨w, σI, B, s, p⟩
  refine tI_bind s p fun d B1 w1 v H1 x1 s1 r1 p1 => ?_
  split at p1
  · rename_i r hr
    obtain ⟨t, ty, kt⟩ := isB_kit ok T s1 r1.up hr
    exact ⟨v, _, t, _, r, rfl, .ty _, ty, kt, p1.nowR s1 (rep_bool g w1 _)⟩
  · exact p1.elim
def isC (c : Nat) : D → Option Bool
  | .inst c' _ => some (subC c' c)
  | .prs _ => Option.none
  | .box _ => Option.none
  | .cls _ => Option.none
  | .ptr _ => Option.none
  | .fnT _ => Option.none
  | .exo .. => Option.none
  | _ => some false
def mIsC (c : Nat) (m : Ev) : Ev := m1 (fun d B => match isC c d with
  | some r => .ok (.bool r) B
  | Option.none => .bad) m
/-- a class of the module by its name -/
structure ClsN (g : Gs) (c : Nat) (x : Str) : Prop where
  has : g.has c = true
  mg : g.mg x = some (.ref (g.cl c))
theorem s_isC (ok : Ok g X) (N : ClsN g c x) (he : Snd g E H0 X b1 e m) (hg : Gl X "isinstance" := by rfl) (hg2 : Gl X x := by rfl) (hd : (x == ("__debug__" : Str)) = false := by decide)
    (h1 : starEach [e, .Name x p2] X.env = (false, eval e X.env) :: starEach [.Name x p2] X.env := by rfl) (h2 : starEach [.Name x p2] X.env = (false, eval (.Name x p2) X.env) :: starEach [] X.env := by rfl) (hpl : (backTo pos (starEach [.Name x p2] X.env)).any (·.1) = false := by rfl) :
    Snd g E H0 X false (.Call (.Name "isinstance" p1) [e, .Name x p2] [] pos) (mIsC c m) := by
  refine weak (pe_callB (call_isY (g := g) ok.K) hg (nbs ok) PyProof.Rows.boot_isinstance (pa_cons he (pa_cons (pe_glob (v := .ref (g.cl c)) hg2 (by rw [ok.mg]; exact N.mg) rfl hd) pa_nil h2) h1) (by decide) (by decide) h1 hpl) ?_
  rintro σ H Q ⟨w, σI, B, s, p⟩
  refine tI_bind s p fun d B1 w1 v H1 x1 s1 r1 p1 => ?_
  split at p1
  · rename_i r hr
    have key : ∃ t, TyY g H1 v t ∧ PySem.W.kitOne g.K t (.ref (g.cl c)) = some r := by
      cases q : tyN d with
      | some n =>
        have e : r = false := by cases d <;> simp [isC, tyN] at hr q <;> first | exact hr | exact hr.symm
        subst e
        exact ⟨_, tyX_of s1 r1.up q, (ok.fx.cls _ N.has).isO n (tyN_mem q)⟩
      | none =>
        cases d <;> simp only [tyN, reduceCtorEq] at q
        · simp [isC] at hr
        · obtain ⟨hh, ty⟩ := tyX_ins ok s1 r1.up
          simp only [isC, Option.some.injEq] at hr
          subst hr
          exact ⟨_, ty, ok.fx.sub _ _ hh N.has⟩
        · simp [isC] at hr
        · simp [isC] at hr
        · simp [isC] at hr
        · simp [isC] at hr
        · simp [isC] at hr
    obtain ⟨t, ty, kt⟩ := key
    exact ⟨v, _, t, _, r, rfl, .own _, ty, kt, p1.nowR s1 (rep_bool g w1 _)⟩
  · exact p1.elim
/-! ### methods and properties of instances -/
def Prp (g : Gs) (k c : Nat) (n : Str) (f : Fn) : Prop := ∃ (pa fa : Addr) (fd : FuncData) (ps : List Str), FnOk g.prog g.w g.K g.mg g.base (L2N.CX g.prog g.w) k fa fd ps (spF g f) ∧ PropOf g.K (g.cl c) n pa fa ∧ Binds g.K fd ps [] ∧ g.has c = true
def prpK (c : Nat) (f : Fn) : D → Bs → Rs D
  | .inst c' ds, B1 => if c' = c then noX (f [.inst c' ds] B1) else .bad
  | _, _ => .bad
theorem prpK_or (c : Nat) (f : Fn) (d : D) (B : Bs) : prpK c f d B = .bad ∨ ∃ ds, d = .inst c ds ∧ prpK c f d B = noX (f [.inst c ds] B) := by
  cases d <;> first | exact .inl rfl | skip
  rename_i c' ds
  by_cases e : c' = c
  · subst e; exact .inr ⟨ds, rfl, if_pos rfl⟩
  · exact .inl (if_neg e)
def mPrp (c : Nat) (f : Fn) (m : Ev) : Ev := fun σ B => (m σ B).bind (prpK c f)
theorem noX_go (s : S0 g H0 w σI B σ H) : ∀ {r : Rs D}, PostE g E w H σI σ false Q (noX r) → PostC g E0 w H Q r
  | .ok _ _, h => h
  | .exc _ _ _, h => h.elim
  | .bad, h => h
theorem pass_nox {P : Program} {w : World} {X : Cx} : Passes (L2N.CX P w) X E0 := fun _ _ _ _ _ _ _ h => by
  obtain ⟨_, _, _, _, _, _, _, _, _, _, _, _, z⟩ := h
  exact z.elim
theorem s_prp (ok : OkC g E lv X) {n : Str} (D : Prp g k c n f) (hk : k + 1 ≤ lv) (he : Snd g E H0 X false e m) (hab : attributeBase e n X.env (eval e X.env) = eval e X.env := by rfl) : Snd g E H0 X false (.Attribute e n pos) (mPrp c f m) := by
  obtain ⟨pa, fa, fd, ps, F, hp, b, hc⟩ := D
  have C := ok.fx.cls _ hc
  obtain ⟨prog, w', K, mg, base, A, N, s_0, H_0, env, outer, stack, ex, fn, calm, pn, xe⟩ := X
  obtain ⟨⟨h1, h2, h3, h4, h5, h6, h7, hfx⟩, h8, h9⟩ := ok
  simp only at h1 h2 h5 h6 h7
  subst h1 h2 h5 h6 h7
  refine weak (pe_prop he C.cls hp F (h8.mono hk) b .nil (E := E0) pass_nox hab) ?_
  rintro σ H Q ⟨w, σI, B, s, p⟩
  refine tI_bind s p fun d B1 w1 v H1 x1 s1 r1 p1 => ?_
  rcases prpK_or c f d B1 with e | ⟨ds, rfl, e⟩
  · rw [e] at p1; exact p1.elim
  · rw [e] at p1
    obtain ⟨a, dx, vs, e1, ha, hl, hh, rr⟩ := (RepB.up r1).inst s1
    subst e1
    exact ⟨a, dx, _, rfl, ha, w1, _, B1, s1.rb, Reps.one r1, noX_go s1 p1⟩
end
end Hf

set_option Elab.async false
set_option linter.all false
set_option maxRecDepth 100000
set_option maxHeartbeats 8000000
namespace Hf
open PySem PySem.Spec PyProof.Rows L2
theorem sub_tuple_set : isSubtype (.type "tuple") (.type "set") = pure false := by
  rw [isSubtype_type]; kernel_rfl
theorem sub_tuple_frozenset : isSubtype (.type "tuple") (.type "frozenset") = pure false := by
  rw [isSubtype_type]; kernel_rfl
abbrev newSet (w : World) : Obj := { cls := .type "set", dict := none, data := .set #[] 0 (.fresh 0 0 (!w.params.followText "set-order")) }
theorem heap_none {h : Heap} {b : Addr} (hb : h.objs.size ≤ b) : h.get? b = Option.none := by
  cases q : h.get? b with
  | none => rfl
  | some o => exact (Nat.lt_irrefl _ (Nat.lt_of_lt_of_le (Heap.lt_size q) hb)).elim
section
variable {P : Program} {w : World} {A : Around} {E : Value → Shared → Prop} {s : Shared}
/-- set(x), x a list or a tuple: what its loop leaves, by whatever invariant the loop's lemma has -/
theorem set_of {Fin : Heap → Prop} {l : Addr} {T : String} {odict : Option Addr} {odata : Data} {oslots : Array (Option Value)} {ito : Obj} {Q : Value → Shared → Prop}
    (hol : s.heap.get? l = some { cls := .type T, dict := odict, data := odata, slots := oslots }) (sl1 : isSubtype (.type T) (.type "set") = pure false) (sl2 : isSubtype (.type T) (.type "frozenset") = pure false) (hne : (Value.type T == Value.type "dict") = false)
    (iter : ∀ (A' : Around) (E' : Value → Shared → Prop) (s1 : Shared) (Q' : Value → Shared → Prop), s1.heap.get? l = some { cls := .type T, dict := odict, data := odata, slots := oslots } → Q' (.ref s1.heap.objs.size) { s1 with heap := s1.heap.push ito } → wpAny (model P w) A' (pyIter (.ref l)) Q' E' s1)
    (loop : ∀ (R : Result → Shared → Prop), (∀ (h' : Heap) (tk : Nat), Fin h' → (∀ b o, s.heap.get? b = some o → h'.get? b = some o) → R (.ok (.ret .none)) { s with heap := h', toks := tk }) →
      codeAny (model P w) A.in1.in1 (.builtin "set.update.loop" ⟨[.ref s.heap.objs.size, .ref (s.heap.push (newSet w)).objs.size], []⟩) R { s with heap := (s.heap.push (newSet w)).push ito })
    (h : ∀ (h' : Heap) (tk : Nat), Fin h' → (∀ b o, s.heap.get? b = some o → h'.get? b = some o) → Q (.ref s.heap.objs.size) { s with heap := h', toks := tk }) :
    wpAny (model P w) A (call (.type "set") [.ref l]) Q E s := by
  obtain ⟨mc, mt, hmro⟩ := F.called_set.mro
  have hmade := F.called_set.made
  have hsub := F.called_set.sub
  refine wpAny_call (codeAny_of_tree ?_)
  show wpAny _ _ (callAny (.type "set") _) _ _ _
  refine wpAny_pure ⟨Code.quiet_builtin _ (by decide +kernel), ?_⟩
  refine codeAny_builtin F.entry_type_call ?_
  rw [Around.under_plain (weight_type_call_type "set" [Value.ref l] []) rfl]
  have nt := F.called_set.notType
  have cc := F.called_set.canCreate
  have ct1 := F.typeCall_set_1 (Value.ref l)
  repeat (any_goals (first | assumption | wp_step))
  let W1 : Value → Shared → Prop := fun obj s₁ => obj = .ref s.heap.objs.size ∧ s₁ = { s with heap := s.heap.push (newSet w) }
  refine codeAny_mono (code_set_led1 (Value.ref l) (E := E) (Q₁ := W1) ⟨rfl, rfl⟩) fun r s₁ hr => ?_
  cases r with
  | error e => exact hr
  | ok fl =>
    cases fl with
    | ret obj =>
      obtain ⟨rfl, rfl⟩ := hr
      have hS : (s.heap.push (newSet w)).get? s.heap.objs.size = some (newSet w) := Heap.get?_push_size _ rfl
      have hT : Shared.TypeIs { s with heap := s.heap.push (newSet w) } (.ref s.heap.objs.size) "set" := ⟨_, hS, rfl⟩
      have li := F.called_set.init.lookup
      have bi := F.called_set.init.bind (.ref s.heap.objs.size)
      repeat (any_goals (first | assumption | wp_step))
      let W2 : Value → Shared → Prop := fun r s₂ => r = .none ∧ ∃ h' tk, s₂ = { s with heap := h', toks := tk } ∧ Fin h' ∧ ∀ b o, s.heap.get? b = some o → h'.get? b = some o
      refine codeAny_mono (codeAny_call_builtin (R := wants W2 E) F.called_set.init.plain F.entry_set_init (check_set_init_1 hT ?_)) fun r₂ s₂ hr₂ => ?_
      · have hol' : (s.heap.push (newSet w)).get? l = some { cls := .type T, dict := odict, data := odata, slots := oslots } := Heap.get?_push_of_some _ hol
        unfold Builtin.«set.__init__» noKeywords Builtin.Frozenset.updateFrom
        generalize hPI : pyIter = PI
        wp_walk
        subst hPI
        refine iter _ _ _ _ hol' ?_
        refine wpAny_bind (wpAny_runValue ?_)
        refine loop _ fun h' tk' hF hkp => ?_
        refine wpAny_pure ?_
        show wpAny _ _ (ret Value.none) _ _ _
        exact wpAny_pure ⟨rfl, h', tk', rfl, hF, hkp⟩
      · cases r₂ with
        | error e => exact hr₂
        | ok fl₂ =>
          cases fl₂ with
          | ret r =>
            obtain ⟨rfl, h', tk, rfl, hF, hk'⟩ := hr₂
            repeat (any_goals (first | assumption | wp_step))
            exact h _ _ hF hk'
          | next => exact hr₂.elim
          | brk => exact hr₂.elim
          | cont => exact hr₂.elim
    | next => exact hr.elim
    | brk => exact hr.elim
    | cont => exact hr.elim
end
end Hf

set_option Elab.async false
set_option linter.all false
set_option maxRecDepth 100000
set_option maxHeartbeats 4000000
namespace Hf
open PySem PySem.Spec PyProof.Rows L2
/-! ### how many different ones -/
def dd {α : Type} [DecidableEq α] : List α → List α
  | [] => []
  | x :: xs => if x ∈ xs then dd xs else x :: dd xs
theorem mem_dd {α : Type} [DecidableEq α] {a : α} : ∀ {l : List α}, a ∈ dd l ↔ a ∈ l
  | [] => by simp [dd]
  | x :: xs => by
    unfold dd
    split
    · rename_i h
      rw [mem_dd, List.mem_cons]
      constructor
      · exact .inr
      · rintro (rfl | h')
        · exact h
        · exact h'
    · rw [List.mem_cons, List.mem_cons, mem_dd]
theorem nodup_dd {α : Type} [DecidableEq α] : ∀ l : List α, (dd l).Nodup
  | [] => by simp [dd]
  | x :: xs => by
    unfold dd
    split
    · exact nodup_dd xs
    · rename_i h
      exact List.nodup_cons.mpr ⟨fun z => h (mem_dd.mp z), nodup_dd xs⟩
theorem nodup_sub_le {α : Type} [DecidableEq α] : ∀ {l m : List α}, l.Nodup → (∀ a ∈ l, a ∈ m) → l.length ≤ m.length
  | [], _, _, _ => Nat.zero_le _
  | x :: xs, m, h, s => by
    have h1 := nodup_sub_le (l := xs) (m := m.erase x) (List.nodup_cons.mp h).2 fun a ha => by
      have ne : a ≠ x := fun e => (List.nodup_cons.mp h).1 (e ▸ ha)
      exact (List.mem_erase_of_ne ne).mpr (s a (List.mem_cons_of_mem _ ha))
    have hx := s x List.mem_cons_self
    rw [List.length_erase_of_mem hx] at h1
    have := List.length_pos_of_mem hx
    simp only [List.length_cons]
    omega
theorem nodup_len {α : Type} [DecidableEq α] {l m : List α} (h : l.Nodup) (h' : m.Nodup) (e : ∀ a, a ∈ l ↔ a ∈ m) : l.length = m.length :=
  Nat.le_antisymm (nodup_sub_le h fun a ha => (e a).mp ha) (nodup_sub_le h' fun a ha => (e a).mpr ha)

/-! ### len(set(t)), t a tuple of tuples of whole numbers -/
def intA : D → Option Int
  | .int i => some i
  | _ => Option.none
def intsA : List D → Option (List Int)
  | [] => some []
  | d :: ds => match intA d, intsA ds with
    | some k, some ks => some (k :: ks)
    | _, _ => Option.none
def tupA : D → Option (List Int)
  | .tup ds => intsA ds
  | _ => Option.none
def tupsA : List D → Option (List (List Int))
  | [] => some []
  | d :: ds => match tupA d, tupsA ds with
    | some k, some ks => some (k :: ks)
    | _, _ => Option.none
theorem intsA_map {ds : List D} {ns : List Int} (h : intsA ds = some ns) : ds = ns.map D.int := by
  induction ds generalizing ns with
  | nil => cases h; rfl
  | cons d ds ih =>
    unfold intsA at h
    split at h
    · rename_i k ks e1 e2
      cases h
      rw [ih e2]
      cases d <;> simp [intA] at e1
      subst e1; rfl
    · cases h
theorem Reps.ints {g : Gs} {w : Wd} : ∀ {ns : List Int} {vs : List V}, Reps g w (ns.map D.int) vs → vs = ns.map V.int
  | [], vs, h => by simpa only [List.map_nil, Reps] using h
  | n :: ns, vs, h => by
    simp only [List.map_cons, Reps, Rep] at h
    obtain ⟨v, us, rfl, rfl, r⟩ := h
    rw [Reps.ints r]; rfl
theorem reps_ints (g : Gs) (w : Wd) : ∀ ns : List Int, Reps g w (ns.map D.int) (ns.map V.int)
  | [] => by simp only [List.map_nil, Reps]
  | n :: ns => by
    simp only [List.map_cons, Reps, Rep]
    exact ⟨_, _, rfl, rfl, reps_ints g w ns⟩
/-- tuples of whole numbers with their addresses -/
theorem Reps.tups {g : Gs} {w : Wd} : ∀ {ds : List D} {vs : List V} {ks : List (List Int)}, Reps g w ds vs → tupsA ds = some ks → ∃ ps : List (Addr × List Int), vs = ps.map (fun p => V.ref p.1) ∧ ks = ps.map (·.2) ∧ ∀ p ∈ ps, SqT g.K w.P p.1 (p.2.map V.int)
  | [], vs, ks, h, e => by
    simp only [Reps] at h
    cases e
    exact ⟨[], h, rfl, by simp⟩
  | d :: ds, vs, ks, h, e => by
    simp only [Reps] at h
    obtain ⟨v, us, rfl, r, rs⟩ := h
    unfold tupsA at e
    split at e
    · rename_i k ks' e1 e2
      cases e
      obtain ⟨ps, h1, h2, h3⟩ := Reps.tups rs e2
      cases d <;> simp [tupA] at e1
      rw [intsA_map e1] at r
      simp only [Rep] at r
      obtain ⟨a, vs, rfl, q, rr⟩ := r
      have ev := rr.ints
      refine ⟨(a, k) :: ps, by simp [h1], by simp [h2], fun p hp => ?_⟩
      rcases List.mem_cons.mp hp with rfl | hp
      · exact ev ▸ q.T
      · exact h3 p hp
    · cases e
def fLenSet : D → Bs → Rs D
  | .tup ds, B => match tupsA ds with
    | some ks => if ks.length < 64 then .ok (.int (dd ks).length) B else .bad
    | Option.none => .bad
  | _, _ => .bad
section
variable {g : Gs} {E : XK} {H0 : Hp} {X : Cx} {e : Expr} {m : Ev} {b1 : Bool} {p p2 q pos : Pos}
def tLS (K : PySem.W.Frag) (ta : TE) : TE := fun σ H Q => ta σ H fun x H1 => ∃ (l : Addr) (ps : List (Addr × List Int)), x = V.ref l ∧ SqT K H1 l (ps.map fun p => V.ref p.1) ∧ (∀ p ∈ ps, SqT K H1 p.1 (p.2.map V.int)) ∧ ps.length < 64 ∧ Q (.int (dd (ps.map (·.2))).length) H1
theorem pe_ls {ta : TE} (hu : X.A.units + 64 < cLine) (hc : X.calm = true) (hg : Gl X "len") (hm : X.mg "len" = none) (hg2 : Gl X "set") (hm2 : X.mg "set" = none) (ha : PE X e ta) (na : starEach [e] X.env = (false, eval e X.env) :: starEach [] X.env) :
    PE X (.Call (.Name "len" p) [.Call (.Name "set" p2) [e] [] q] [] pos) (tLS X.K ta) := by
  refine ⟨fun pins s σ H Q I h => ?_⟩
  refine Call_ (ld_blt I hg hm PySem.boot_len (PyProof.Rows.callWith_builtin1 (PyProof.Rows.args_cons ?_ rfl) rfl rfl))
  refine Call_ (ld_blt I hg2 hm2 PyProof.Rows.boot_set (PyProof.Rows.callWith_type1 (PyProof.Rows.args_cons (thn (ha.run pins s σ H _ I h) fun v s1 ⟨x, H1, I1, r1, q1⟩ => PyProof.Rows.args_nil ?_) na) na rfl))
  obtain ⟨l, ps, rfl, hq, hk, hf, q1⟩ := q1
  cases r1
  obtain ⟨its, rv, ⟨⟨cls, od, data, sl⟩, ho, hcl, n, hd⟩, hz⟩ := I1.tuple hq
  simp only at hcl hd
  subst hcl hd
  have hit : its = ps.map fun p => Value.ref p.1 := refs_of_vals rv
  have hh : X.A.handled = Option.none := I1.ok.hd hc
  have hlS : l < s1.heap.objs.size := Heap.lt_size ho
  have hz1 : (s1.heap.push (newSet X.w)).objs.size = s1.heap.objs.size + 1 := Heap.size_push ..
  have hS : (s1.heap.push (newSet X.w)).get? s1.heap.objs.size = some (newSet X.w) := Heap.get?_push_size _ rfl
  have hsz : its.toArray.size = ps.length := by rw [List.size_toArray, hit, List.length_map]
  refine set_of (P := X.prog) (w := X.w) (Fin := fun h => ∃ L es ep t, SetTR X.prog X.w h s1.heap.objs.size L es ep t ∧ Got ps ps.length L) ho sub_tuple_set sub_tuple_frozenset (by decide) (fun A' E' s2 Q' h1 h2 => wpAny_pyIter_tuple ⟨_, h1, rfl, _, rfl⟩ h2) (fun R hR => ?_) fun h' tk ⟨L, es, ep, t, hT, gt⟩ hk' => ?_
  · have Wk := (Walks.tuple (prog := X.prog) (w := X.w) (A := X.A.in1.in1.in1) (by simp [hh]) (s1.heap.push (newSet X.w)).objs.size l (Nat.ne_of_lt (by rw [hz1]; exact Nat.lt_succ_of_lt hlS)) its.toArray).toS
    refine set_update_tups Wk s1.heap.objs.size ?_ ps hsz hf (fun i v hv => ?_) s1.heap (fun p hp => I1.isT (hk p hp)) (heap_none (Nat.le_refl _)) (fun b hb => ?_) (by show X.A.units + 1 + 1 + 1 < cLine; omega) (its.toArray.size - 0) 0 _ (by omega) (Nat.zero_le _)
      ⟨⟨_, Heap.get?_push_size _ rfl, rfl, rfl⟩, ⟨_, Heap.get?_push_of_some _ (Heap.get?_push_of_some _ ho), rfl, _, rfl⟩⟩ (fun b o e => Heap.get?_push_of_some _ (Heap.get?_push_of_some _ e)) ⟨[], #[], 0, _, setTR_fresh (Heap.get?_push_of_some _ hS), Got.zero ps⟩ ?_
    · simp only [List.mem_cons, List.not_mem_nil, or_false, not_or]
      exact ⟨Nat.ne_of_lt (by rw [hz1]; exact Nat.lt_succ_self _), Nat.ne_of_gt hlS⟩
    · have q : its[i]? = some v := by simpa using hv
      rw [hit, List.getElem?_map] at q
      obtain ⟨p, e1, e2⟩ := Option.map_eq_some_iff.mp q
      exact ⟨p, e1, e2.symm⟩
    · rw [List.mem_singleton.mp hb]
      exact heap_none (by rw [hz1]; exact Nat.le_succ _)
    · rintro ⟨h', g2, d', tk', os'⟩ L es ep t hm' hT gt hkp
      have eg : g2 = s1.gens := hm'.gens
      have ed : d' = s1.drawn := hm'.drawn
      have eo : os' = s1.os := hm'.os
      subst eg ed eo
      rw [hsz] at gt
      exact hR h' tk' ⟨L, es, ep, t, hT, gt⟩ hkp
  · obtain ⟨o, ho', hex, hd'⟩ := hT.ob
    have I2 : Inv X pins σ H1 { s1 with heap := h', toks := tk } := I1.kept fun b o e => hk' b o e
    have hlen : es.size = (dd (ps.map (·.2))).length := by
      rw [SetTR.size (s := { s1 with heap := h', toks := tk }) hT, ← List.length_map (f := (·.2)) (as := L)]
      refine nodup_len hT.nd (nodup_dd _) fun k => ?_
      rw [mem_dd]
      constructor
      · intro hk2
        obtain ⟨p, hp, rfl⟩ := List.mem_map.mp hk2
        exact List.mem_map_of_mem (List.mem_of_mem_take (gt.sub p hp))
      · intro hk2
        obtain ⟨p, hp, rfl⟩ := List.mem_map.mp hk2
        exact gt.all p (by rw [List.take_length]; exact hp)
    have hle : es.size ≤ 64 := by rw [SetTR.size (s := { s1 with heap := h', toks := tk }) hT]; have := hT.few; omega
    refine PyProof.Rows.args_nil (call_len_set (s := { s1 with heap := h', toks := tk }) ho' hex hd' (SetTR.fits (s := { s1 with heap := h', toks := tk }) hT) (by omega) ⟨.int _, H1, I2.tok _, ⟨_, by rw [hlen]⟩, q1⟩)
theorem s_lenSet (ok : Ok g X) (ha : Snd g E H0 X b1 e m) (hg : Gl X "len" := by rfl) (hg2 : Gl X "set" := by rfl) (na : starEach [e] X.env = (false, eval e X.env) :: starEach [] X.env := by rfl) :
    Snd g E H0 X false (.Call (.Name "len" p) [.Call (.Name "set" p2) [e] [] q] [] pos) (m1 fLenSet m) := by
  refine weak (pe_ls (by have := ok.un; omega) ok.calm hg (nbs ok) hg2 (nbs ok) ha na) ?_
  rintro σ H Q ⟨w, σI, B, s, p⟩
  refine tI_bind s p fun d B1 w1 v H1 x1 s1 r1 p1 => ?_
  unfold fLenSet at p1
  split at p1
  · rename_i ds
    split at p1
    · rename_i ks hks
      split at p1
      · rename_i hl
        obtain ⟨a, vs, rfl, q1, r⟩ := r1.up.tup s1
        obtain ⟨ps, rfl, rfl, h3⟩ := Reps.tups r hks
        exact ⟨a, ps, rfl, ok.K ▸ q1, fun p hp => ok.K ▸ sqT_mono s1.rb.sub (h3 p hp), by simpa using hl, p1.nowR s1 (rep_int g w1 _)⟩
      · exact p1.elim
    · exact p1.elim
  · exact p1.elim
end
end Hf

set_option Elab.async false
set_option linter.all false
set_option maxRecDepth 100000
set_option maxHeartbeats 4000000
namespace Hf
open PySem PySem.Spec PyProof.Rows L2

/-! ### a < b < c as a test -/
section
variable {g : Gs} {E : XK} {H0 : Hp} {X : Cx} {a b c : Expr} {ma mb mc : Ev} {pos : Pos} {b1 b2 b3 bo : Bool} {op op' : CmpOp} {f f' : D → D → Bs → Rs D}
theorem chainT_at (P : Cmp g E H0 X op f) {w : Wd} {H : Hp} {σI : Sl} {σ : L2.St} {B : Bs} {Q : Bool → Hp → Prop} {x y : D} {k : Bool → Bs → Rs Bool} (p : PostT g E w H Q ((toB (f x y B)).bind k)) :
    PostE g E w H σI σ false (fun z H' => ∃ b w' B', z = .bl b ∧ Ext w H w' H' ∧ RB g w' B' H' ∧ PostT g E w' H' Q (k b B')) (f x y B) := by
  rcases P.bl x y B with e | ⟨b, B', e⟩
  · rw [e] at p; exact p.elim
  · rw [e] at p ⊢
    intro w' v H' x rb r
    simp only [RepB, Rep] at r
    exact ⟨b, w', B', r, x, rb, PostT.ext x p⟩
theorem t_chain (P : Cmp g E H0 X op f) (P' : Cmp g E H0 X op' f') (ha : Snd g E H0 X b1 a ma) (hb : Snd g E H0 X b2 b mb) (hc : Snd g E H0 X b3 c mc) (hm : lastMarks [op, op'] [b, c] = false := by with_unfolding_all rfl) :
    SndT g E H0 X (.Compare a [op, op'] [b, c] pos) (mChainT f f' ma mb mc) := by
  obtain ⟨r, h1, h2⟩ := id P.ex
  obtain ⟨r', h1', h2'⟩ := id P'.ex
  refine weakT (pt_chain h1 h1' ha hb hc hm) ?_
  rintro σ H Q ⟨w, σI, B, s, p⟩
  refine tI_bindT s p fun d B1 w1 v H1 x1 s1 r1 p1 => ?_
  refine tI_bindT s1 p1 fun d2 B2 w2 v2 H2 x2 s2 r2 p2 => ?_
  refine h2 w2 σI B2 σ H2 _ v v2 d d2 s2 (r1.up.mono x2.le) r2.up ?_
  have p3 := chainT_at (σI := σI) (σ := σ) P p2
  revert p3
  generalize hm : f d d2 B2 = m
  intro p3
  cases m with
  | bad => exact p3
  | exc _ _ _ => exact p3
  | ok e B3 =>
    intro w' v' H' x rb rr
    obtain ⟨k, w3, B4, rfl, x3, rb3, p4⟩ := p3 w' v' H' x rb rr
    refine ⟨k, rfl, ?_⟩
    have s3 := s2.step x3 rb3
    cases k with
    | false => exact ⟨false, rfl, p4 w3 H' (Ext.refl _ _) rb3⟩
    | true =>
      refine tI_bindT s3 p4 fun d5 B5 w5 v5 H5 x5 s5 r5 p5 => ?_
      exact h2' w5 σI B5 σ H5 _ v2 v5 d2 d5 s5 (r2.up.mono (x3.le.trans x5.le)) r5.up (cmp_end P' p5)
end

/-! ### all, any, sum, max, min of a list -/
def boolA : D → Option Bool
  | .bool i => some i
  | _ => Option.none
def boolsA : List D → Option (List Bool)
  | [] => some []
  | d :: ds => match boolA d, boolsA ds with
    | some k, some ks => some (k :: ks)
    | _, _ => Option.none
theorem boolsA_map {ds : List D} {ns : List Bool} (h : boolsA ds = some ns) : ds = ns.map D.bool := by
  induction ds generalizing ns with
  | nil => cases h; rfl
  | cons d ds ih =>
    unfold boolsA at h
    split at h
    · rename_i k ks e1 e2
      cases h
      rw [ih e2]
      cases d <;> simp [boolA] at e1
      subst e1; rfl
    · cases h
theorem Reps.bools {g : Gs} {w : Wd} : ∀ {ns : List Bool} {vs : List V}, Reps g w (ns.map D.bool) vs → vs = ns.map V.bl
  | [], vs, h => by simpa only [List.map_nil, Reps] using h
  | n :: ns, vs, h => by
    simp only [List.map_cons, Reps, Rep] at h
    obtain ⟨v, us, rfl, rfl, r⟩ := h
    rw [Reps.bools r]; rfl
def strA : D → Option Str
  | .str i => some i
  | _ => Option.none
def strsA : List D → Option (List Str)
  | [] => some []
  | d :: ds => match strA d, strsA ds with
    | some k, some ks => some (k :: ks)
    | _, _ => Option.none
theorem strsA_map {ds : List D} {ns : List Str} (h : strsA ds = some ns) : ds = ns.map D.str := by
  induction ds generalizing ns with
  | nil => cases h; rfl
  | cons d ds ih =>
    unfold strsA at h
    split at h
    · rename_i k ks e1 e2
      cases h
      rw [ih e2]
      cases d <;> simp [strA] at e1
      subst e1; rfl
    · cases h
theorem Reps.strs {g : Gs} {w : Wd} : ∀ {ns : List Str} {vs : List V}, Reps g w (ns.map D.str) vs → vs = ns.map V.str
  | [], vs, h => by simpa only [List.map_nil, Reps] using h
  | n :: ns, vs, h => by
    simp only [List.map_cons, Reps, Rep] at h
    obtain ⟨v, us, rfl, rfl, r⟩ := h
    rw [Reps.strs r]; rfl
theorem reps_strs (g : Gs) (w : Wd) : ∀ ns : List Str, Reps g w (ns.map D.str) (ns.map V.str)
  | [] => by simp only [List.map_nil, Reps]
  | n :: ns => by
    simp only [List.map_cons, Reps, Rep]
    exact ⟨_, _, rfl, rfl, reps_strs g w ns⟩
def fAll : D → Bs → Rs D
  | .lst ds, B => match boolsA ds with
    | some bs => .ok (.bool (bs.all id)) B
    | Option.none => .bad
  | _, _ => .bad
section
variable {g : Gs} {E : XK} {H0 : Hp} {X : Cx}
theorem o_all (c : Ok g X) : One g E H0 X (.builtin "all") fAll := ⟨_, cr_all c.calm, fun w σI B σ H Q x d s r p => by
  unfold fAll at p
  split at p
  · split at p
    · rename_i bs hb
      rw [boolsA_map hb] at r
      obtain ⟨a, vs, rfl, q, r⟩ := r.lst s
      rw [r.bools] at q
      exact ⟨a, bs, rfl, .inl (.inl q), p.nowR s (rep_bool g w _)⟩
    · exact p.elim
  · exact p.elim⟩
end

/-! ### sorted(a list or a tuple of whole numbers) -/
def ins (x : Int) : List Int → List Int
  | [] => [x]
  | y :: r => if x ≤ y then x :: y :: r else y :: ins x r
section
variable {prog : Program} {w : World} {A : Around} {E : Value → Shared → Prop} {s : Shared}
end
section
variable {g : Gs} {E : XK} {H0 : Hp} {X : Cx}
end
end Hf

set_option Elab.async false
set_option linter.all false
set_option maxRecDepth 100000
set_option maxHeartbeats 4000000
namespace Hf
open PySem PySem.Spec PyProof.Rows L2 HT

/-! ### texts: join, split, a constant tuple's index -/
def strsOf : D → Option (List Str)
  | .lst ds => strsA ds
  | .tup ds => strsA ds
  | _ => Option.none
def fJoin : D → D → Bs → Rs D
  | .str a, d, B => match strsOf d with
    | some ys => if (ys.map (·.length)).sum + ys.length * a.length ≤ 16777216 then .ok (.str (Txt.join a ys)) B else .bad
    | Option.none => .bad
  | _, _, _ => .bad
def fSplit : D → D → Bs → Rs D
  | .str a, .str b, B => if (b.length == 0) = false ∧ a.length + 2 ≤ sizeLine then .ok (.lst ((Txt.split a b).map D.str)) B else .bad
  | _, _, _ => .bad
def isS (d : D) (B : Bs) : Rs D := match d with
  | .str _ => .ok d B
  | _ => .bad
def mMeth (f : D → D → Bs → Rs D) (mo me : Ev) : Ev := fun σ B => (mo σ B).bind fun o B1 => (isS o B1).bind fun o B2 => (me σ B2).bind fun d B3 => f o d B3
def ixS (z : Str) : List Str → Option Nat
  | [] => Option.none
  | y :: r => if y = z then some 0 else (ixS z r).map (· + 1)
theorem ixS_some {z : Str} : ∀ {l : List Str} {j : Nat}, ixS z l = some j → l[j]? = some z ∧ ∀ m, m < j → l[m]? ≠ some z
  | y :: r, j, h => by
    unfold ixS at h
    split at h
    · rename_i e
      cases h
      exact ⟨by simp [e], fun m hm => absurd hm (Nat.not_lt_zero _)⟩
    · rename_i e
      obtain ⟨i, h1, rfl⟩ := Option.map_eq_some_iff.mp h
      obtain ⟨a, b⟩ := ixS_some h1
      refine ⟨by simpa using a, fun m hm => ?_⟩
      cases m with
      | zero => simpa using e
      | succ m => simpa using b m (by omega)
def fIxS (ys : List Str) : D → Bs → Rs D
  | .str z, B => match ixS z ys with
    | some j => .ok (.int (j : Nat)) B
    | Option.none => .bad
  | _, _ => .bad
/-- a constant tuple of texts of the module -/
def GlobT (g : Gs) (x : Str) (ys : List Str) : Prop := ∃ a, g.mg x = some (.ref a) ∧ (∃ o, g.K.lookup a = some o ∧ o.cls = .type "tuple" ∧ o.dict = none) ∧ ∀ w, Rep g w (.tup (ys.map D.str)) (.ref a)
section
variable {g : Gs} {E : XK} {w0 w : Wd} {H0 H : Hp} {X : Cx} {o e a b : Expr} {mo me m ma mb : Ev} {pos p p1 p2 p3 apos cpos : Pos} {x : Str} {σI : Sl} {σ : L2.St} {B : Bs} {Q : VK} {b1 b2 bo : Bool}
theorem isS_go {d : D} {f : D → Bs → Rs D} (s : S0 g H0 w σI B σ H) {v : V} (r : RepO g w σI σ d v) (p : PostE g E w H σI σ bo Q ((isS d B).bind f)) : ∃ z, d = .str z ∧ v = .str z ∧ PostE g E w H σI σ bo Q (f (.str z) B) := by
  cases d <;> first | exact p.elim | skip
  exact ⟨_, rfl, r.str s, p⟩
theorem s_join (ok : Ok g X) (ho : Snd g E H0 X b1 o mo) (he : Snd g E H0 X b2 e me) (hs : starEach [e] X.env = [(false, eval e X.env)] := by rfl) (hbase : attributeBase o "join" X.env (eval o X.env) = eval o X.env := by rfl) (hline : (apos.endLine == pos.line) = true := by rfl) :
    Snd g E H0 X false (.Call (.Attribute o "join" apos) [e] [] pos) (mMeth fJoin mo me) := by
  refine weak (pe_join ho he hs hbase hline) ?_
  rintro σ H Q ⟨w, σI, B, s, p⟩
  refine tI_bind s p fun d B1 w1 v H1 x1 s1 r1 p1 => ?_
  obtain ⟨z, rfl, rfl, p1⟩ := isS_go s1 r1.up p1
  refine ⟨⟨z, rfl⟩, tI_bind s1 p1 fun d2 B2 w2 v2 H2 x2 s2 r2 p2 => ?_⟩
  unfold fJoin at p2
  simp only at p2
  split at p2
  · rename_i ys hy
    split at p2
    · rename_i hz
      cases d2 <;> simp only [strsOf, reduceCtorEq] at hy
      · have r2 := r2.up
        rw [strsA_map hy] at r2
        obtain ⟨a, vs, rfl, q, r⟩ := r2.tup s2
        rw [r.strs] at q
        exact ⟨z, a, ys, rfl, rfl, .inr (ok.K ▸ q), hz, p2.nowR s2 (rep_str g w2 _)⟩
      · have r2 := r2.up
        rw [strsA_map hy] at r2
        obtain ⟨a, vs, rfl, q, r⟩ := r2.lst s2
        rw [r.strs] at q
        exact ⟨z, a, ys, rfl, rfl, .inl (.inl (.inl q)), hz, p2.nowR s2 (rep_str g w2 _)⟩
    · exact p2.elim
  · exact p2.elim
theorem f_split (ho : Snd g E H0 X b1 o mo) (he : Snd g E H0 X b2 e me) (hs : starEach [e] X.env = [(false, eval e X.env)] := by rfl) (hbase : attributeBase o "split" X.env (eval o X.env) = eval o X.env := by rfl) (hline : (apos.endLine == pos.line) = true := by rfl) :
    Snd g E H0 X false (.Call (.Attribute o "split" apos) [e] [] pos) (mMeth fSplit mo me) := by
  refine weak (pe_split ho he hs hbase hline) ?_
  rintro σ H Q ⟨w, σI, B, s, p⟩
  refine tI_bind s p fun d B1 w1 v H1 x1 s1 r1 p1 => ?_
  obtain ⟨z, rfl, rfl, p1⟩ := isS_go s1 r1.up p1
  refine ⟨⟨z, rfl⟩, tI_bind s1 p1 fun d2 B2 w2 v2 H2 x2 s2 r2 p2 => ?_⟩
  unfold fSplit at p2
  split at p2
  · rename_i z' y e1
    cases e1
    split at p2
    · rename_i hz
      exact ⟨z, y, rfl, by rw [r2.up.str s2], hz.1, hz.2, fun l hl => p2.newL s2 (reps_strs g w2 _) hl⟩
    · exact p2.elim
  · exact p2.elim
theorem s_gIx {ys : List Str} (ok : Ok g X) (G : GlobT g x ys) (he : Snd g E H0 X b1 e me) (hg : Gl X x := by rfl) (hd : (x == ("__debug__" : Str)) = false := by decide)
    (hbase : attributeBase (.Name x p1) "index" X.env (eval (.Name x p1) X.env) = eval (.Name x p1) X.env := by rfl)
    (hfew : ((backTo cpos (starEach [e] X.env)).all (fun x => !x.1) && (backToKw cpos (keywordEach [] X.env)).all (fun x => x.1.isSome) && decide ([e].length + ([] : List Keyword).length + (if ([] : List Keyword).isEmpty then 0 else 1) < 30)) = true := by rfl)
    (hline : (apos.endLine == cpos.line) = true := by rfl) (hs : starEach [e] X.env = (false, eval e X.env) :: starEach [] X.env := by rfl) (hpl : (backTo cpos (starEach [] X.env)).any (·.1) = false := by rfl) :
    Snd g E H0 X false (.Call (.Attribute (.Name x p1) "index" apos) [e] [] cpos) (m1 (fIxS ys) me) := by
  obtain ⟨a, hm, ⟨ob, hk, hc, hdd⟩, hr⟩ := G
  refine weak (pe_bm PySem.F.plainAttrs_tuple PySem.F.slot_tuple_index PySem.F.type_tuple_index mt_tup_index (pe_glob (v := .ref a) hg (by rw [ok.mg]; exact hm) rfl hd) (pa_cons he pa_nil hs) hbase hfew hline hs hpl) ?_
  rintro σ H Q ⟨w, σI, B, s, p⟩
  refine ⟨.inr (.inl ⟨rfl, ob, by rw [ok.K]; exact hk, hc, hdd⟩), tI_bind s p fun d B1 w1 v H1 x1 s1 r1 p1 => ?_⟩
  unfold fIxS at p1
  split at p1
  · rename_i z
    split at p1
    · rename_i j hj
      obtain ⟨h1, h2⟩ := ixS_some hj
      have r2 := hr w1
      simp only [Rep] at r2
      obtain ⟨a', vs, e1, q, r⟩ := r2
      cases e1
      rw [r.strs] at q
      exact ⟨a, ys, z, j, rfl, by rw [r1.up.str s1], ok.K ▸ sqT_mono s1.rb.sub q.T, h1, h2, p1.nowR s1 (rep_int g w1 _)⟩
    · exact p1.elim
  · exact p1.elim

/-! ### list(range(..)), tuple(range(..)) -/
theorem reps_rg (g : Gs) (w : Wd) (a : Int) (n : Nat) : Reps g w (rngD a n) ((List.range n).map fun i => V.int (a + (i : Nat))) := by
  have e1 : rngD a n = ((List.range n).map fun i => a + ((i : Nat) : Int)).map D.int := by simp [rngD]
  have e2 : ((List.range n).map fun i => V.int (a + (i : Nat))) = ((List.range n).map fun i => a + ((i : Nat) : Int)).map V.int := by simp
  rw [e1, e2]
  exact reps_ints g w _
def rgOk (a b : Int) : Bool := decide (-(2 ^ 62) ≤ a) && decide (a < 2 ^ 62) && decide (-(2 ^ 62) ≤ b) && decide (b < 2 ^ 62) && decide ((b - a).toNat ≤ 2 ^ 24)
theorem rgOk_ok {a b : Int} (h : rgOk a b = true) : RgOk a b := by
  unfold rgOk at h
  simp only [Bool.and_eq_true, decide_eq_true_eq] at h
  exact ⟨h.1.1.1.1, h.1.1.1.2, h.1.1.2, h.1.2, h.2⟩
def fRg1 (k : List D → D) : D → Bs → Rs D
  | .int b, B => if rgOk 0 b then .ok (k (rngD 0 (b - 0).toNat)) B else .bad
  | _, _ => .bad
theorem f_lstRg1 (ok : Ok g X) (ha : Snd g E H0 X b1 a ma) (hg : Gl X "list" := by rfl) (hg2 : Gl X "range" := by rfl) (na : starEach [a] X.env = (false, eval a X.env) :: starEach [] X.env := by rfl)
    (nb : starEach [.Call (.Name "range" p2) [a] [] p3] X.env = (false, eval (.Call (.Name "range" p2) [a] [] p3) X.env) :: starEach [] X.env := by rfl) :
    SndF g E H0 X (.Call (.Name "list" p) [.Call (.Name "range" p2) [a] [] p3] [] pos) (m1 (fRg1 D.lst) ma) := by
  refine weak (pe_listRg ok.calm hg (nbs ok) (prg_1 hg2 (nbs ok) ha na) nb) ?_
  rintro σ H Q ⟨w, σI, B, s, p⟩
  refine tI_bindF s p fun d B1 w1 v H1 x1 s1 r1 p1 => ?_
  unfold fRg1 at p1
  split at p1
  · split at p1
    · rename_i b hb
      exact ⟨b, r1.up.int s1, rgOk_ok hb, fun q hq => p1.newL s1 (reps_rg g w1 0 (b - 0).toNat) hq⟩
    · exact p1.elim
  · exact p1.elim
end

/-! ### xs[::-1], t[:0:-1] -/
theorem pick_back (l : List Value) : ∀ k, k ≤ l.length → (List.range k).filterMap (fun m => l[l.length - 1 - m]?) = (l.drop (l.length - k)).reverse
  | 0, _ => by simp
  | k + 1, h => by
    rw [List.range_succ, List.filterMap_append, pick_back l k (by omega)]
    have hlt : l.length - (k + 1) < l.length := by omega
    have e : l.length - (k + 1) = l.length - 1 - k := by omega
    rw [List.drop_eq_getElem_cons hlt, List.reverse_cons]
    have e2 : l.length - (k + 1) + 1 = l.length - k := by omega
    rw [e2]
    congr 1
    simp only [List.filterMap_cons, List.filterMap_nil]
    rw [← e, List.getElem?_eq_getElem hlt]
theorem fm_congr {α β : Type} {f h : α → Option β} : ∀ {l : List α}, (∀ a ∈ l, f a = h a) → l.filterMap f = l.filterMap h
  | [], _ => rfl
  | a :: l, e => by
    rw [List.filterMap_cons, List.filterMap_cons, e a List.mem_cons_self, fm_congr fun b hb => e b (List.mem_cons_of_mem _ hb)]
/-- how many of the first are left out -/
def bk : Option Int → Nat
  | Option.none => 0
  | some _ => 1
section
variable {prog : Program} {w : World} {A : Around} {E : Value → Shared → Prop} {s : Shared}
theorem adjust_back {hi : Option Int} (n : Nat) (h : hi = none ∨ hi = some 0) : ∃ j, Builtin.Slice.sliceAdjust none hi (-1) (n : Int) = ((n : Int) - 1, j) ∧ Builtin.Slice.slicePlaces ((n : Int) - 1) j (-1) = n - bk hi := by
  rcases h with rfl | rfl
  · refine ⟨-1, rfl, ?_⟩
    show (if (n : Int) - 1 > -1 then ((n : Int) - 1 - -1 - 1) / (- -1) + 1 else 0).toNat = n - 0
    rw [show (- -1 : Int) = 1 by decide, Int.ediv_one]
    split <;> omega
  · refine ⟨min 0 ((n : Int) - 1), rfl, ?_⟩
    show (if (n : Int) - 1 > min 0 ((n : Int) - 1) then ((n : Int) - 1 - min 0 ((n : Int) - 1) - 1) / (- -1) + 1 else 0).toNat = n - 1
    rw [show (- -1 : Int) = 1 by decide, Int.ediv_one]
    split <;> omega
theorem sliceApplied_back {sl : Addr} {vl vu vs : Value} {hi : Option Int} {n : Nat} {Q : Int × Int × Nat → Shared → Prop} (hs : s.heap.IsSliceOf sl vl vu vs) (pl : IsPart vl none) (pu : IsPart vu hi) (ps : IsPart vs (some (-1))) (hh : hi = none ∨ hi = some 0)
    (h : Q ((n : Int) - 1, -1, n - bk hi) s) : wpAny (model prog w) A (Builtin.Slice.sliceApplied (.ref sl) (pure (n : Int))) Q E s := by
  obtain ⟨os, hos, hcs, hds⟩ := id hs
  obtain ⟨j, e1, e2⟩ := adjust_back n hh
  unfold Builtin.Slice.sliceApplied Builtin.Slice.sliceFields
  refine wpAny_bind (wpAny_bind (wpAny_field hos hds (x := vl) rfl (wpAny_bind (wpAny_field hos hds (x := vu) rfl (wpAny_bind (wpAny_field hos hds (x := vs) rfl (wpAny_pure ?_)))))))
  refine wpAny_bind (slicePart_ ps ?_)
  show wpAny _ _ (if ((-1 : Int) == 0) = true then _ else _) _ _ s
  rw [if_neg (by decide)]
  refine wpAny_bind (slicePart_ pl (wpAny_bind (slicePart_ pu (wpAny_bind (wpAny_pure ?_)))))
  show wpAny _ _ (match Builtin.Slice.sliceAdjust none hi (-1) (n : Int) with | (lo, hi) => pure (lo, (-1 : Int), Builtin.Slice.slicePlaces lo hi (-1))) _ _ s
  rw [e1]
  show wpAny _ _ (pure (((n : Int) - 1), (-1 : Int), Builtin.Slice.slicePlaces ((n : Int) - 1) j (-1))) _ _ s
  rw [e2]
  exact wpAny_pure h
theorem getItem_tuple_back {t sl : Addr} {items : Array Value} {vl vu vs : Value} {hi : Option Int} {Q : Value → Shared → Prop} (ht : IsTup s.heap t items) (hs : s.heap.IsSliceOf sl vl vu vs) (pl : IsPart vl none) (pu : IsPart vu hi) (ps : IsPart vs (some (-1))) (hh : hi = none ∨ hi = some 0)
    (h : Q (.ref s.heap.objs.size) { s with heap := s.heap.push { cls := .type "tuple", data := .seq (items.toList.drop (bk hi)).reverse.toArray } })
    (hsz : items.size ≤ sizeLine) : wpAny (model prog w) A (getItem (.ref t) (.ref sl)) Q E s := by
  have htake : sizeOk (.seq (items.toList.drop (bk hi)).reverse.toArray) := by
    show (items.toList.drop (bk hi)).reverse.toArray.size ≤ sizeLine
    rw [List.size_toArray, List.length_reverse, List.length_drop, Array.length_toList]
    omega
  obtain ⟨os, hos, hcs, hds⟩ := id hs
  have hTs : s.TypeIs (.ref sl) "slice" := ⟨os, hos, hcs⟩
  unfold getItem
  try with_reducible refine wpAny_holding ?_
  first | refine wpAny_bind (wpAny_pure ?_) | skip
  refine wpAny_bind (wpAny_sequenceKey ht.typeIs (by decide) ?_)
  refine wpAny_bind (wpAny_callSpecial?_slot (name := Str.ofString "__getitem__") ht.typeIs PyProof.Rows.slot_tuple_getitem
    (wpAny_call_entry PyProof.Rows.slot_tuple_getitem ht.typeIs entry_tuple_getitem ?_ (args_tuple_getitem _ _)))
  show wpAny _ _ (Builtin.Tuple.tupleItemsOf (.ref t) >>= _) _ _ s
  refine wpAny_bind (tupleItemsOf_ ht ?_)
  refine wpAny_bind (wpAny_typeOf hTs ?_)
  rw [if_pos (by decide)]
  refine wpAny_bind (sliceApplied_back hs pl pu ps hh ?_)
  have hno : ¬ (((((items.size : Nat) : Int) - 1) == 0 && (-1 : Int) == 1 && (items.size - bk hi) == items.size) = true) := by
    intro q
    rw [Bool.and_eq_true, Bool.and_eq_true] at q
    exact absurd q.1.2 (by decide)
  show wpAny _ _ (if ((((items.size : Nat) : Int) - 1) == 0 && (-1 : Int) == 1 && (items.size - bk hi) == items.size) = true then _ else _) _ _ s
  rw [if_neg hno]
  have hb : bk hi ≤ 1 := by rcases hh with rfl | rfl <;> simp [bk]
  have pk : ((List.range (items.size - bk hi)).filterMap fun (m : Nat) => items[(((items.size : Nat) : Int) - 1 + (m : Int) * -1).toNat]?).toArray = (items.toList.drop (bk hi)).reverse.toArray := by
    congr 1
    have h1 := pick_back items.toList (items.size - bk hi) (by rw [Array.length_toList]; omega)
    by_cases hz : items.size = 0
    · have e0 : items.size - bk hi = 0 := by omega
      rw [e0]
      have : items.toList = [] := List.eq_nil_of_length_eq_zero (by rw [Array.length_toList]; exact hz)
      rw [this]; simp
    · rw [Array.length_toList] at h1
      have e3 : items.size - (items.size - bk hi) = bk hi := by omega
      rw [e3] at h1
      rw [← h1]
      refine fm_congr fun m hm => ?_
      have hm' := List.mem_range.mp hm
      have e4 : (((items.size : Nat) : Int) - 1 + (m : Int) * -1).toNat = items.size - 1 - m := by omega
      rw [e4, Array.getElem?_toList]
  rw [pk]
  first
    | exact wpAny_bind (m := Builtin.Tuple.tupleExact _) (wpAny_newObj_type (wpAny_pure ⟨_, rfl, wpAny_pure h⟩) htake)
    | exact wpAny_bind (m := Builtin.Tuple.tupleExact _) (wpAny_newObj_type (wpAny_bind (wpAny_pure (wpAny_pure ⟨_, rfl, wpAny_pure h⟩))) htake)
    | exact wpAny_bind (wpAny_bind (m := Builtin.Tuple.tupleExact _) (wpAny_newObj_type (wpAny_pure (wpAny_pure ⟨_, rfl, wpAny_pure h⟩)) htake))
    | exact wpAny_bind (wpAny_bind (m := Builtin.Tuple.tupleExact _) (wpAny_newObj_type (wpAny_pure ⟨_, rfl, wpAny_pure h⟩) htake))
end
section
variable {g : Gs} {E : XK} {w0 w : Wd} {H0 H : Hp} {X : Cx} {e : Expr} {m : Ev} {pos p1 p2 p3 p4 : Pos} {B : Bs} {b1 : Bool} {hi : Option Expr} {kc : Nat}
/-- a text the other way about -/
def backS (z : Str) : Str := ⟨((Builtin.Str.strSliceIndices none none (-1) z.length).filterMap (z.cps[·]?)).toArray⟩
theorem backS_len (z : Str) : (backS z).length ≤ z.length := by
  show (List.filterMap _ _).toArray.size ≤ _
  rw [List.size_toArray]
  exact Nat.le_trans (List.length_filterMap_le _ _) (PySem.sliceIndicesBy_le _ _ _ (by decide) z.length)
def rBk (K : PySem.W.Frag) : V → Option Int → Hp → VK → Prop := fun x o H Q => (∃ a xs, x = .ref a ∧ ((o = none ∧ SqL K H a xs ∧ ∀ p, H p = none → Q (.ref p) (upd H p (.lst xs.reverse))) ∨ ((o = none ∨ o = some 0) ∧ SqT K H a xs ∧ ∀ p (ob : Obj), H p = none → ob.dict = none → Q (.ref p) (upd H p (.frz ob (.tup (xs.drop (bk o)).reverse))))))
  ∨ (∃ z, x = .str z ∧ z.length ≤ sizeLine ∧ o = none ∧ Q (.str (backS z)) H)
def tBk (K : PySem.W.Frag) (te : TE) (th : TO) : TE := fun σ H Q => te σ H fun x H1 => th σ H1 fun o H2 => rBk K x o H2 Q
theorem pe_bk {te : TE} {th : TO} (he : PE X e te) (hh : PO X hi th) : PE X (.Subscript e (.Slice none hi (some (.UnaryOp .USub (.Constant (.int 1) kc p1) p2)) p3) pos) (tBk X.K te th) := by
  refine ⟨fun pins s σ H Q I h => ?_⟩
  refine Subscript_ (thn (he.run pins s σ H _ I h) fun v s1 ⟨x, H1, I1, r1, q1⟩ => ?_)
  have hst : PO X (some (.UnaryOp .USub (.Constant (.int 1) kc p1) p2)) (tPart (tUn (rU fun i => .int (-i)) (tC (.int 1)))) := po_some (pe_un un_neg pe_int)
  refine wpAny_Slice (thn (po_none.run pins s1 σ H1 (fun o H2 => o = none ∧ H2 = H1) I1 ⟨rfl, rfl⟩) fun vl s2 ⟨l, H2, I2, pl, el, e2⟩ => ?_)
  subst el e2
  refine thn (hh.run pins s2 σ H2 _ I2 q1) fun vu s3 ⟨u, H3, I3, pu, q3⟩ => ?_
  refine thn (hst.run pins s3 σ H3 (fun o H4 => o = some (-1) ∧ H4 = H3) I3 ⟨1, rfl, -1, rfl, rfl, rfl⟩) fun vs s4 ⟨o, H4, I4, ps, eo, e4⟩ => ?_
  subst eo e4
  have I5 : Inv X pins σ H4 { s4 with heap := s4.heap.push { cls := .type "slice", data := .fields #[vl, vu, vs] } } := I4.kept (t' := s4.toks) fun b ob q => Heap.get?_push_of_some _ q
  have I5' : Inv X pins σ H4 { s4 with heap := s4.heap.push { cls := .type "slice", data := .fields #[vl, vu, vs] } } := I4.kept (t' := s4.toks) fun b ob q => Heap.get?_push_of_some _ q
  rcases q3 with ⟨a, xs, rfl, q⟩ | ⟨z, rfl, hz, rfl, q⟩
  rotate_left
  · obtain ⟨t, rfl⟩ := r1
    obtain ⟨l, rfl, el⟩ := IsPart.raw pl
    obtain ⟨u', rfl, eu⟩ := IsPart.raw pu
    obtain ⟨k, rfl, ek⟩ := IsPart.raw ps
    have e1 : l = none := by cases l <;> simp_all
    have e2 : u' = none := by cases u' <;> simp_all
    subst e1 e2
    cases k with
    | none => cases ek
    | some k =>
      obtain ⟨k, tk⟩ := k
      have ek : k = -1 := by simpa using ek
      subst ek
      show wpAny (model X.prog X.w) X.A (subscriptTail e (.Slice none hi (some (.UnaryOp .USub (.Constant (.int 1) kc p1) p2)) p3) (.str z t) (.ref s4.heap.objs.size)) (EP X pins σ Q) X.xe { s4 with heap := s4.heap.push { cls := .type "slice", data := .fields #[.none, .none, .int (-1) tk] } }
      refine tail_any (ops := [.ref s4.heap.objs.size, .str z t]) (typeIs_str _ z t) F.slot_str_getitem.lookup ?_ (by with_unfolding_all rfl)
      refine wpAny_getItem_str_slice (l := none) (u := none) (st := some (-1, tk)) ⟨_, Heap.get?_push_size _ rfl, rfl, rfl⟩ rfl ?_
      exact ⟨Nat.le_trans (backS_len z) hz, .str _, H4, I5'.tok _, ⟨_, rfl⟩, q⟩
  cases r1
  rcases q with ⟨rfl, hx, q⟩ | ⟨ho, hx, q⟩
  · obtain ⟨its, r, ht, hz⟩ := I5.list hx
    have hlen := r.length
    show wpAny (model X.prog X.w) X.A (subscriptTail e (.Slice none hi (some (.UnaryOp .USub (.Constant (.int 1) kc p1) p2)) p3) (.ref a) (.ref s4.heap.objs.size)) (EP X pins σ Q) X.xe { s4 with heap := s4.heap.push { cls := .type "slice", data := .fields #[vl, vu, vs] } }
    refine tail_any (ops := [.ref a, .ref s4.heap.objs.size]) ht.isList.typeIs (PySem.slot_list_getitem.lookup) ?_ (by with_unfolding_all rfl)
    refine wpAny_getItem_list_slice ht.isList (Heap.IsSliceOf.new _ vl vu vs) pl pu ps (by decide) ?_ (by rw [List.size_toArray]; omega)
    rw [PySem.W.krv_pick]
    refine ⟨.ref _, _, I5.laid (t' := s4.toks) (o := .lst xs.reverse) (fun b ob q => Heap.get?_push_of_some _ q) (Nat.le_refl _) ?_, rfl, q _ (I5.hok.fresh (Nat.le_refl _))⟩
    exact ⟨by rw [List.length_reverse]; exact hz, _, 0, r.reverse, Heap.get?_push_size _ rfl⟩
  · obtain ⟨its, r, ht, hz⟩ := I5.tuple hx
    have hlen := r.length
    show wpAny (model X.prog X.w) X.A (subscriptTail e (.Slice none hi (some (.UnaryOp .USub (.Constant (.int 1) kc p1) p2)) p3) (.ref a) (.ref s4.heap.objs.size)) (EP X pins σ Q) X.xe { s4 with heap := s4.heap.push { cls := .type "slice", data := .fields #[vl, vu, vs] } }
    refine tail_any (ops := [.ref a, .ref s4.heap.objs.size]) ht.typeIs (PyProof.Rows.slot_tuple_getitem.lookup) ?_ (by with_unfolding_all rfl)
    refine getItem_tuple_back ht (Heap.IsSliceOf.new _ vl vu vs) pl pu ps ho ?_ (by rw [List.size_toArray]; omega)
    exact ⟨.ref _, upd H4 _ _, I5.laid (t' := s4.toks) (o := .frz { cls := .type "tuple", data := .seq (its.drop (bk u)).reverse.toArray } (.tup (xs.drop (bk u)).reverse)) (fun c oc qc => Heap.get?_push_of_some _ qc) (Nat.le_refl _)
      (frz_tup (by rw [List.length_reverse, List.length_drop]; omega) (r.drop (bk u)).reverse (Heap.get?_push_size _ rfl)), rfl, q _ _ (I5.hok.fresh (Nat.le_refl _)) rfl⟩
def fRev : D → Bs → Rs D
  | .lst ds, B => .ok (.lst ds.reverse) B
  | .tup ds, B => .ok (.tup ds.reverse) B
  | .str z, B => if z.length ≤ sizeLine then .ok (.str (backS z)) B else .bad
  | _, _ => .bad
def fBk1 : D → Bs → Rs D
  | .tup ds, B => .ok (.tup (ds.drop 1).reverse) B
  | _, _ => .bad
theorem Reps.reverse {g : Gs} {w : Wd} : ∀ {ds : List D} {vs : List V}, Reps g w ds vs → Reps g w ds.reverse vs.reverse
  | [], vs, h => by simp only [Reps] at h; subst h; simp [Reps]
  | d :: ds, vs, h => by
    simp only [Reps] at h
    obtain ⟨v, us, rfl, r, rs⟩ := h
    rw [List.reverse_cons, List.reverse_cons]
    exact Reps.app (Reps.reverse rs) (Reps.one r)
theorem s_rev (ok : Ok g X) (he : Snd g E H0 X b1 e m) : Snd g E H0 X false (.Subscript e (.Slice none none (some (.UnaryOp .USub (.Constant (.int 1) kc p1) p2)) p3) pos) (m1 fRev m) := by
  refine weak (pe_bk he po_none) ?_
  rintro σ H Q ⟨w, σI, B, s, p⟩
  refine tI_bind s p fun d B1 w1 v H1 x1 s1 r1 p1 => ?_
  unfold fRev at p1
  split at p1
  · obtain ⟨a, vs, rfl, q, r⟩ := r1.up.lst s1
    exact .inl ⟨a, vs, rfl, .inl ⟨rfl, .inl (.inl q), fun l hl => p1.newL s1 r.reverse hl⟩⟩
  · obtain ⟨a, vs, rfl, q, r⟩ := r1.up.tup s1
    exact .inl ⟨a, vs, rfl, .inr ⟨.inl rfl, ok.K ▸ q, fun l ob hl ho => p1.newT s1 (by simpa [bk] using r.reverse) hl ho⟩⟩
  · split at p1
    · rename_i hz
      exact .inr ⟨_, r1.up.str s1, hz, rfl, p1.nowR s1 (rep_str g w1 _)⟩
    · exact p1.elim
  · exact p1.elim
theorem s_bk1 {k2 : Nat} (ok : Ok g X) (he : Snd g E H0 X b1 e m) : Snd g E H0 X false (.Subscript e (.Slice none (some (.Constant (.int 0) k2 p4)) (some (.UnaryOp .USub (.Constant (.int 1) kc p1) p2)) p3) pos) (m1 fBk1 m) := by
  refine weak (pe_bk he (po_some pe_int)) ?_
  rintro σ H Q ⟨w, σI, B, s, p⟩
  refine tI_bind s p fun d B1 w1 v H1 x1 s1 r1 p1 => ?_
  unfold fBk1 at p1
  split at p1
  · obtain ⟨a, vs, rfl, q, r⟩ := r1.up.tup s1
    exact ⟨0, rfl, .inl ⟨a, vs, rfl, .inr ⟨.inr rfl, ok.K ▸ q, fun l ob hl ho => p1.newT s1 (Reps.reverse (Reps.drop 1 r)) hl ho⟩⟩⟩
  · exact p1.elim
end
end Hf

set_option Elab.async false
set_option linter.all false
set_option maxRecDepth 100000
set_option maxHeartbeats 4000000
namespace Hf
open PySem PySem.Spec PyProof.Rows L2

/-! ### enumerate, zip -/
section
variable {X : Cx} {pins : List (Addr × Obj)} {σ : L2.St} {H : Hp} {s : Shared}
theorem Sk.At.inj (I : Inv X pins σ H s) {k : Sk} {xs ys : List V} (h : k.At X.K H xs) (h' : k.At X.K H ys) : xs = ys := by
  cases k with
  | l a => exact I.list_inj h h'
  | t a => exact I.tuple_inj h h'
  | s x =>
    have h : xs = chV x := h
    have h' : ys = chV x := h'
    rw [h, h']
end
theorem turn_gen {P : Program} {w : World} {K : PySem.W.Frag} {tg : Expr} {J : It} {fp : List Addr} {it : Addr} {tn : Nat → Heap → Prop} (mem : it ∈ fp)
    (obj : ∀ i h, tn i h → ∀ b ∈ fp, ∃ o, h.get? b = some o ∧ ∀ v, o.data ≠ .cell v) (keep : ∀ i h h', tn i h → (∀ b ∈ fp, ∀ o, h.get? b = some o → h'.get? b = some o) → tn i h')
    (self : ∀ (A : Around) (i : Nat) (s : Shared) (Q : Value → Shared → Prop) (E : Value → Shared → Prop), tn i s.heap → Q (.ref it) s → wpAny (model P w) A (pyIter (.ref it)) Q E s)
    (step : ∀ (X : Cx), X.prog = P → X.w = w → X.K = K → X.calm = true → ∀ (i : Nat) (pins : List (Addr × Obj)) (s : Shared) (σ : L2.St) (H : Hp), Inv X pins σ H s → (∀ b ∈ fp, FpOk X pins H b) → tn i s.heap → J.go i H →
      ∃ (fq wr : List Addr) (n : Nat) (Y : Nat → Heap → Value → Heap → Prop) (St : Nat → Heap → Prop), GoesN P w X.A tg it fq wr n Y St ∧ (∀ b ∈ wr, b ∈ fp) ∧ i < n ∧ St i s.heap ∧ (∀ h', St (i + 1) h' → tn (i + 1) h') ∧
        ∀ v h, Y i s.heap v h → ∃ (T : Addr) (xs : List V) (us : List Value), v = .ref T ∧ s.heap.objs.size ≤ T ∧ Vals xs us ∧ h.IsTuple T us.toArray ∧ xs.length ≤ sizeLine ∧ (H T = none → J.yld i H (.ref T) (upd H T (.tup xs))))
    (stop : ∀ (X : Cx), X.prog = P → X.w = w → X.K = K → X.calm = true → ∀ (i : Nat) (pins : List (Addr × Obj)) (s : Shared) (σ : L2.St) (H : Hp), Inv X pins σ H s → (∀ b ∈ fp, FpOk X pins H b) → tn i s.heap → J.stop i H →
      ∃ (fq wr : List Addr) (Y : Nat → Heap → Value → Heap → Prop) (St : Nat → Heap → Prop), GoesN P w X.A tg it fq wr i Y St ∧ (∀ b ∈ wr, b ∈ fp) ∧ St i s.heap) :
    Turn P w K tg J fp it tn where
  mem := mem
  obj := obj
  keep := keep
  self := self
  item := by
    intro X hP hw hK hc i pins s σ H E I hf st hg
    obtain ⟨fq, wr, n, Y, St, W, hwr, hi, hst, hnx, hY⟩ := step X hP hw hK hc i pins s σ H I hf st hg
    refine W.goes i s (fun u s2 => ∃ x H', Inv X pins σ H' s2 ∧ RelV x u ∧ J.yld i H x H' ∧ tn (i + 1) s2.heap ∧ ∀ b ∈ fp, H' b = none) E hi hst fun v h' tk y st' hk htk => ?_
    obtain ⟨T, xs, us, rfl, hT, rv, ht, hz, jy⟩ := hY v h' y
    have hn : H T = none := I.hok.fresh hT
    have new : ObjOk X.prog X.w (upd H T (.tup xs)) h' T (.tup xs) := ⟨hz, us, rv, ht⟩
    subst hP hw
    refine ⟨.ref T, _, I.turnedNew (t' := tk) (ch := fp) (fun b o hb q => hk b o (fun z => hb (hwr b z)) q) hf hT new, rfl, jy hn, hnx _ st', fun b hb => ?_⟩
    obtain ⟨o, e, _⟩ := obj i _ st b hb
    rw [upd_ne (Nat.ne_of_lt (Nat.lt_of_lt_of_le (Heap.lt_size e) hT))]
    exact (hf b hb).1
  done := by
    intro X hP hw hK hc i pins s σ H E I hf st hg
    obtain ⟨fq, wr, Y, St, W, hwr, hst⟩ := stop X hP hw hK hc i pins s σ H I hf st hg
    refine wpAny_mono (W.stops s (fun s1 => Inv X pins σ H s1) E hst fun h' tk hk htk => ?_) (fun r s1 h1 => h1) fun _ _ h => h
    exact I.turnedL (t' := tk) (ch := fp) (fun b o hb q => hk b o (fun z => hb (hwr b z)) q) hf
/-- enumerate(source) -/
def ItE (K : PySem.W.Frag) (k : Sk) : It := ⟨fun i H => ∃ xs, k.At K H xs ∧ i < xs.length, fun i H v H' => ∃ T x, v = .ref T ∧ H T = none ∧ H' = upd H T (.tup [.int (i : Nat), x]) ∧ ∀ xs, k.At K H xs → xs[i]? = some x, fun i H => ∃ xs, k.At K H xs ∧ i = xs.length⟩
theorem turn_enumS {P : Program} {w : World} {K : PySem.W.Frag} {elts : List Expr} {kk : Nat} {tpos : Pos} (k : Sk) (e it : Addr) (hei : e ≠ it) :
    Turn P w K (.Tuple elts kk tpos) (ItE K k) [e, it] e (fun i h => (∃ old, IsEnum h e it (0 + ((i : Nat) : Int)) old) ∧ k.St it i h) := by
  refine turn_gen (by simp) (fun i h st b hb => ?_) (fun i h h' st kp => ?_) (fun A i s Q E st h => ?_) (fun X hP hw hK hc i pins s σ H I hf st hg => ?_) fun X hP hw hK hc i pins s σ H I hf st hg => ?_
  · obtain ⟨⟨old, he⟩, st2⟩ := st
    simp only [List.mem_cons, List.not_mem_nil, or_false] at hb
    rcases hb with rfl | rfl
    · exact ⟨_, he, fun v q => nomatch q⟩
    · exact st2.obj
  · obtain ⟨⟨old, he⟩, st2⟩ := st
    exact ⟨⟨old, kp e (by simp) _ he⟩, st2.at fun o q => kp it (by simp) o q⟩
  · obtain ⟨⟨old, he⟩, st2⟩ := st
    exact wpAny_pyIter_enum he h
  · subst hP hw hK
    obtain ⟨he, st2⟩ := st
    obtain ⟨xs, hx, hi⟩ := hg
    obtain ⟨fq, n, Pd, St, D, rfl, sd, sb, vd, fd⟩ := Sk.draws I hx st2 X.A.in1 (I.ok.hd hc) (hf it (by simp))
    refine ⟨_, _, _, _, _, GoesN.enumFrom 0 D e hei (fun hm => ?_) (by simp), fun b hb => by simpa using hb, hi, ⟨he, sd⟩, fun h' q => ⟨q.1, sb _ _ q.2⟩, fun v h y => ?_⟩
    · rcases List.mem_cons.mp hm with q | q
      · exact hei q
      · exact src_ne I (hf e (by simp)) (fd e q) rfl
    · obtain ⟨T, t, u, rfl, hT, hP, ht⟩ := y
      obtain ⟨x, h1, h2⟩ := vd i u hP
      refine ⟨T, [.int (i : Nat), x], [.int (0 + (i : Int)) t, u], rfl, hT, .cons ⟨t, by simp⟩ (.cons h2 .nil), ht, by show 2 ≤ sizeLine; decide, fun hn => ⟨T, x, rfl, hn, rfl, fun ys hy => ?_⟩⟩
      rw [Sk.At.inj I hy hx]; exact h1
  · subst hP hw hK
    obtain ⟨he, st2⟩ := st
    obtain ⟨xs, hx, rfl⟩ := hg
    obtain ⟨fq, n, Pd, St, D, rfl, sd, sb, vd, fd⟩ := Sk.draws I hx st2 X.A.in1 (I.ok.hd hc) (hf it (by simp))
    refine ⟨_, _, _, _, GoesN.enumFrom 0 D e hei (fun hm => ?_) (by simp), fun b hb => by simpa using hb, ⟨he, sd⟩⟩
    rcases List.mem_cons.mp hm with q | q
    · exact hei q
    · exact src_ne I (hf e (by simp)) (fd e q) rfl
theorem meets_enumerate_one {v : Value} {o : Obj} {H : Heap → Prop} (B : Begins v o H) :
    Meets (Builtin.«enumerate.__new__» ⟨[.type "enumerate", v], []⟩) (fun _ R s => H s.heap ∧
      R (.ok (.ret (.ref (s.heap.push o).objs.size))) { s with heap := (s.heap.push o).push { cls := .type "enumerate", data := .fields #[.none, .bool false, .ref s.heap.objs.size, rawInt 0, .none, .none] } }) :=
  .of_wp fun prog w A R s h => by
    obtain ⟨hp, g, d, tk, os⟩ := s; obtain ⟨h1, h⟩ := h
    have hsub := sub_enumerate
    have q1 : ∀ {A' : Around} {E : Value → Shared → Prop} {Q : Value → Shared → Prop}, Q (.ref hp.objs.size) ⟨hp.push o, g, d, tk, os⟩ → wpAny (model prog w) A' (pyIter v) Q E ⟨hp, g, d, tk, os⟩ :=
      fun q => B.iter prog w _ _ ⟨hp, g, d, tk, os⟩ _ h1 q
    wp_walk using q1
    refine wpAny_stack_any fun st => wpAny_pure ?_
    split
    · rename_i c _ _ _ _ _
      cases (c == Value.type "enumerate")
      · wp_walk using q1
        exact ⟨_, rfl, h⟩
      · wp_walk using q1
        exact ⟨_, rfl, h⟩
    · wp_walk using q1
      exact ⟨_, rfl, h⟩
section
variable {prog : Program} {w : World} {A : Around} {E : Value → Shared → Prop} {s : Shared}
theorem enum_begins1 {v : Value} {o : Obj} {H : Heap → Prop} {Q : Value → Shared → Prop} (B : Begins v o H) (h1 : H s.heap)
    (h : ∀ h', IsEnum h' (s.heap.objs.size + 1) s.heap.objs.size 0 .none → h'.get? s.heap.objs.size = some o →
      (∀ b o, s.heap.get? b = some o → h'.get? b = some o) → Q (.ref (s.heap.objs.size + 1)) { s with heap := h' }) :
    wpAny (model prog w) A (call (.type "enumerate") [v]) Q E s := by
  refine callType_new F.called_enumerate (by decide) (F.typeCall_enumerate_1 _) (F.newCall_enumerate_1 _) (fun obj => F.args_object_init_2 obj _) F.entry_enumerate_new
    (meets_enumerate_one B) ⟨h1, ?_⟩
  have hz : (s.heap.push o).objs.size = s.heap.objs.size + 1 := Heap.size_push ..
  show _ ∧ _
  rw [hz]
  have he : IsEnum ((s.heap.push o).push { cls := .type "enumerate", data := .fields #[.none, .bool false, .ref s.heap.objs.size, rawInt 0, .none, .none] }) (s.heap.objs.size + 1) s.heap.objs.size 0 .none := by
    have := Heap.get?_push_size (s.heap.push o) (o := { cls := .type "enumerate", data := .fields #[.none, .bool false, .ref s.heap.objs.size, rawInt 0, .none, .none] }) rfl
    rw [hz] at this; exact this
  exact ⟨⟨_, he, rfl⟩, h _ he (Heap.get?_push_of_some _ (Heap.get?_push_size _ B.free)) fun b o x => Heap.get?_push_of_some _ (Heap.get?_push_of_some _ x)⟩
end
/-- zip(source, source) -/
def ItZ2 (K : PySem.W.Frag) (k l : Sk) : It := ⟨fun i H => ∃ xs ys, k.At K H xs ∧ l.At K H ys ∧ i < min xs.length ys.length,
  fun i H v H' => ∃ T x y, v = .ref T ∧ H T = none ∧ H' = upd H T (.tup [x, y]) ∧ (∀ xs, k.At K H xs → xs[i]? = some x) ∧ ∀ ys, l.At K H ys → ys[i]? = some y, fun i H => ∃ xs ys, k.At K H xs ∧ l.At K H ys ∧ i = min xs.length ys.length⟩
/-- the five cells of a zip of two -/
structure Z5 (z TI TO i1 i2 : Addr) : Prop where
  a : TI ≠ z
  b : TO ≠ z
  c : TI ≠ TO
  d : TI ≠ i1
  e : TI ≠ i2
  f : z ≠ i1
  g : z ≠ i2
  h : TO ≠ i1
  i : TO ≠ i2
  j : i1 ≠ i2
theorem turn_zipS2 {P : Program} {w : World} {K : PySem.W.Frag} {elts : List Expr} {kk : Nat} {tpos : Pos} (k l : Sk) {z TI TO i1 i2 : Addr} (Z : Z5 z TI TO i1 i2) :
    Turn P w K (.Tuple elts kk tpos) (ItZ2 K k l) [z, TI, TO, i1, i2] z (fun i h => IsZip h z TI TO .none ∧ IsTupOf2 h TI (.ref i1) (.ref i2) ∧ (∃ a1 a2, IsTupOf2 h TO a1 a2) ∧ k.St i1 i h ∧ l.St i2 i h) := by
  have sep : ∀ {X : Cx} {pins : List (Addr × Obj)} {s : Shared} {σ : L2.St} {H : Hp}, Inv X pins σ H s → (∀ b ∈ [z, TI, TO, i1, i2], FpOk X pins H b) → ∀ {f1 f2 : List Addr}, (∀ b ∈ f1, (∃ o, H b = some o) ∨ ∃ o, X.K.lookup b = some o) → (∀ b ∈ f2, (∃ o, H b = some o) ∨ ∃ o, X.K.lookup b = some o) →
      ZipSep2 z TI TO i1 i2 (i1 :: f1) (i2 :: f2) := by
    intro X pins s σ H I hf f1 f2 h1 h2
    have no : ∀ {c : Addr} {f : List Addr}, c ∈ [z, TI, TO, i1, i2] → (∀ b ∈ f, (∃ o, H b = some o) ∨ ∃ o, X.K.lookup b = some o) → c ∉ f := fun hc hq q => src_ne I (hf _ hc) (hq _ q) rfl
    have nc : ∀ {c d : Addr} {f : List Addr}, c ∈ [z, TI, TO, i1, i2] → (∀ b ∈ f, (∃ o, H b = some o) ∨ ∃ o, X.K.lookup b = some o) → c ≠ d → c ∉ d :: f := fun hc hq hn q => by
      rcases List.mem_cons.mp q with q | q
      · exact hn q
      · exact no hc hq q
    exact { TIz := Z.a, TOz := Z.b, TITO := Z.c, TIi1 := Z.d, mem1 := by simp, zf1 := nc (by simp) h1 Z.f, Tf1 := nc (by simp) h1 Z.h, TIi2 := Z.e, mem2 := by simp, zf2 := nc (by simp) h2 Z.g, Tf2 := nc (by simp) h2 Z.i, sep1_2 := nc (by simp) h2 Z.j, sep2_1 := nc (by simp) h1 Z.j.symm }
  refine turn_gen (by simp) (fun i h st b hb => ?_) (fun i h h' st kp => ?_) (fun A i s Q E st h => ?_) (fun X hP hw hK hc i pins s σ H I hf st hg => ?_) fun X hP hw hK hc i pins s σ H I hf st hg => ?_
  · obtain ⟨h1, h2, ⟨a1, a2, h3⟩, h4, h5⟩ := st
    simp only [List.mem_cons, List.not_mem_nil, or_false] at hb
    rcases hb with rfl | rfl | rfl | rfl | rfl
    · exact ⟨_, h1, fun v q => nomatch q⟩
    · exact ⟨_, h2, fun v q => nomatch q⟩
    · exact ⟨_, h3, fun v q => nomatch q⟩
    · exact h4.obj
    · exact h5.obj
  · obtain ⟨h1, h2, ⟨a1, a2, h3⟩, h4, h5⟩ := st
    exact ⟨kp _ (by simp) _ h1, kp _ (by simp) _ h2, ⟨a1, a2, kp _ (by simp) _ h3⟩, h4.at fun o q => kp _ (by simp) o q, h5.at fun o q => kp _ (by simp) o q⟩
  · exact wpAny_pyIter_zip st.1 h
  · subst hP hw hK
    obtain ⟨h1, h2, h3, h4, h5⟩ := st
    obtain ⟨xs, ys, hx, hy, hi⟩ := hg
    obtain ⟨f1, n1, P1, St1, D1, rfl, sd1, sb1, vd1, fd1⟩ := Sk.draws I hx h4 X.A.in1 (I.ok.hd hc) (hf i1 (by simp))
    obtain ⟨f2, n2, P2, St2, D2, rfl, sd2, sb2, vd2, fd2⟩ := Sk.draws I hy h5 X.A.in1 (I.ok.hd hc) (hf i2 (by simp))
    refine ⟨_, _, _, _, _, GoesN.zip2 (sep I hf fd1 fd2) D1 D2, fun b hb => ?_, hi, ⟨h1, h2, h3, sd1, sd2⟩, fun h' q => ⟨q.1, q.2.1, q.2.2.1, sb1 _ _ q.2.2.2.1, sb2 _ _ q.2.2.2.2⟩, fun v h y => ?_⟩
    · simp only [List.mem_cons, List.not_mem_nil, or_false] at hb ⊢
      rcases hb with q | q | q | q <;> simp [q]
    · obtain ⟨T, u1, u2, rfl, hT, p1, p2, ht⟩ := y
      obtain ⟨x, a1, a2⟩ := vd1 i u1 p1
      obtain ⟨y, c1, c2⟩ := vd2 i u2 p2
      refine ⟨T, [x, y], [u1, u2], rfl, hT, .cons a2 (.cons c2 .nil), ht, by show 2 ≤ sizeLine; decide, fun hn => ⟨T, x, y, rfl, hn, rfl, fun zs hz => ?_, fun zs hz => ?_⟩⟩
      · rw [Sk.At.inj I hz hx]; exact a1
      · rw [Sk.At.inj I hz hy]; exact c1
  · subst hP hw hK
    obtain ⟨h1, h2, h3, h4, h5⟩ := st
    obtain ⟨xs, ys, hx, hy, rfl⟩ := hg
    obtain ⟨f1, n1, P1, St1, D1, rfl, sd1, sb1, vd1, fd1⟩ := Sk.draws I hx h4 X.A.in1 (I.ok.hd hc) (hf i1 (by simp))
    obtain ⟨f2, n2, P2, St2, D2, rfl, sd2, sb2, vd2, fd2⟩ := Sk.draws I hy h5 X.A.in1 (I.ok.hd hc) (hf i2 (by simp))
    refine ⟨_, _, _, _, GoesN.zip2 (sep I hf fd1 fd2) D1 D2, fun b hb => ?_, ⟨h1, h2, h3, sd1, sd2⟩⟩
    simp only [List.mem_cons, List.not_mem_nil, or_false] at hb ⊢
    rcases hb with q | q | q | q <;> simp [q]
section
variable {X : Cx} {e e2 : Expr} {ta : TE} {tb : TE} {p pos tpos : Pos} {elts : List Expr} {kk : Nat}
def iEnumS (K : PySem.W.Frag) (ta : TE) : TI := fun σ H R => ta σ H fun x H1 => ∃ k xs, x = Sk.v k ∧ k.At K H1 xs ∧ R (ItE K k) H1
theorem pi_enumS (hg : Gl X "enumerate") (hm : X.mg "enumerate" = none) (he : PE X e ta) (na : starEach [e] X.env = (false, eval e X.env) :: starEach [] X.env := by rfl) :
    PI X (.Tuple elts kk tpos) (.Call (.Name "enumerate" p) [e] [] pos) (iEnumS X.K ta) := by
  refine ⟨fun pins s σ H R I h => ?_⟩
  refine Call_ (ld_blt I hg hm boot_enumerate (PyProof.Rows.callWith_type1 (args_cons (thn (he.run pins s σ H _ I h) fun u s1 ⟨x, H1, I1, r1, k, xs, ex, hk, q⟩ => args_nil ?_) na) na rfl))
  subst ex
  obtain ⟨o, HH, B, h1, hs⟩ := Sk.begins I1 hk r1
  refine enum_begins1 B h1 fun h' hE hit hk' => wpAny_pyIter_enum hE ?_
  refine ⟨s1.heap.objs.size + 1, [s1.heap.objs.size + 1, s1.heap.objs.size], _, _, H1, rfl, I1.kept (t' := s1.toks) hk', turn_enumS k (s1.heap.objs.size + 1) s1.heap.objs.size (Nat.succ_ne_self _), ⟨⟨_, hE⟩, hs _ _ hit⟩, fun c hc => ?_, q⟩
  have hle : s1.heap.objs.size ≤ c := by
    simp only [List.mem_cons, List.not_mem_nil, or_false] at hc
    rcases hc with z | z
    · rw [z]; exact Nat.le_succ _
    · rw [z]; exact Nat.le_refl _
  exact I1.fpOk hle (I1.hok.fresh hle)
def iZipS2 (K : PySem.W.Frag) (ta tb : TE) : TI := fun σ H R => ta σ H fun x H1 => tb σ H1 fun y H2 => ∃ k l xs ys, x = Sk.v k ∧ y = Sk.v l ∧ k.At K H2 xs ∧ l.At K H2 ys ∧ R (ItZ2 K k l) H2
theorem pi_zipS2 (hg : Gl X "zip") (hm : X.mg "zip" = none) (he : PE X e ta) (he2 : PE X e2 tb) (na : starEach [e, e2] X.env = (false, eval e X.env) :: starEach [e2] X.env := by rfl) (nb : starEach [e2] X.env = (false, eval e2 X.env) :: starEach [] X.env := by rfl) (hpl : (backTo pos (starEach [e2] X.env)).any (·.1) = false := by rfl) :
    PI X (.Tuple elts kk tpos) (.Call (.Name "zip" p) [e, e2] [] pos) (iZipS2 X.K ta tb) := by
  refine ⟨fun pins s σ H R I h => ?_⟩
  refine Call_ (ld_blt I hg hm PyProof.Rows.boot_zip (PyProof.Rows.callWith_type1 (args_cons (thn (he.run pins s σ H _ I h) fun u s1 ⟨x, H1, I1, r1, q1⟩ => args_cons (thn (he2.run pins s1 σ H1 _ I1 q1) fun u2 s2 ⟨y, H2, I2, r2, k, l, xs, ys, ex, ey, hk, hl, q⟩ => args_nil ?_) nb) na) na hpl))
  subst ex ey
  obtain ⟨o1, HH1, B1, h1, hs1⟩ := Sk.begins I2 hk r1
  obtain ⟨o2, HH2, B2, h2, hs2⟩ := Sk.begins I2 hl r2
  refine zip_begins2 B1 B2 h1 h2 fun h' hz hTI hTO g1 g2 hsz hk' => wpAny_pyIter_zip hz ?_
  generalize hN : s2.heap.objs.size = N at *
  refine ⟨N + 4, [N + 4, N + 2, N + 3, N, N + 1], _, _, H2, rfl, I2.kept (t' := s2.toks) hk', turn_zipS2 k l ⟨?_, ?_, ?_, ?_, ?_, ?_, ?_, ?_, ?_, ?_⟩, ⟨hz, hTI, ⟨_, _, hTO⟩, hs1 _ _ g1, hs2 _ _ g2⟩, fun c hc => ?_, q⟩
  · show (N + 2 : Nat) ≠ N + 4; omega
  · show (N + 3 : Nat) ≠ N + 4; omega
  · show (N + 2 : Nat) ≠ N + 3; omega
  · show (N + 2 : Nat) ≠ N; omega
  · show (N + 2 : Nat) ≠ N + 1; omega
  · show (N + 4 : Nat) ≠ N; omega
  · show (N + 4 : Nat) ≠ N + 1; omega
  · show (N + 3 : Nat) ≠ N; omega
  · show (N + 3 : Nat) ≠ N + 1; omega
  · show (N : Nat) ≠ N + 1; omega
  · have hle : s2.heap.objs.size ≤ c := by
      rw [hN]
      simp only [List.mem_cons, List.not_mem_nil, or_false] at hc
      rcases hc with z | z | z | z | z <;> rw [z]
      · exact Nat.le_add_right _ _
      · exact Nat.le_add_right _ _
      · exact Nat.le_add_right _ _
      · exact Nat.le_refl _
      · exact Nat.le_add_right _ _
    exact I2.fpOk hle (I2.hok.fresh hle)
end
section
variable {g : Gs} {E : XK} {H0 : Hp} {w : Wd}
theorem SkAt.at {k : Sk} {ds : List D} {H : Hp} (h : SkAt g w k ds) (hs : Same w.P H) : ∃ vs, k.At g.K H vs ∧ Reps g w ds vs := let ⟨vs, a, r⟩ := h; ⟨vs, a.mono hs, r⟩
theorem reg_pair {w1 : Wd} {H : Hp} {B : Bs} {T : Addr} {ds : List D} {vs : List V} (rb : RB g w1 B H) (hn : H T = none) (r : Reps g w1 ds vs) :
    ∃ w2, Ext w1 H w2 (upd H T (.tup vs)) ∧ RB g w2 B (upd H T (.tup vs)) ∧ Rep g w2 (.prs ds) (.ref T) :=
  ⟨regW w1 T (.tup vs), Ext.reg rb hn, rb.reg hn, by
    simp only [Rep]
    exact ⟨T, vs, rfl, .inl (.inl upd_same), Reps.mono (regLe w1 (rb.fresh_P hn)) _ _ r⟩⟩
def enumD (ds : List D) : List D := (List.range ds.length).zipWith (fun i d => D.prs [.int (i : Nat), d]) ds
def zipD (ds es : List D) : List D := ds.zipWith (fun d e => D.prs [d, e]) es
theorem enumD_len (ds : List D) : (enumD ds).length = ds.length := by simp [enumD]
theorem it_enum {k : Sk} {ds : List D} (h : SkAt g w k ds) : ItOk g w (ItE g.K k) (enumD ds) where
  go := fun i H hi hs => by
    obtain ⟨vs, a, r⟩ := h.at hs
    exact ⟨vs, a, by rw [enumD_len] at hi; rw [r.len]; exact hi⟩
  stop := fun i H hi hs => by
    obtain ⟨vs, a, r⟩ := h.at hs
    exact ⟨vs, a, by rw [enumD_len] at hi; rw [r.len]; exact hi⟩
  yld := fun i H x H' d w1 B e l rb y => by
    obtain ⟨vs, a, r⟩ := h.at (l.P.trans rb.sub)
    obtain ⟨T, y, rfl, hn, rfl, hx⟩ := y
    have hx := hx vs a
    unfold enumD at e
    rw [List.getElem?_zipWith] at e
    have hi : i < ds.length := by rw [← r.len]; exact (List.getElem?_eq_some_iff.mp hx).1
    rw [List.getElem?_range hi, List.getElem?_eq_getElem hi] at e
    simp only [Option.some.injEq] at e
    subst e
    obtain ⟨v, e2, rv⟩ := Reps.get r (List.getElem?_eq_getElem hi)
    rw [hx] at e2; cases e2
    refine reg_pair rb hn ?_
    simp only [Reps, Rep]
    exact ⟨_, _, rfl, rfl, _, _, rfl, Rep.mono l _ _ rv, rfl⟩
theorem it_zip2 {k l : Sk} {ds es : List D} (h : SkAt g w k ds) (h' : SkAt g w l es) : ItOk g w (ItZ2 g.K k l) (zipD ds es) where
  go := fun i H hi hs => by
    obtain ⟨vs, a, r⟩ := h.at hs
    obtain ⟨us, b, r'⟩ := h'.at hs
    exact ⟨vs, us, a, b, by rw [r.len, r'.len]; simpa [zipD] using hi⟩
  stop := fun i H hi hs => by
    obtain ⟨vs, a, r⟩ := h.at hs
    obtain ⟨us, b, r'⟩ := h'.at hs
    exact ⟨vs, us, a, b, by rw [r.len, r'.len]; simpa [zipD] using hi⟩
  yld := fun i H x H' d w1 B e le rb y => by
    obtain ⟨vs, a, r⟩ := h.at (le.P.trans rb.sub)
    obtain ⟨us, b, r'⟩ := h'.at (le.P.trans rb.sub)
    obtain ⟨T, x1, x2, rfl, hn, rfl, hx, hy⟩ := y
    have hx := hx vs a
    have hy := hy us b
    have hi : i < ds.length := by rw [← r.len]; exact (List.getElem?_eq_some_iff.mp hx).1
    have hj : i < es.length := by rw [← r'.len]; exact (List.getElem?_eq_some_iff.mp hy).1
    unfold zipD at e
    rw [List.getElem?_zipWith, List.getElem?_eq_getElem hi, List.getElem?_eq_getElem hj] at e
    simp only [Option.some.injEq] at e
    subst e
    obtain ⟨v, e2, rv⟩ := Reps.get r (List.getElem?_eq_getElem hi)
    rw [hx] at e2; cases e2
    obtain ⟨v', e3, rv'⟩ := Reps.get r' (List.getElem?_eq_getElem hj)
    rw [hy] at e3; cases e3
    refine reg_pair rb hn ?_
    simp only [Reps]
    exact ⟨_, _, rfl, Rep.mono le _ _ rv, _, _, rfl, Rep.mono le _ _ rv', rfl⟩
variable {X : Cx} {a b : Expr} {ma mb : Ev} {p pos tpos : Pos} {elts : List Expr} {kk : Nat}
def itD (d : D) (B : Bs) : Rs (List D) := match itemsOf d with
  | some ds => .ok ds B
  | Option.none => .bad
def mEnum (m : Ev) : Ei := fun σ B => (m σ B).bind fun d B1 => (itD d B1).bind fun ds B2 => .ok (enumD ds) B2
def mZip2 (ma mb : Ev) : Ei := fun σ B => (ma σ B).bind fun d B1 => (itD d B1).bind fun ds B2 => (mb σ B2).bind fun e B3 => (itD e B3).bind fun es B4 => .ok (zipD ds es) B4
theorem itD_go {B : Bs} {H : Hp} {R : It → Hp → Prop} {d : D} {v : V} {f : List D → Bs → Rs (List D)} (r : Rep g w d v) (p : PostI g E w H R ((itD d B).bind f)) : ∃ ds k, v = Sk.v k ∧ SkAt g w k ds ∧ PostI g E w H R (f ds B) := by
  unfold itD at p
  cases hd : itemsOf d with
  | none => rw [hd] at p; exact p.elim
  | some ds =>
    rw [hd] at p
    obtain ⟨k, e, hk⟩ := Rep.sk r hd
    exact ⟨ds, k, e, hk, p⟩
theorem SkAt.mono {w1 : Wd} {k : Sk} {ds : List D} (l : Le w w1) (h : SkAt g w k ds) : SkAt g w1 k ds := let ⟨vs, a, r⟩ := h; ⟨vs, a.mono l.P, Reps.mono l _ _ r⟩
theorem i_enum (c : Ok g X) (h : Snd g E H0 X false a ma) (hg : Gl X "enumerate" := by rfl) (na : starEach [a] X.env = (false, eval a X.env) :: starEach [] X.env := by rfl) : SndI g E H0 X (.Tuple elts kk tpos) (.Call (.Name "enumerate" p) [a] [] pos) (mEnum ma) := by
  refine weakI (pi_enumS hg (nbs c) h na) ?_
  rintro σ H R ⟨w, σI, B, s, p⟩
  refine tI_bindI s p fun d B1 w1 v H1 x1 s1 r p1 => ?_
  obtain ⟨ds, k, rfl, hk, p2⟩ := itD_go r p1
  obtain ⟨vs, a1, _⟩ := hk.at s1.rb.sub
  rw [c.K]
  exact ⟨k, vs, rfl, a1, p2 w1 _ H1 (Ext.refl _ _) s1.rb (it_enum hk)⟩
theorem i_zip2 (c : Ok g X) (h : Snd g E H0 X false a ma) (h' : Snd g E H0 X false b mb) (hg : Gl X "zip" := by rfl) (na : starEach [a, b] X.env = (false, eval a X.env) :: starEach [b] X.env := by rfl) (nb : starEach [b] X.env = (false, eval b X.env) :: starEach [] X.env := by rfl) (hpl : (backTo pos (starEach [b] X.env)).any (·.1) = false := by rfl) :
    SndI g E H0 X (.Tuple elts kk tpos) (.Call (.Name "zip" p) [a, b] [] pos) (mZip2 ma mb) := by
  refine weakI (pi_zipS2 hg (nbs c) h h' na nb hpl) ?_
  rintro σ H R ⟨w, σI, B, s, p⟩
  refine tI_bindI s p fun d B1 w1 v H1 x1 s1 r p1 => ?_
  obtain ⟨ds, k, rfl, hk, p2⟩ := itD_go r p1
  refine tI_bindI s1 p2 fun d2 B2 w2 v2 H2 x2 s2 r2 p3 => ?_
  obtain ⟨es, l, rfl, hl, p4⟩ := itD_go r2 p3
  have hk2 := hk.mono x2.le
  obtain ⟨vs, a1, _⟩ := hk2.at s2.rb.sub
  obtain ⟨us, a2, _⟩ := hl.at s2.rb.sub
  rw [c.K]
  exact ⟨k, l, vs, us, rfl, rfl, a1, a2, p4 w2 _ H2 (Ext.refl _ _) s2.rb (it_zip2 hk2 hl)⟩
end
end Hf

set_option Elab.async false
set_option linter.all false
set_option maxRecDepth 100000
set_option maxHeartbeats 4000000
namespace Hf
open PySem PySem.Spec PyProof.Rows L2

/-! ### keys -/
section
variable {g : Gs} {w : Wd} {X : Cx} {pins : List (Addr × Obj)} {σ : L2.St} {H : Hp} {s : Shared}
mutual
theorem nk_is (I : Inv X pins σ H s) (hK : X.K = g.K) (hs : Same w.P H) : ∀ (d : D) (v : V) (u : Value) (k : NestedKey), Rep g w d v → RelV v u → nkD d = some k → NestedIs s.heap k u
  | .none, v, u, k, r, ru, h => by
    simp only [Rep] at r; subst r
    simp only [nkD, Option.some.injEq] at h; subst h
    cases (show u = Value.none from ru)
    exact .none
  | .bool b, v, u, k, r, ru, h => by
    simp only [Rep] at r; subst r
    simp only [nkD, Option.some.injEq] at h; subst h
    cases (show u = Value.bool b from ru)
    exact .bool rfl
  | .int i, v, u, k, r, ru, h => by
    simp only [Rep] at r; subst r
    simp only [nkD, Option.some.injEq] at h; subst h
    obtain ⟨t, rfl⟩ := ru
    exact .int _ _
  | .str i, v, u, k, r, ru, h => by
    simp only [Rep] at r; subst r
    simp only [nkD, Option.some.injEq] at h; subst h
    obtain ⟨t, rfl⟩ := ru
    exact .text _ _
  | .tup ds, v, u, k, r, ru, h => by
    simp only [Rep] at r
    obtain ⟨a, vs, rfl, q, r⟩ := r
    simp only [nkD, Option.map_eq_some_iff] at h
    obtain ⟨ks, h, rfl⟩ := h
    cases (show u = Value.ref a from ru)
    obtain ⟨its, rv, ⟨o, ho, hc, n, hd⟩, hz⟩ := I.tuple (hK ▸ sqT_mono hs q.T)
    exact .tup ho hc hd (by simpa using nks_is I hK hs ds vs its ks r rv h)
  | .lst ds, v, u, k, r, ru, h => by simp [nkD] at h
  | .scr ds, v, u, k, r, ru, h => by simp [nkD] at h
  | .prs ds, v, u, k, r, ru, h => by simp [nkD] at h
  | .dct ks ds, v, u, k, r, ru, h => by simp [nkD] at h
  | .inst c ds, v, u, k, r, ru, h => by simp [nkD] at h
  | .box n, v, u, k, r, ru, h => by simp [nkD] at h
  | .cls n, v, u, k, r, ru, h => by simp [nkD] at h
  | .kd n x, v, u, k, r, ru, h => by simp [nkD] at h
  | .fnT n, v, u, k, r, ru, h => by simp [nkD] at h
  | .exo a dd f x, v, u, k, r, ru, h => by simp [nkD] at h
theorem nks_is (I : Inv X pins σ H s) (hK : X.K = g.K) (hs : Same w.P H) : ∀ (ds : List D) (vs : List V) (us : List Value) (ks : List NestedKey), Reps g w ds vs → Vals vs us → nksD ds = some ks → NestedAll s.heap ks us
  | [], vs, us, ks, r, ru, h => by
    simp only [Reps] at r; subst r
    simp only [nksD, Option.some.injEq] at h; subst h
    cases ru
    exact .nil
  | d :: ds, vs, us, ks, r, ru, h => by
    simp only [Reps] at r
    obtain ⟨v, ws, rfl, r, rs⟩ := r
    simp only [nksD] at h
    split at h
    · rename_i k ks' e1 e2
      cases h
      cases ru with
      | cons r1 r2 => exact .cons (nk_is I hK hs d v _ k r r1 e1) (nks_is I hK hs ds ws _ ks' rs r2 e2)
    · cases h
end
/-- at b stands a key k -/
def KeyH (g : Gs) (H : Hp) (k : NestedKey) (b : Addr) : Prop := ∃ w d, Same (Wd.P w) H ∧ Rep g w d (.ref b) ∧ nkD d = some k
theorem KeyH.is (I : Inv X pins σ H s) (ok : Ok g X) {k : NestedKey} {b : Addr} (h : KeyH g H k b) (hd : k.depth ≤ 8) : (nestedKind X.prog X.w).is s.heap k b := by
  obtain ⟨w, d, hs, r, e⟩ := h
  exact ⟨nk_is I ok.K hs d _ _ k r rfl e, hd⟩
def KeysH (g : Gs) (H : Hp) (xs : List (NestedKey × Addr × V)) : Prop := ∀ p ∈ xs, KeyH g H p.1 p.2.1
theorem paired_mem {α β : Type} {F : α → β → Prop} : ∀ {l : List α} {m : List β}, Paired F l m → ∀ b ∈ m, ∃ a ∈ l, F a b
  | _, _, .nil, _, h => nomatch h
  | _, _, .cons h t, b, hb => by
    rcases List.mem_cons.mp hb with rfl | hb
    · exact ⟨_, List.mem_cons_self, h⟩
    · obtain ⟨a, ha, f⟩ := paired_mem t b hb
      exact ⟨a, List.mem_cons_of_mem _ ha, f⟩
abbrev PF : (NestedKey × Addr × V) → (NestedKey × Addr × Value) → Prop := fun p q => p.1 = q.1 ∧ p.2.1 = q.2.1 ∧ RelV p.2.2 q.2.2
theorem paired_keys : ∀ {l : List (NestedKey × Addr × V)} {m : List (NestedKey × Addr × Value)}, Paired PF l m → l.map (·.1) = m.map (·.1)
  | _, _, .nil => rfl
  | _, _, .cons h t => by rw [List.map_cons, List.map_cons, h.1, paired_keys t]
theorem dct_of (I : Inv X pins σ H s) (ok : Ok g X) {a : Addr} {xs : List (NestedKey × Addr × V)} (h : H a = some (dctO g a xs)) (kh : KeysH g H xs) :
    (a == sysModules) = false ∧ xs.length ≤ sizeLine ∧ (∀ p ∈ xs, p.1.depth ≤ 8) ∧ ∃ ys, Paired PF xs ys ∧ s.heap.DictOfH (nestedKind X.prog X.w) a ys := by
  obtain ⟨h1, h2, h3, h4, ys, h5, o, es, ep, ho, hx, hd, he⟩ := (I.hok a _ h).1
  refine ⟨h1, h2, h3, ys, h5, o, es, ep, ho, hx, hd, by rw [ok.prog, ok.w]; exact he, fun y hy => ?_, by rw [← paired_keys h5]; exact h4⟩
  obtain ⟨p, hp, e1, e2, _⟩ := paired_mem h5 y hy
  rw [← e1, ← e2]
  exact (kh p hp).is I ok (h3 p hp)
def atX (xs : List (NestedKey × Addr × V)) (k : NestedKey) : Option V := (xs.find? fun p => decide (p.1 = k)).map (·.2.2)
theorem at_rel {k : NestedKey} : ∀ {xs : List (NestedKey × Addr × V)} {ys : List (NestedKey × Addr × Value)}, Paired PF xs ys → (atX xs k = none ∧ atKey ys k = none) ∨ ∃ v b u, atX xs k = some v ∧ atKey ys k = some (b, u) ∧ RelV v u
  | _, _, .nil => .inl ⟨rfl, rfl⟩
  | x :: xs, y :: ys, .cons h t => by
    unfold atX atKey
    by_cases e : x.1 = k
    · have e2 : y.1 = k := by rw [← h.1]; exact e
      simp only [List.find?_cons, decide_eq_true e, decide_eq_true e2, Option.map_some]
      exact .inr ⟨_, _, _, rfl, rfl, h.2.2⟩
    · have e2 : ¬ y.1 = k := by rw [← h.1]; exact e
      simp only [List.find?_cons, decide_eq_false e, decide_eq_false e2]
      exact at_rel t
def putP (k : NestedKey) (v : V) (p : NestedKey × Addr × V) : NestedKey × Addr × V := if p.1 = k then (p.1, p.2.1, v) else p
def stX (xs : List (NestedKey × Addr × V)) (k : NestedKey) (b : Addr) (v : V) : List (NestedKey × Addr × V) := if (atX xs k).isSome then xs.map (putP k v) else xs ++ [(k, b, v)]
theorem st_rel {k : NestedKey} {b : Addr} {v : V} {u : Value} {xs : List (NestedKey × Addr × V)} {ys : List (NestedKey × Addr × Value)} (h : Paired PF xs ys) (r : RelV v u) : Paired PF (stX xs k b v) (storedH ys k b u) := by
  unfold stX storedH
  rcases at_rel (k := k) h with ⟨e1, e2⟩ | ⟨v', b', u', e1, e2, _⟩
  · rw [e1, e2]
    simp only [Option.isSome_none, Bool.false_eq_true, if_false]
    exact h.snoc ⟨rfl, rfl, r⟩
  · rw [e1, e2]
    simp only [Option.isSome_some, if_true]
    clear e1 e2
    induction h with
    | nil => exact .nil
    | @cons p q l m hp t ih =>
      refine .cons ?_ ih
      unfold putP putAt
      rw [← hp.1]
      split
      · exact ⟨rfl, hp.2.1, r⟩
      · exact hp
theorem stX_keys {k : NestedKey} {b : Addr} {v : V} {xs : List (NestedKey × Addr × V)} : (∀ p ∈ stX xs k b v, (∃ q ∈ xs, q.1 = p.1 ∧ q.2.1 = p.2.1) ∨ (p.1 = k ∧ p.2.1 = b)) ∧ (stX xs k b v).length ≤ xs.length + 1 ∧ ((xs.map (·.1)).Nodup → ((stX xs k b v).map (·.1)).Nodup) := by
  unfold stX
  split
  · refine ⟨fun p hp => ?_, by simp, fun h => ?_⟩
    · obtain ⟨q, hq, rfl⟩ := List.mem_map.mp hp
      refine .inl ⟨q, hq, ?_⟩
      unfold putP
      split <;> exact ⟨rfl, rfl⟩
    · have : (xs.map (putP k v)).map (·.1) = xs.map (·.1) := by
        rw [List.map_map]
        refine List.map_congr_left fun q hq => ?_
        show (putP k v q).1 = q.1
        unfold putP
        split <;> rfl
      rw [this]; exact h
  · rename_i hn
    refine ⟨fun p hp => ?_, by simp, fun h => ?_⟩
    · rcases List.mem_append.mp hp with hp | hp
      · exact .inl ⟨p, hp, rfl, rfl⟩
      · rw [List.mem_singleton.mp hp]; exact .inr ⟨rfl, rfl⟩
    · rw [List.map_append, List.nodup_append]
      refine ⟨h, by simp, fun a ha c hc => ?_⟩
      simp only [List.map_cons, List.map_nil, List.mem_singleton] at hc
      subst hc
      rintro rfl
      obtain ⟨q, hq, e⟩ := List.mem_map.mp ha
      have : (atX xs a).isSome = true := by
        unfold atX
        rw [Option.isSome_map]
        exact List.find?_isSome.mpr ⟨q, hq, decide_eq_true e⟩
      exact hn this
/-- D[b] = v, in a comprehension -/
theorem d_setK {E : Value → Shared → Prop} {a b : Addr} {xs : List (NestedKey × Addr × V)} {k : NestedKey} {v : V} {r : Value} {Q : Unit → Shared → Prop} (I : Inv X pins σ H s) (ok : Ok g X) (h : H a = some (dctO g a xs)) (kh : KeysH g H xs) (kb : KeyH g H k b) (hd : k.depth ≤ 8) (hz : xs.length < sizeLine) (rv : RelV v r)
    (q : ∀ s', Inv X pins σ (upd H a (dctO g a (stX xs k b v))) s' → Q () s') : wpAny (model X.prog X.w) X.A (dictSet a (.ref b) r) Q E s := by
  obtain ⟨h1, h2, h3, ys, h5, hm⟩ := dct_of I ok h kh
  have hl : ys.length ≤ sizeLine := by rw [← Paired.length h5]; exact h2
  have hu : X.A.units + 8 < cLine := by have := ok.un; omega
  refine wpAny_dictSet_heap (hsz := hl) hu (kb.is I ok hd) hm fun h' hm' hs => q _ ?_
  obtain ⟨o, es, ep, ho, hx, hdt, he, _, hnd⟩ := hm'
  obtain ⟨c1, c2, c3⟩ := @stX_keys k b v xs
  obtain ⟨_, _, _, h4, _⟩ := (I.hok a _ h).1
  refine d_write I (by rw [h]; exact True.intro) hs ⟨o, ho⟩ ⟨⟨h1, by omega, fun p hp => ?_, c3 h4, _, st_rel h5 rv, o, es, ep, ho, hx, hdt, by rw [← ok.prog, ← ok.w]; exact he⟩, ⟨o, ho⟩, ?_⟩
  · rcases c1 p hp with ⟨q, hq, e, _⟩ | ⟨e, _⟩
    · rw [← e]; exact h3 q hq
    · rw [e]; exact hd
  · rintro g1 g2 ⟨i1, i2, i3, i4, ys', i5, o', es', ep', j1, j2, j3, j4⟩ hk
    exact ⟨i1, i2, i3, i4, ys', i5, o', es', ep', hk _ j1, j2, j3, j4⟩
theorem dct_new (ok : Ok g X) (h : Heap) (hb : sysModules < h.objs.size) : ObjOk X.prog X.w H (h.push { cls := .type "dict", data := .dict #[] }) h.objs.size (dctO g h.objs.size []) := by
  have e : (h.push { cls := .type "dict", data := .dict #[] }).get? h.objs.size = some { cls := .type "dict", data := .dict #[] } := Heap.get?_push_size _ rfl
  have z : (h.objs.size == sysModules) = false := beq_eq_false_iff_ne.mpr (Nat.ne_of_gt hb)
  have z2 : ∀ p ∈ ([] : List (NestedKey × Addr × V)), p.1.depth ≤ 8 := fun p hp => nomatch hp
  refine ⟨⟨z, Nat.zero_le _, z2, List.nodup_nil, [], Paired.nil, _, _, _, e, ⟨rfl, rfl, rfl⟩, rfl, rfl⟩, ⟨_, e⟩, ?_⟩
  · rintro g1 g2 ⟨i1, i2, i3, i4, ys', i5, o', es', ep', j1, j2, j3, j4⟩ hk
    exact ⟨i1, i2, i3, i4, ys', i5, o', es', ep', hk _ j1, j2, j3, j4⟩
end

/-! ### dicts as data -/
def dAt : List D → List D → NestedKey → Option D
  | k' :: ks, d :: ds, k => if nkD k' = some k then some d else dAt ks ds k
  | _, _, _ => Option.none
def dSet : List D → List D → NestedKey → D → List D
  | k' :: ks, d :: ds, k, v => (if nkD k' = some k then v else d) :: dSet ks ds k v
  | _, _, _, _ => []
def keyT : D → Option NestedKey
  | .tup ds => match nkD (.tup ds) with
    | some k => if k.depth ≤ 8 then some k else Option.none
    | Option.none => Option.none
  | _ => Option.none
def dPut (ks ds : List D) (kd vd : D) : Option (List D × List D) := match keyT kd with
  | some k => if ks.length < sizeLine then some (if (dAt ks ds k).isSome then (ks, dSet ks ds k vd) else (ks ++ [kd], ds ++ [vd])) else Option.none
  | Option.none => Option.none
theorem keyT_ok {d : D} {k : NestedKey} (h : keyT d = some k) : (∃ ds, d = .tup ds) ∧ nkD d = some k ∧ k.depth ≤ 8 := by
  cases d <;> simp only [keyT, reduceCtorEq] at h
  split at h
  · rename_i ds k' e
    split at h
    · rename_i hd
      cases h
      exact ⟨⟨_, rfl⟩, e, hd⟩
    · cases h
  · cases h
section
variable {g : Gs} {w : Wd}
theorem dAt_rel {k : NestedKey} : ∀ {ks ds : List D} {xs : List (NestedKey × Addr × V)}, ks.map nkD = xs.map (fun p => some p.1) → Reps g w ds (xs.map fun p => p.2.2) → (dAt ks ds k = Option.none ∧ atX xs k = none) ∨ ∃ d v, dAt ks ds k = some d ∧ atX xs k = some v ∧ Rep g w d v
  | [], ds, xs, h, r => by
    cases xs with
    | nil => exact .inl ⟨by cases ds <;> rfl, rfl⟩
    | cons x xs => simp at h
  | k' :: ks, ds, [], h, r => by simp at h
  | k' :: ks, [], x :: xs, h, r => by simp [Reps] at r
  | k' :: ks, d :: ds, x :: xs, h, r => by
    simp only [List.map_cons, List.cons.injEq] at h
    simp only [List.map_cons, Reps] at r
    obtain ⟨v, us, e, r1, r2⟩ := r
    cases e
    unfold dAt atX
    rw [h.1]
    by_cases e : x.1 = k
    · simp only [e, if_true, List.find?_cons, decide_true, Option.map_some]
      exact .inr ⟨_, _, rfl, rfl, r1⟩
    · simp only [Option.some.injEq, e, if_false, List.find?_cons, decide_false]
      exact dAt_rel h.2 r2
theorem dSet_rel {k : NestedKey} {vd : D} {v : V} (rv : Rep g w vd v) : ∀ {ks ds : List D} {xs : List (NestedKey × Addr × V)}, ks.map nkD = xs.map (fun p => some p.1) → Reps g w ds (xs.map fun p => p.2.2) → Reps g w (dSet ks ds k vd) ((xs.map (putP k v)).map fun p => p.2.2)
  | [], ds, xs, h, r => by
    cases xs with
    | nil => cases ds <;> simp [dSet, Reps]
    | cons x xs => simp at h
  | k' :: ks, ds, [], h, r => by simp at h
  | k' :: ks, [], x :: xs, h, r => by simp [Reps] at r
  | k' :: ks, d :: ds, x :: xs, h, r => by
    simp only [List.map_cons, List.cons.injEq] at h
    simp only [List.map_cons, Reps] at r
    obtain ⟨u, us, e, r1, r2⟩ := r
    cases e
    unfold dSet
    rw [h.1]
    simp only [List.map_cons, Reps]
    refine ⟨_, _, rfl, ?_, dSet_rel rv h.2 r2⟩
    unfold putP
    by_cases e : x.1 = k
    · simp only [e, if_true]; exact rv
    · simp only [Option.some.injEq, e, if_false]; exact r1
/-- a dict's content -/
def DC (g : Gs) (w : Wd) (ks ds : List D) (xs : List (NestedKey × Addr × V)) : Prop := ks.map nkD = xs.map (fun p => some p.1) ∧ Reps g w ks (xs.map fun p => V.ref p.2.1) ∧ Reps g w ds (xs.map fun p => p.2.2)
theorem DC.nil : DC g w [] [] [] := by simp [DC, Reps]
theorem DC.mono {w' : Wd} (l : Le w w') {ks ds : List D} {xs : List (NestedKey × Addr × V)} (h : DC g w ks ds xs) : DC g w' ks ds xs := ⟨h.1, Reps.mono l _ _ h.2.1, Reps.mono l _ _ h.2.2⟩
theorem DC.keys {H : Hp} (hs : Same w.P H) : ∀ {ks ds : List D} {xs : List (NestedKey × Addr × V)}, DC g w ks ds xs → KeysH g H xs := by
  intro ks ds xs h
  obtain ⟨h1, h2, h3⟩ := h
  clear h3
  induction xs generalizing ks with
  | nil => exact fun p hp => nomatch hp
  | cons x xs ih =>
    cases ks with
    | nil => simp at h1
    | cons k ks =>
      simp only [List.map_cons, List.cons.injEq] at h1
      simp only [List.map_cons, Reps] at h2
      obtain ⟨v, us, e, r1, r2⟩ := h2
      cases e
      intro p hp
      rcases List.mem_cons.mp hp with rfl | hp
      · exact ⟨w, k, hs, r1, h1.1⟩
      · exact ih h1.2 r2 p hp
theorem DC.put {ks ds : List D} {xs : List (NestedKey × Addr × V)} {kd vd : D} {k : NestedKey} {b : Addr} {v : V} {ks' ds' : List D} (h : DC g w ks ds xs) (rk : Rep g w kd (.ref b)) (rv : Rep g w vd v) (hk : keyT kd = some k) (hp : dPut ks ds kd vd = some (ks', ds')) : DC g w ks' ds' (stX xs k b v) ∧ xs.length < sizeLine := by
  unfold dPut at hp
  rw [hk] at hp
  simp only at hp
  split at hp
  · rename_i hz
    obtain ⟨h1, h2, h3⟩ := h
    have hl : ks.length = xs.length := by have := congrArg List.length h1; simpa using this
    refine ⟨?_, by omega⟩
    unfold stX
    rcases dAt_rel (k := k) h1 h3 with ⟨e1, e2⟩ | ⟨d, v', e1, e2, _⟩
    · rw [e1] at hp
      simp only [Option.isSome_none, Bool.false_eq_true, if_false, Option.some.injEq, Prod.mk.injEq] at hp
      obtain ⟨rfl, rfl⟩ := hp
      rw [e2]
      simp only [Option.isSome_none, Bool.false_eq_true, if_false]
      refine ⟨by rw [List.map_append, List.map_append, h1]; simp [(keyT_ok hk).2.1], ?_, ?_⟩
      · rw [List.map_append]; exact Reps.app h2 (Reps.one rk)
      · rw [List.map_append]; exact Reps.app h3 (Reps.one rv)
    · rw [e1] at hp
      simp only [Option.isSome_some, if_true, Option.some.injEq, Prod.mk.injEq] at hp
      obtain ⟨rfl, rfl⟩ := hp
      rw [e2]
      simp only [Option.isSome_some, if_true]
      have c1 : (xs.map (putP k v)).map (fun p => p.1) = xs.map (fun p => p.1) := by
        rw [List.map_map]
        refine List.map_congr_left fun q hq => ?_
        show (putP k v q).1 = q.1
        unfold putP; split <;> rfl
      have c2 : (xs.map (putP k v)).map (fun p => V.ref p.2.1) = xs.map (fun p => V.ref p.2.1) := by
        rw [List.map_map]
        refine List.map_congr_left fun q hq => ?_
        show V.ref (putP k v q).2.1 = V.ref q.2.1
        unfold putP; split <;> rfl
      refine ⟨?_, by rw [c2]; exact h2, dSet_rel rv h1 h3⟩
      have := congrArg (List.map some) c1
      rw [h1]
      simpa [List.map_map, Function.comp_def] using this.symm
  · cases hp
end
/-! ### in, not in -/
section
variable {g : Gs} {E : XK} {H0 : Hp} {X : Cx}
def rInK (g : Gs) (f : Bool → Bool) : R2 := fun x y H Q => ∃ a b xs k, x = .ref b ∧ y = .ref a ∧ H a = some (dctO g a xs) ∧ KeysH g H xs ∧ KeyH g H k b ∧ k.depth ≤ 8 ∧ Q (.bl (f (atX xs k).isSome)) H
theorem at_some {k : NestedKey} {xs : List (NestedKey × Addr × V)} {ys : List (NestedKey × Addr × Value)} (h : Paired PF xs ys) : (atKey ys k).isSome = (atX xs k).isSome := by
  rcases at_rel (k := k) h with ⟨e1, e2⟩ | ⟨v', b', u', e1, e2, _⟩ <;> rw [e1, e2] <;> rfl
theorem op_inK (ok : Ok g X) : OpR X (compareOp .In) (rInK g fun b => b) := by
  intro pins s σ H x y v u Q I rx ry h
  obtain ⟨a, b, xs, k, rfl, rfl, hD, kh, kb, hd, q⟩ := h
  cases rx
  cases ry
  obtain ⟨h1, h2, h3, ys, h5, hm⟩ := dct_of I ok hD kh
  have hu : X.A.in1.units + 8 < cLine := by have := ok.un; show X.A.units + 1 + 8 < cLine; omega
  refine wpAny_in_heap hu (kb.is I ok hd) h1 hm ?_
  exact ⟨.bl _, H, I.tok _, rfl, by rw [at_some h5]; exact q⟩
theorem op_notInK (ok : Ok g X) : OpR X (compareOp .NotIn) (rInK g fun b => !b) := by
  intro pins s σ H x y v u Q I rx ry h
  obtain ⟨a, b, xs, k, rfl, rfl, hD, kh, kb, hd, q⟩ := h
  cases rx
  cases ry
  obtain ⟨h1, h2, h3, ys, h5, hm⟩ := dct_of I ok hD kh
  have hu : X.A.in1.units + 8 < cLine := by have := ok.un; show X.A.units + 1 + 8 < cLine; omega
  show wpAny _ _ (do return Value.bool (!(← contains (.ref a) (.ref b)))) _ _ _
  refine wpAny_bind (wpAny_contains_heap hu (kb.is I ok hd) h1 hm (wpAny_pure ?_))
  exact ⟨.bl _, H, I.tok _, rfl, by rw [at_some h5]; exact q⟩
def fInD (f : Bool → Bool) : D → D → Bs → Rs D
  | d, .dct ks ds, B => match keyT d with
    | some k => .ok (.bool (f (dAt ks ds k).isSome)) B
    | Option.none => .bad
  | d, e, B => fInG f d e B
theorem os_inK {f : Bool → Bool} {r : R2} (h : OpSem g E H0 r (fInG f)) : OpSem g E H0 (fun x y H Q => rInK g f x y H Q ∨ r x y H Q) (fInD f) := by
  intro w σI B σ H Q x y dx dy s rx ry p
  unfold fInD at p
  split at p
  · split at p
    · rename_i ks ds k hk
      obtain ⟨⟨ts, rfl⟩, hn, hd⟩ := keyT_ok hk
      obtain ⟨a, xs, rfl, hD, dc⟩ := ry.dct s
      have rk := rx.tupR s
      obtain ⟨b, vs, e, _⟩ := rx.tup s
      subst e
      refine .inl ⟨a, b, xs, k, rfl, rfl, hD, DC.keys s.rb.sub dc, ⟨w, _, s.rb.sub, rk, hn⟩, hd, ?_⟩
      rcases dAt_rel (k := k) dc.1 dc.2.2 with ⟨e1, e2⟩ | ⟨d', v', e1, e2, _⟩ <;> rw [e2] <;> rw [e1] at p <;> exact p.nowR s (rep_bool g w _)
    · exact p.elim
  · exact .inr (h w σI B σ H Q x y _ _ s rx ry p)
theorem fInD_bl (f : Bool → Bool) : ∀ d e B, fInD f d e B = .bad ∨ ∃ b B', fInD f d e B = .ok (.bool b) B' := fun d e B => by
  unfold fInD
  split
  · split
    · exact .inr ⟨_, _, rfl⟩
    · exact .inl rfl
  · exact fIn_bl f d e B
theorem c_inA (ok : Ok g X) : Cmp g E H0 X .In (fInD fun b => b) := by
  have h : Cmp g E H0 X .In fIn := c_in ok
  obtain ⟨r, h1, h2⟩ := h.ex
  exact ⟨⟨_, (op_inK ok).or h1, os_inK h2⟩, fInD_bl _⟩
theorem c_notinA (ok : Ok g X) : Cmp g E H0 X .NotIn (fInD fun b => !b) := by
  have h : Cmp g E H0 X .NotIn fNotIn := c_notin ok
  obtain ⟨r, h1, h2⟩ := h.ex
  exact ⟨⟨_, (op_notInK ok).or h1, os_inK h2⟩, fInD_bl _⟩
end
/-! ### d.get(k, x) -/
section
variable {g : Gs} {E : XK} {H0 : Hp} {X : Cx} {o e e2 : Expr} {to te tf : TE} {mo me mf : Ev} {apos cpos : Pos} {b1 b2 b3 : Bool}
end
end Hf

set_option Elab.async false
set_option linter.all false
set_option maxRecDepth 100000
set_option maxHeartbeats 4000000
namespace Hf
open PySem PySem.Spec PyProof.Rows L2

/-! ### {k: v for ..}, the keys tuples: turned from the library's rule for keys that are whole numbers or texts -/
section
variable {X : Cx}
def tDcK (g0 : Gs) (wi : TI) (gt : TG) (tt : TT) (tk tv : TE) (vs : List Nat) : TE := fun σ H Q => wi σ H fun J G1 => ∀ D, G1 D = none → ∃ W : Nat → Nat → Hp → Prop, (∃ m, W 0 m (upd G1 D (dctO g0 D []))) ∧ ∀ i m H, W i m H →
  (J.stop i H ∧ Q (.ref D) H) ∨ (J.go i H ∧ ∃ Nx : Hp → Prop, (∀ H', Nx H' → ∃ m', m' < m ∧ W (i + 1) m' H') ∧ ∀ x H', J.yld i H x H' → gt x (wipe σ vs) H' fun τ2 G2 => wipe τ2 vs = wipe σ vs ∧ tt τ2 G2 fun b G3 =>
    if b = true then tk τ2 G3 fun y G4 => tv τ2 G4 fun z G5 => ∃ xs k b, y = .ref b ∧ G5 D = some (dctO g0 D xs) ∧ KeysH g0 G5 xs ∧ KeyH g0 G5 k b ∧ k.depth ≤ 8 ∧ xs.length < sizeLine ∧ Nx (upd G5 D (dctO g0 D (stX xs k b z))) else Nx G3)
theorem dk_core {pins : List (Addr × Obj)} {s : Shared} {σ : L2.St} {H : Hp} {Q : VK} {ke ve tg iter : Expr} {ifs : List Expr} {scope : Scope} {mine : List (Str × Nat)} {pos pos2 : Pos} {g0 : Gs} {wi : TI} {gt : TG} {tt : TT} {tk tv : TE} {use : Option (Value → Sem Unit)} {Qf : Value → Shared → Prop}
    (ok0 : Ok g0 X) (hc : X.calm = true) (hN : X.N.Nodup) (I : Inv X pins σ H s) (hi : PI X tg iter wi) (ok : BlkOk X.N X.env.scope scope mine)
    (hg : ∀ (s : Shared) (H : Hp) (C : Addr) (cl : List (Str × Addr)) (fp : List Addr), PG (X.blk s H scope (compEnvC scope cl C X.env) fp) tg gt) (ht : ∀ (s : Shared) (H : Hp) (C : Addr) (cl : List (Str × Addr)) (fp : List Addr), PTs (X.blk s H scope (compEnvC scope cl C X.env) fp) ifs tt)
    (hk : ∀ (s : Shared) (H : Hp) (C : Addr) (cl : List (Str × Addr)) (fp : List Addr), PE (X.blk s H scope (compEnvC scope cl C X.env) fp) ke tk)
    (he : ∀ (s : Shared) (H : Hp) (C : Addr) (cl : List (Str × Addr)) (fp : List Addr), PE (X.blk s H scope (compEnvC scope cl C X.env) fp) ve tv) (hs : ∀ x, foldedSetIterable iter X.env x = pure x)
    (h : tDcK g0 wi gt tt tk tv (mine.map (·.2)) σ H Q)
    (hRR : ∀ D C s' m H', Inv X pins σ H' s' → Q (.ref D) H' → s'.heap.Ns C m → FpOk X pins H' C → compPost (model X.prog X.w) X.A X.xe use Qf (.ref D) C (.ok .next) s') :
    wpAny (model X.prog X.w) X.A (comprehension (.DictComp ke ve [⟨tg, iter, ifs, 0⟩] scope pos) scope X.env pos2 newDict false (eval iter X.env) use) Qf X.xe s := by
  have hfree : ∀ y ∈ scope.names, y.2 = .free → ∃ c, X.env.cells.lookup y.1 = some c := fun y hy e => by
    rcases ok.free y hy e with k | k
    · exact I.ok.has _ (.inl k)
    · exact I.ok.has _ (.inr k)
  refine wpAny_comprehension_free (use := use) rfl hs (closure_ok hfree) ok.kind (fun y hy e => by rw [ok.uniq y hy, e])
    (thn (hi.run pins s σ H _ I h) fun xv u1 hx => thn hx fun itv u2 hh2 => ?_)
  obtain ⟨it, fp, tn, J, G2, e, J2, T, stt2, ff2, q⟩ := hh2
  subst e
  refine wpAny_newObj_type (newEnv_comp ?_)
  generalize hD : u2.heap.objs.size = D
  have hEn : G2 D = none := J2.hok.fresh (Nat.le_of_eq hD)
  obtain ⟨W, ⟨mm0, ww0⟩, step1⟩ := q D hEn
  -- the new list
  generalize hv3 : ({ u2 with heap := u2.heap.push { cls := .type "dict", data := .dict #[] } } : Shared) = u3
  have J3 : Inv X pins σ (upd G2 D (dctO g0 D [])) u3 := by
    rw [← hv3]
    refine J2.laid (t' := u2.toks) (fun b o e => Heap.get?_push_of_some _ e) (Nat.le_of_eq hD) ?_
    rw [← hD]
    exact dct_new ok0 u2.heap J2.big
  have hh3 : u3.heap = u2.heap.push { cls := .type "dict", data := .dict #[] } := by rw [← hv3]
  have sz : ∀ b ∈ fp, b < u2.heap.objs.size := fun b hb => by
    obtain ⟨o, e, _⟩ := T.obj _ _ stt2 b hb
    exact Heap.lt_size e
  have ff3 : ∀ b ∈ fp, FpOk X pins (upd G2 D (dctO g0 D [])) b ∧ b < u3.heap.objs.size := fun b hb => by
    have hlt := sz b hb
    refine ⟨⟨?_, (ff2 b hb).2⟩, by rw [hh3, Heap.size_push]; exact Nat.lt_succ_of_lt hlt⟩
    rw [upd_ne (by rw [← hD]; exact Nat.ne_of_lt hlt)]
    exact (ff2 b hb).1
  have stt3 : tn 0 u3.heap := T.keep _ _ _ stt2 fun b _ o e => by rw [hh3]; exact Heap.get?_push_of_some _ e
  have J4 := block_start J3 ok hN ff3
  have pg := hg u3 (upd G2 D (dctO g0 D [])) u3.heap.objs.size (cellsFrom (u3.heap.objs.size + 1) scope.names (cloFrom X.env.cells scope.names [])) fp
  have pt := ht u3 (upd G2 D (dctO g0 D [])) u3.heap.objs.size (cellsFrom (u3.heap.objs.size + 1) scope.names (cloFrom X.env.cells scope.names [])) fp
  have pk := hk u3 (upd G2 D (dctO g0 D [])) u3.heap.objs.size (cellsFrom (u3.heap.objs.size + 1) scope.names (cloFrom X.env.cells scope.names [])) fp
  have pe := he u3 (upd G2 D (dctO g0 D [])) u3.heap.objs.size (cellsFrom (u3.heap.objs.size + 1) scope.names (cloFrom X.env.cells scope.names [])) fp
  show codeAny _ _ (.compStart (.DictComp ke ve [⟨tg, iter, ifs, 0⟩] scope pos) 0 (.ref it) (.ref D) (compEnvC scope (cellsFrom (u3.heap.objs.size + 1) scope.names (cloFrom X.env.cells scope.names [])) u3.heap.objs.size X.env)) (compPost (model X.prog X.w) X.A X.xe use Qf (.ref D) u3.heap.objs.size) { u3 with heap := pushCells (u3.heap.push { cls := .type "dict", data := .dict #[] }) scope.names }
  have nofp : ∀ b ∈ fp, (upd G2 D (dctO g0 D [])) b = none := fun b hb => (ff3 b hb).1.1
  generalize hce : compEnvC scope (cellsFrom (u3.heap.objs.size + 1) scope.names (cloFrom X.env.cells scope.names [])) u3.heap.objs.size X.env = ce at J4 pg pt pk pe ⊢
  have cL : ce.locals = u3.heap.objs.size := by subst hce; rfl
  generalize hG3 : upd G2 D (dctO g0 D []) = G3 at J3 J4 pg pt pk pe ww0 nofp ff3
  generalize hv4 : ({ u3 with heap := pushCells (u3.heap.push { cls := .type "dict", data := .dict #[] }) scope.names } : Shared) = u4 at J4 ⊢
  have stt4 : tn 0 u4.heap := T.keep _ _ _ stt3 fun b _ o e => by rw [← hv4]; exact pushCells_keeps _ _ _ _ (Heap.get?_push_of_some _ e)
  have fpst : ∀ {σ' : L2.St} {H' : Hp} {s' : Shared}, Inv (X.blk u3 G3 scope ce fp) [] σ' H' s' → (∀ b ∈ fp, H' b = none) → ∀ b ∈ fp, FpOk (X.blk u3 G3 scope ce fp) [] H' b := fun {σ' H' s'} I' hn b hb =>
    ⟨hn b hb, (I'.ok.exf b hb).1, I'.ok.exfs b hb, .inl hb, fun x c e => (I'.ok.exf b hb).2 x c e, fun p hp => absurd (show p ∈ ([] : List (Addr × Obj)) ++ [] from hp) (by simp)⟩
  have loop : codeAny (model X.prog X.w) X.A (.compLoop (.DictComp ke ve [⟨tg, iter, ifs, 0⟩] scope pos) 0 (.ref it) (.ref D) ce) (compPost (model X.prog X.w) X.A X.xe use Qf (.ref D) u3.heap.objs.size) u4 := by
    refine compLoop_anyD (fun n s' => ∃ i H', Inv (X.blk u3 G3 scope ce fp) [] (wipe σ (mine.map (·.2))) H' s' ∧ tn i s'.heap ∧ (∀ b ∈ fp, H' b = none) ∧ W i n H') ?_ mm0 ⟨0, G3, J4, stt4, nofp, ww0⟩
    rintro n u5 ⟨i, G5, J5, stt5, nn5, ww5⟩
    rcases step1 i n G5 ww5 with ⟨stop, qq⟩ | ⟨go, Nx, hNn, step2⟩
    · have td := T.done (X.blk u3 G3 scope ce fp) rfl rfl rfl hc i [] u5 _ G5 (fun _ _ => False) J5 (fpst J5 nn5) stt5 stop
      refine thnF td fun r u6 ⟨hr, J6⟩ => ?_
      subst hr
      -- back in the def's context
      have J7 : Inv X pins σ G5 u6 := J3.call' (ch := fp) J6.os J6.base J6.hok J6.bare fun b hb => ⟨(ff3 b hb).1.2.2.2.1, (ff3 b hb).1.2.1, (ff3 b hb).1.2.2.2.2.1, (ff3 b hb).1.2.2.2.2.2⟩
      have nC : G5 u3.heap.objs.size = none := by
        have z : G5 ce.locals = none := J6.free
        rw [cL] at z
        exact z
      obtain ⟨m, hn, _⟩ := J6.loc
      have hn : u6.heap.Ns ce.locals m := hn
      rw [cL] at hn
      exact hRR D u3.heap.objs.size u6 m G5 J7 qq hn (J3.fpOk (Nat.le_refl _) nC)
    · have ti := T.item (X.blk u3 G3 scope ce fp) rfl rfl rfl hc i [] u5 _ G5 (fun _ _ => False) J5 (fpst J5 nn5) stt5 go
      refine thnF ti fun r u6 ⟨u, hr, hh6⟩ => ?_
      subst hr
      refine thnF hh6 fun _ u7 ⟨x, G7, J7, rr7, yy7, stt7, nn7⟩ => ?_
      have I7' := J7.pinned (fpst J7 nn7) (T.obj _ _ stt7)
      refine thnF (pg.run _ u7 _ G7 x u _ I7' rr7 (step2 x G7 yy7)) fun _ u8 ⟨τ8, G8, J8, hx8, p8⟩ => ?_
      refine thnF (pt.run _ u8 τ8 G8 _ J8 p8) fun b u9 ⟨G9, J9, p9⟩ => ?_
      -- the turn's end
      have fin : ∀ {s' : Shared} {H' : Hp}, Inv (X.blk u3 G3 scope ce fp) ([] ++ pinsAt fp u7.heap) τ8 H' s' → Nx H' → ∃ m, m < n ∧ ∃ i H', Inv (X.blk u3 G3 scope ce fp) [] (wipe σ (mine.map (·.2))) H' s' ∧ tn i s'.heap ∧ (∀ b ∈ fp, H' b = none) ∧ W i m H' := fun {s' H'} I' nx => by
        obtain ⟨m', hm, w'⟩ := hNn H' nx
        have pin' : ∀ b ∈ fp, ∀ o, u7.heap.get? b = some o → s'.heap.get? b = some o ∧ H' b = none := fun b hb o e =>
          let z := I'.pin (b, o) (List.mem_append_right _ (List.mem_append_right _ (mem_pinsAt hb e)))
          ⟨z.1, z.2.1⟩
        have hl : (wipe σ (mine.map (·.2))).length = τ8.length := by rw [← hx8, wipe_length]
        refine ⟨m', hm, i + 1, H', (I'.unpinned (pins := [])).weak hl (fun j v e => ?_), T.keep _ _ _ stt7 fun b hb o e => (pin' b hb o e).1, fun b hb => ?_, w'⟩
        · rw [← hx8] at e
          exact (wipe_some e).1
        · obtain ⟨o, e, _⟩ := T.obj _ _ stt7 b hb
          exact (pin' b hb o e).2
      cases b with
      | false =>
        simp only [Bool.false_eq_true, if_false] at p9 ⊢
        exact fin J9 p9
      | true =>
        simp only [if_true] at p9 ⊢
        refine thnF (pk.run _ u9 τ8 G9 _ J9 p9) fun z u10 ⟨yk, G10, J10, rr10, p10⟩ => ?_
        refine thnF (pe.run _ u10 τ8 G10 _ J10 p10) fun z2 u11 ⟨yv, G11, J11, rr11, xs, k, b, ek, hE11, kh, kb, hdp, hy11, nx⟩ => ?_
        subst ek
        cases rr10
        exact d_setK (X := X.blk u3 G3 scope ce fp) J11 (ok0.blk u3 G3 scope ce fp) hE11 kh kb hdp hy11 rr11 fun u12 J12 => fin J12 nx
  exact codeAny_compStart_dict loop (T.self X.A 0 _ _ _ stt4 loop)
/-- as a value -/
theorem pe_dcK {ke ve tg iter : Expr} {ifs : List Expr} {scope : Scope} {mine : List (Str × Nat)} {pos : Pos} {g0 : Gs} {wi : TI} {gt : TG} {tt : TT} {tk tv : TE} (ok0 : Ok g0 X) (hc : X.calm = true) (hN : X.N.Nodup) (hi : PI X tg iter wi) (ok : BlkOk X.N X.env.scope scope mine)
    (hg : ∀ (s : Shared) (H : Hp) (C : Addr) (cl : List (Str × Addr)) (fp : List Addr), PG (X.blk s H scope (compEnvC scope cl C X.env) fp) tg gt) (ht : ∀ (s : Shared) (H : Hp) (C : Addr) (cl : List (Str × Addr)) (fp : List Addr), PTs (X.blk s H scope (compEnvC scope cl C X.env) fp) ifs tt)
    (hk : ∀ (s : Shared) (H : Hp) (C : Addr) (cl : List (Str × Addr)) (fp : List Addr), PE (X.blk s H scope (compEnvC scope cl C X.env) fp) ke tk)
    (he : ∀ (s : Shared) (H : Hp) (C : Addr) (cl : List (Str × Addr)) (fp : List Addr), PE (X.blk s H scope (compEnvC scope cl C X.env) fp) ve tv) (hs : ∀ x, foldedSetIterable iter X.env x = pure x := by intro _; rfl) :
    PE X (.DictComp ke ve [⟨tg, iter, ifs, 0⟩] scope pos) (tDcK g0 wi gt tt tk tv (mine.map (·.2))) := by
  refine ⟨fun pins s σ H Q I h => ?_⟩
  rw [arm_eval_DictComp]
  refine dk_core ok0 hc hN I hi ok hg ht hk he hs h fun D C s' m H' I' q hn f => ⟨m, hn, fun h'' sb => ?_⟩
  obtain ⟨ff0, ff1, ff2, ff3, ff4, ff5⟩ := f
  exact ⟨.ref D, H', I'.turned (t' := s'.toks) (fun b o hb e => (sb.2 b hb).trans e) ff0 ff1 ff3 ff4 ff5, rfl, q⟩
end

def dcL (t : Tg) (mt : Et) (mk mv : Ev) (σ : Sl) : List D → List D × List D → Bs → Rs (List D × List D)
  | [], acc, B => .ok acc B
  | d :: ds, acc, B => match t d σ with
    | some σ' => (mt σ' B).bind fun k B1 => if k then (mk σ' B1).bind fun kd B2 => (mv σ' B2).bind fun vd B3 => (match dPut acc.1 acc.2 kd vd with
        | some acc' => dcL t mt mk mv σ ds acc' B3
        | Option.none => .bad) else dcL t mt mk mv σ ds acc B1
    | Option.none => .bad
def mDc (vs : List Nat) (t : Tg) (mi : Ei) (mt : Et) (mk mv : Ev) : Ev := fun σ B => (mi σ B).bind fun ds B1 => (noX (dcL t mt mk mv (wipeI σ vs) ds ([], []) B1)).bind fun r B2 => .ok (.dct r.1 r.2) B2
theorem dcL_cons {t : Tg} {mt : Et} {mk mv : Ev} {σ : Sl} {d : D} {ds : List D} {acc r : List D × List D} {B B' : Bs} (h : dcL t mt mk mv σ (d :: ds) acc B = .ok r B') :
    ∃ σ' k B1, t d σ = some σ' ∧ mt σ' B = .ok k B1 ∧ ((k = true ∧ ∃ kd B2 vd B3 acc', mk σ' B1 = .ok kd B2 ∧ mv σ' B2 = .ok vd B3 ∧ dPut acc.1 acc.2 kd vd = some acc' ∧ dcL t mt mk mv σ ds acc' B3 = .ok r B') ∨ (k = false ∧ dcL t mt mk mv σ ds acc B1 = .ok r B')) := by
  simp only [dcL] at h
  cases e1 : t d σ with
  | none => rw [e1] at h; cases h
  | some σ' =>
    rw [e1] at h
    simp only at h
    cases e2 : mt σ' B with
    | bad => rw [e2] at h; cases h
    | exc _ _ _ => rw [e2] at h; cases h
    | ok k B1 =>
      rw [e2] at h
      simp only [Rs.bind] at h
      refine ⟨σ', k, B1, rfl, e2, ?_⟩
      cases k with
      | false => exact .inr ⟨rfl, h⟩
      | true =>
        simp only [if_true] at h
        cases e3 : mk σ' B1 with
        | bad => rw [e3] at h; cases h
        | exc _ _ _ => rw [e3] at h; cases h
        | ok kd B2 =>
          rw [e3] at h
          simp only at h
          cases e4 : mv σ' B2 with
          | bad => rw [e4] at h; cases h
          | exc _ _ _ => rw [e4] at h; cases h
          | ok vd B3 =>
            rw [e4] at h
            simp only at h
            cases e5 : dPut acc.1 acc.2 kd vd with
            | none => rw [e5] at h; cases h
            | some acc' =>
              rw [e5] at h
              exact .inl ⟨rfl, kd, B2, vd, B3, acc', rfl, e4, e5, h⟩
section
variable {g : Gs} {E : XK} {w0 w : Wd} {H H0 : Hp} {σI : Sl} {σ : L2.St} {B : Bs} {X : Cx}
def DcInv (g : Gs) (H0 : Hp) (w : Wd) (H : Hp) (w1 : Wd) (σI : Sl) (σ : L2.St) (vs : List Nat) (t : Tg) (mt : Et) (mk mv : Ev) (ds : List D) (r : List D × List D) (B' : Bs) (Da : Addr) (i : Nat) (H' : Hp) : Prop :=
  ∃ w' B2 acc xs, Ext w H w' H' ∧ Le w1 w' ∧ S0 g H0 w' σI B2 σ H' ∧ H' Da = some (dctO g Da xs) ∧ DC g w' acc.1 acc.2 xs ∧ w'.P Da = Option.none ∧ (∀ n, w'.io n ≠ some Da) ∧ (∀ (j : Nat) (e : D), σI[j]? = some (some (true, e)) → σ[j]? ≠ some (some (V.ref Da))) ∧
    dcL t mt mk mv (wipeI σI vs) (ds.drop i) acc B2 = .ok r B'
theorem dc_at {t : Tg} {mi : Ei} {mt : Et} {mk mv : Ev} {sl vs : List Nat} {wi : TI} (hwi : wi = tIi g E H0 mi) (hsl : ∀ j ∈ sl, j ∈ vs) {Q : VK} (s : S0 g H0 w σI B σ H) (p : PostE g E w H σI σ false Q (mDc vs t mi mt mk mv σI B)) :
    tDcK g wi (tG g H0 t sl) (tIt g E0 H0 mt) (tI g E0 H0 false mk) (tI g E0 H0 false mv) vs σ H Q := by
  subst hwi
  refine ⟨w, σI, B, s, ?_⟩
  unfold mDc at p
  cases q : mi σI B with
  | bad => rw [q] at p; exact p
  | exc c y B1 => rw [q] at p; exact p
  | ok ds B1 =>
    rw [q] at p
    simp only [Rs.bind] at p
    intro w1 J H1 x1 rb1 it D hD
    have s1 := s.step x1 rb1
    cases q2 : dcL t mt mk mv (wipeI σI vs) ds ([], []) B1 with
    | bad => rw [q2] at p; exact p.elim
    | exc c y B1 => rw [q2] at p; exact p.elim
    | ok r B' =>
      rw [q2] at p
      simp only [noX] at p
      have nD : H D = Option.none := Classical.byContradiction fun z => x1.there D z hD
      have start : DcInv g H0 w H w1 σI σ vs t mt mk mv ds r B' D 0 (upd H1 D (dctO g D [])) :=
        ⟨w1, B1, ([], []), [], x1.mut nD, Le.refl _, s1.other (s1.rb.fresh_P hD) (s1.rb.fresh_io hD) (fun j e hj => s1.own_ne hj hD) (fun u q => by rw [hD] at q; cases q), upd_same, DC.nil, s1.rb.fresh_P hD, s1.rb.fresh_io hD, fun j e hj => s1.own_ne hj hD, by simpa using q2⟩
      refine ⟨fun i m H' => m = ds.length - i ∧ i ≤ ds.length ∧ DcInv g H0 w H w1 σI σ vs t mt mk mv ds r B' D i H', ⟨ds.length, by simp, Nat.zero_le _, start⟩, ?_⟩
      rintro i m H' ⟨rfl, hi, w', B2, acc, xs, x', l', s', eD, dc, np, nb, nw, q3⟩
      by_cases hlt : i < ds.length
      · refine .inr ⟨it.go i H' hlt (l'.P.trans s'.rb.sub), DcInv g H0 w H w1 σI σ vs t mt mk mv ds r B' D (i + 1), fun H2 q => ⟨ds.length - (i + 1), by omega, rfl, hlt, q⟩, fun y H2 yl => ?_⟩
        obtain ⟨w2, x2, rb2, r2⟩ := it.yld i H' y H2 ds[i] w' B2 (List.getElem?_eq_getElem hlt) l' s'.rb yl
        have s2 := s'.step x2 rb2
        rw [List.drop_eq_getElem_cons hlt] at q3
        obtain ⟨σ', k, B3, et, em, q4⟩ := dcL_cons q3
        refine ⟨w2, ds[i], wipeI σI vs, B2, σ', s2.wipe vs, r2, et, fun σ2 s3 hl hk => ⟨(wipe_eq hl fun j hj => hk j fun z => hj (hsl j z)).trans (wipe_wipe _ _), ?_⟩⟩
        have keep : ∀ {wa wb : Wd} {Ha Hb : Hp}, Ext wa Ha wb Hb → Same wb.P Hb → Ha D = some (dctO g D xs) → wa.P D = Option.none → (∀ n, wa.io n ≠ some D) → Hb D = some (dctO g D xs) ∧ wb.P D = Option.none ∧ ∀ n, wb.io n ≠ some D := by
          intro wa wb Ha Hb x sb e n1 n2
          refine ⟨x.keep D _ e n2 (nt_dct _ _ _).t, ?_, fun n z => ?_⟩
          · cases q : wb.P D with
            | none => rfl
            | some u =>
              rcases x.pf D u q with z | z | z
              · rw [n1] at z; cases z
              · rw [e] at z; cases z
              · have y := sb D u q
                rw [x.keep D _ e n2 (nt_dct _ _ _).t] at y; cases y
                exact ((nt_dct _ _ _).px z).elim
          · rcases x.iof n D z with z | z
            · exact n2 n z
            · rw [e] at z; cases z
        obtain ⟨eD2, np2, nb2⟩ := keep x2 rb2.sub eD np nb
        refine tIt_go s3 (fun c x B1 q => by rw [em] at q; cases q) (by rw [em]; simp) fun k' B4 q5 w3 H3 x3 s4 => ?_
        rw [em] at q5; cases q5
        obtain ⟨eD3, np3, nb3⟩ := keep x3 s4.rb.sub eD2 np2 nb2
        have sO := (s2.step x3 s4.rb)
        rcases q4 with ⟨rfl, kd, B5, vd, B6, acc', e1, e2, e3, e4⟩ | ⟨rfl, e2⟩
        · rw [if_pos rfl]
          refine tI_go s4 (fun c x B1 q => by rw [e1] at q; cases q) (by rw [e1]; simp) fun d B7 q6 w4 v H4 x4 s5 r4 => ?_
          rw [e1] at q6; cases q6
          obtain ⟨eD4, np4, nb4⟩ := keep x4 s5.rb.sub eD3 np3 nb3
          refine tI_go s5 (fun c x B1 q => by rw [e2] at q; cases q) (by rw [e2]; simp) fun d' B8 q7 w5 v' H5 x5 s6 r5 => ?_
          rw [e2] at q7; cases q7
          obtain ⟨eD5, np5, nb5⟩ := keep x5 s6.rb.sub eD4 np4 nb4
          have hk : ∃ k, keyT kd = some k := by
            unfold dPut at e3
            cases hk : keyT kd with
            | none => rw [hk] at e3; cases e3
            | some k => exact ⟨k, rfl⟩
          obtain ⟨k, hk⟩ := hk
          obtain ⟨⟨ts, rfl⟩, hn, hd⟩ := keyT_ok hk
          have r4' : Rep g w5 (.tup ts) v := Rep.mono x5.le _ _ r4
          have rr := r4'
          simp only [Rep] at rr
          obtain ⟨b, _, rfl, _⟩ := rr
          have r5' : Rep g w5 vd v' := r5
          have l5 : Le w' w5 := ((x2.le.trans x3.le).trans x4.le).trans x5.le
          have dc5 := dc.mono l5
          obtain ⟨dc6, hz⟩ := dc5.put r4' r5' hk e3
          exact ⟨xs, k, b, rfl, eD5, dc5.keys s6.rb.sub, ⟨w5, _, s6.rb.sub, r4', hn⟩, hd, hz, w5, B6, acc', _, ((((x'.trans x2).trans x3).trans x4).trans x5).mut nD, l'.trans l5, ((sO.step x4 s5.rb).step x5 s6.rb).other np5 nb5 nw (fun u q => by rw [eD5] at q; cases q; exact nt_dct _ _ _), upd_same, dc6, np5, nb5, nw, e4⟩
        · rw [if_neg (by simp)]
          exact ⟨w3, B3, acc, xs, (x'.trans x2).trans x3, (l'.trans x2.le).trans x3.le, sO, eD3, dc.mono (x2.le.trans x3.le), np3, nb3, nw, e2⟩
      · rw [List.drop_eq_nil_of_le (by omega)] at q3
        simp only [dcL] at q3
        cases q3
        obtain ⟨xx, rb'⟩ := reg_ext x' s'.rb eD nD np nb (nt_dct _ _ _)
        refine .inl ⟨it.stop i H' (by omega) (l'.P.trans s'.rb.sub), p (regW w' D (dctO g D xs)) _ H' xx rb' ?_⟩
        have dc' := dc.mono (regLe w' (o := dctO g D xs) np)
        simp only [RepB, Rep]
        exact ⟨D, xs, rfl, upd_same, dc'⟩
variable {kx vx tg iter : Expr} {ifs : List Expr} {scope : Scope} {own : List (Str × Nat)} {pos : Pos} {t : Tg} {mi : Ei} {mt : Et} {mk mv : Ev} {sl : List Nat}
theorem s_dc (c : Ok g X) (hN : X.N.Nodup) (hi : SndI g E H0 X tg iter mi) (ok : BlkOk X.N X.env.scope scope own) (hsl : ∀ j ∈ sl, j ∈ own.map (·.2))
    (hg : ∀ (s : Shared) (H : Hp) (C : Addr) (cl : List (Str × Addr)) (fp : List Addr), SndG g H0 (X.blk s H scope (compEnvC scope cl C X.env) fp) tg t sl) (ht : ∀ (s : Shared) (H : Hp) (C : Addr) (cl : List (Str × Addr)) (fp : List Addr), SndTs g E0 H0 (X.blk s H scope (compEnvC scope cl C X.env) fp) ifs mt)
    (hk : ∀ (s : Shared) (H : Hp) (C : Addr) (cl : List (Str × Addr)) (fp : List Addr), Snd g E0 H0 (X.blk s H scope (compEnvC scope cl C X.env) fp) false kx mk)
    (he : ∀ (s : Shared) (H : Hp) (C : Addr) (cl : List (Str × Addr)) (fp : List Addr), Snd g E0 H0 (X.blk s H scope (compEnvC scope cl C X.env) fp) false vx mv) (hs : ∀ x, foldedSetIterable iter X.env x = pure x := by intro _; rfl) :
    Snd g E H0 X false (.DictComp kx vx [⟨tg, iter, ifs, 0⟩] scope pos) (mDc (own.map (·.2)) t mi mt mk mv) :=
  weak (pe_dcK c c.calm hN hi ok hg ht hk he hs) fun σ H Q ⟨w, σI, B, s, p⟩ => dc_at rfl hsl s p
end
end Hf

set_option Elab.async false
set_option linter.all false
set_option maxRecDepth 100000
set_option maxHeartbeats 4000000
namespace Hf
open PySem PySem.Spec PyProof.Rows L2

/-! ### special methods of one's own classes -/
section
variable {X : Cx} {CX : CXT} {k : Nat} {fa : Addr} {sp : Sp} {E : XK} {pins : List (Addr × Obj)} {σ : L2.St} {H : Hp} {s : Shared} {Q : VK} {us : List Value} {vs : List V} {A' : Around}
theorem run_nox {E' : Value → Shared → Prop} (F : FnR X.prog X.w X.K X.mg X.base (L2N.CX X.prog X.w) k fa sp) (hr : Room k A') (e0 : Env0 X.prog X.w X.K X.mg X.base A' X.stack s H) (I : Inv X pins σ H s) (r : Vals vs us) (h : sp vs H Q E0) :
    wpAny (model X.prog X.w) A' (call (.ref fa) us) (EP X pins σ Q) E' s := by
  refine wpAny_call (codeAny_mono (F A' X.stack s H us vs Q E0 hr e0 r h) fun r s' hq => ?_)
  cases r with
  | error e =>
    obtain ⟨_, _, _, _, _, _, _, _, _, _, _, _, z⟩ := hq
    exact z.elim
  | ok fl =>
    cases fl with
    | ret u => exact I.after hq
    | next | brk | cont => exact False.elim hq
end
/-- c has the special method n, a def that means f -/
def Dun (g : Gs) (k c : Nat) (n : Str) (f : Fn) : Prop := ∃ fa, FnR g.prog g.w g.K g.mg g.base (L2N.CX g.prog g.w) k fa (spF g f) ∧ PySem.W.findIn g.K (.ref (g.cl c)) n = some (some (.ref fa)) ∧ PySem.W.isFn g.K (.ref fa) = true ∧ g.has c = true
section
variable {g : Gs} {E : XK} {w0 w : Wd} {H0 H : Hp} {X : Cx} {o e a b : Expr} {es : List Expr} {m ma mb : Ev} {ms : Evs} {pos p p1 p2 apos : Pos} {x n : Str} {f : Fn} {lv k c : Nat} {dfl : List D} {σI : Sl} {σ : L2.St} {B : Bs} {Q : VK} {b1 b2 bo : Bool} {i : Nat}
/-- an instance, where it stands -/
theorem inst_at {pins : List (Addr × Obj)} {σ : L2.St} {H : Hp} {s : Shared} {a C dx : Addr} {fs : List (Str × V)} (I : Inv X pins σ H s) (h : H a = some (.ins C dx fs)) : ∃ od, PySem.W.InstAt s.heap a (PySem.W.instObj C dx) C (some od) := by
  obtain ⟨mA, O, _⟩ := ins_get I.hok h
  obtain ⟨od, J, _⟩ := O.look
  exact ⟨od, J⟩
def lenOk (r : Rs D) : Rs D := match r with
  | .ok (.int i) B => if 0 ≤ i ∧ i < 2 ^ 63 then .ok (.int i) B else .bad
  | _ => .bad
/-- len(x), also of an own instance -/
def fLenA (c : Nat) (f : Fn) : D → Bs → Rs D
  | .inst c' ds, B => if c' = c then lenOk (f [.inst c' ds] B) else .bad
  | d, B => fLen d B
def rLenC (g : Gs) (c : Nat) (f : Fn) : List V → Hp → VK → Prop := fun xs H Q => ∃ a dx fs, xs = [.ref a] ∧ H a = some (.ins (g.cl c) dx fs) ∧ spF g f [.ref a] H (fun v H' => ∃ i, v = .int i ∧ 0 ≤ i ∧ i < 2 ^ 63 ∧ Q (.int i) H') E0
theorem call_lenC (ok : OkC g E lv X) (N : Dun g k c "__len__" f) (hk : k + 1 ≤ lv) : CallR X (.builtin "len") (rLenC g c f) := by
  intro pins s σ H xs us Q I r h
  obtain ⟨a, dx, fs, rfl, ha, h⟩ := h
  obtain ⟨u, rfl, ru⟩ := vals1 r
  cases ru
  obtain ⟨fa, F, hf, hfn, hc⟩ := N
  obtain ⟨prog, w', K, mg, base, A, N, s_0, H_0, env, outer, stack, ex, fn, calm, pn, xe⟩ := X
  obtain ⟨⟨h1, h2, h3, h4, h5, h6, h7, hfx⟩, h8, h9⟩ := ok
  simp only at h1 h2 h5 h6 h7
  subst h1 h2 h5 h6 h7
  obtain ⟨od, J⟩ := inst_at I ha
  have hr := (h8.mono hk).in1
  refine Calls.call_function_entry kind_len plain_len entry_len (args_len1 _) (by
    unfold Builtin.«len»
    refine wpAny_bind (m := oneArg "len" _) (wpAny_pure (wpAny_bind (m := callSpecial? (.ref a) (Str.ofString "__len__")) (PySem.W.special_fn I.kIn J hf (beq_iff_eq.mp hfn) (wpAny_mono (run_nox (E' := _) (us := [.ref a]) (vs := [.ref a]) F hr I.env0.in1 I (.cons rfl .nil) h) (fun r s' hr => ?_) fun _ _ y => y))))
    obtain ⟨v, H', I', rv, i, rfl, h0, h1, q⟩ := hr
    obtain ⟨t, rfl⟩ := rv
    refine wpAny_bind (wpAny_holding (wpAny_pure (wpAny_bind (wpAny_letGo ?_))))
    show wpAny _ _ (if i < 0 then _ else if i ≥ 2 ^ 63 then _ else _) _ _ _
    rw [if_neg (Int.not_lt.mpr h0), if_neg (by omega)]
    exact wpAny_bind (wpAny_mkInt (wpAny_pure ⟨_, rfl, ⟨.int i, H', I'.tok _, ⟨_, rfl⟩, q⟩⟩)))
theorem lenOk_go {d : D} {r : Rs D} (p : PostE g E w H σI σ false Q (lenOk r)) : PostC g E0 w H (fun v H' => ∃ i, v = .int i ∧ 0 ≤ i ∧ i < 2 ^ 63 ∧ Q (.int i) H') r := by
  unfold lenOk at p
  split at p
  · split at p
    · rename_i i B h
      intro w' v H' x rb rr
      simp only [Rep] at rr
      exact ⟨i, rr, h.1, h.2, p w' (.int i) H' x rb (rep_int g w' i)⟩
    · exact p.elim
  · exact p.elim
theorem s_lenA (ok : OkC g E lv X) (N : Dun g k c "__len__" f) (hk : k + 1 ≤ lv) (he : Snd g E H0 X false e m) (hg : Gl X "len" := by rfl) (h1 : starEach (e :: []) X.env = (false, eval e X.env) :: starEach [] X.env := by rfl) :
    Snd g E H0 X false (.Call (.Name "len" p1) [e] [] pos) (m1 (fLenA c f) m) := by
  obtain ⟨r, hc, hr⟩ : One g E H0 X (.builtin "len") fLen := o_len ok.toOk
  refine weak (pe_callB ((call_lenC ok N hk).or hc) hg (nbs ok.toOk) PySem.boot_len (pa_cons he pa_nil h1) (by decide) (by decide) h1 rfl) ?_
  rintro σ H Q ⟨w, σI, B, s, p⟩
  refine tI_bind s p fun d B1 w1 v H1 x1 s1 r1 p1 => ?_
  unfold fLenA at p1
  split at p1
  · rename_i c' ds
    split at p1
    · rename_i hc'
      subst hc'
      obtain ⟨a, dx, vs, rfl, ha, hl, hh, rr⟩ := (RepB.up r1).inst s1
      exact .inl ⟨a, dx, _, rfl, ha, w1, _, B1, s1.rb, Reps.one r1, lenOk_go (d := .none) p1⟩
    · exact p1.elim
  · exact .inr (hr w1 σI B1 σ H1 Q v d s1 r1.up p1)
/-! ### o.m(e, ..) -/
end
end Hf

set_option Elab.async false
set_option linter.all false
set_option maxRecDepth 100000
set_option maxHeartbeats 4000000
namespace Hf
open PySem PySem.Spec PyProof.Rows L2

/-! ### instances are made -/
section
variable {g : Gs} {E : XK} {w w' : Wd} {H H' : Hp} {B : Bs} {m : Option Addr}
theorem Ext.withMe (x : Ext { w with me := m } H w' H') : Ext w H { w' with me := w.me } H' := ⟨⟨x.le.P, x.le.io⟩, x.keep, x.pf, x.iof, x.there, rfl⟩
theorem leMe : Le w { w with me := m } := ⟨Same.refl _, fun _ _ h => h⟩
theorem RB.withMe (rb : RB g w B H) : RB g { w with me := m } B H := rb.keep leMe rfl rb.sub (Same.refl _) rb.np rb.nt
theorem ExcR.withMe {c : Nat} {x : Option D} {cls : Value} {dd : Option Addr} (h : ExcR g w c x cls dd H) : ExcR g { w with me := m } c x cls dd H := by
  unfold ExcR at h ⊢
  refine ⟨h.1, ?_⟩
  cases x with
  | none => exact h.2
  | some d =>
    obtain ⟨a, v, h1, h2, h3⟩ := h.2
    exact ⟨a, v, h1, h2, Rep.mono leMe _ _ h3⟩
end
/-- what is wanted of an __init__'s end -/
def PostN (g : Gs) (E : XK) (x : Addr) (w : Wd) (H : Hp) (Q : VK) : Rs D → Prop
  | .ok d B' => ∀ w' H', Ext w H w' H' → RB g w' B' H' → Rep g w' d (.ref x) → Q .non H'
  | .exc c y B' => ∀ w' cls dd H', Ext w H w' H' → RB g w' B' H' → ExcR g w' c y cls dd H' → E cls dd H'
  | .bad => False
/-- the promise of an __init__: what is made of the arguments -/
def spI (g : Gs) (c : Nat) (f : Fn) : Sp := fun vs H Q E => ∃ x dx ws H1 w ds B, vs = V.ref x :: ws ∧ H = upd (upd H1 dx (.own x)) x (.ins (g.cl c) dx []) ∧ H1 x = Option.none ∧ H1 dx = Option.none ∧ dx ≠ x ∧ RB g w B H1 ∧ Reps g w ds ws ∧ PostN g E x w H1 Q (f ds B)
/-- calls of the class c make instances as f says -/
def Ini (g : Gs) (k c : Nat) (f : Fn) : Prop := ∃ fI, L2.Mk g.K (g.cl c) fI ∧ FnR g.prog g.w g.K g.mg g.base (L2N.CX g.prog g.w) k fI (spI g c f) ∧ g.has c = true
section
variable {g : Gs} {E : XK} {w0 w : Wd} {H0 H : Hp} {X : Cx} {o e a b : Expr} {es : List Expr} {m ma mb : Ev} {ms : Evs} {pos p p1 p2 apos : Pos} {x n : Str} {f : Fn} {lv k c : Nat} {dfl : List D} {σI : Sl} {σ : L2.St} {B : Bs} {Q : VK} {b1 b2 bo : Bool} {i : Nat}
theorem make_go {ds : List D} {ws : List V} (rb : RB g w B H) (r : Reps g w ds ws) (p : PostC g E w H Q (f ds B)) : ∀ x dx, H x = Option.none → H dx = Option.none → dx ≠ x →
    spI g c f (V.ref x :: ws) (upd (upd H dx (.own x)) x (.ins (g.cl c) dx [])) (fun v H2 => v = .non ∧ Q (.ref x) H2) E := by
  intro x dx h1 h2 h3
  refine ⟨x, dx, ws, H, w, ds, B, rfl, rfl, h1, h2, h3, rb, r, ?_⟩
  revert p
  generalize f ds B = q
  intro p
  cases q with
  | ok d B' => exact fun w' H' y rb' rr => ⟨rfl, p w' _ H' y rb' rr⟩
  | exc c y B' => exact p
  | bad => exact p
/-- C(*e): the items of e -/
def mMakeS (f : Fn) (m : Ev) : Ev := fun σ B => (m σ B).bind fun d B1 => match d with
  | .tup ds => f ds B1
  | .lst ds => f ds B1
  | _ => .bad
theorem pe_makeS {C fI : Addr} {sp : Sp} {te : TE} {sp_ : Pos} (M : L2.Mk X.K C fI) (F : FnR X.prog X.w X.K X.mg X.base (L2N.CX X.prog X.w) k fI sp) (hr : Room (k + 1) X.A) (hx : Passes (L2N.CX X.prog X.w) X E) (he : PE X e te)
    (hst : starEach [.Starred e sp_] X.env = [(true, eval e X.env)]) (pins : List (Addr × Obj)) (s : Shared) (σ : L2.St) (H : Hp) (I : Inv X pins σ H s)
    (h : te σ H fun y H1 => ∃ a xs, y = V.ref a ∧ (SqT X.K H1 a xs ∨ SqL X.K H1 a xs) ∧ ∀ x dx, H1 x = Option.none → H1 dx = Option.none → dx ≠ x → sp (V.ref x :: xs) (upd (upd H1 dx (.own x)) x (.ins C dx [])) (fun v H2 => v = .non ∧ Q (.ref x) H2) E) :
    wpAny (model X.prog X.w) X.A (callWith pos (.ref C) [] (backTo pos (starEach [.Starred e sp_] X.env)) (backToKw pos (keywordEach [] X.env))) (EP X pins σ Q) X.xe s := by
  refine PySem.W.callWith_S (h₀ := X.base) I.ok.mod.kin M.kp (thn (he.run pins s σ H _ I h) fun v s1 ⟨y, H1, I1, ry, a, xs, ey, hxs, q⟩ => ?_) hst
  subst ey
  obtain rfl : v = Value.ref a := ry
  exact StX.star_any I1 hxs fun us s2 I2 rv => ⟨I2.kIn, StX.run_makeR M F hr hx I2 rv q⟩
/-- .. C in a name of the def -/
def mMakeV (i c : Nat) (f : Fn) (m : Ev) : Ev := fun σ B => match σ[i]? with
  | some (some (false, .cls c')) => if c' = c then mMakeS f m σ B else .bad
  | _ => .bad
theorem s_makeV {sp_ : Pos} (ok : OkC g E lv X) (N : Ini g k c f) (hk : k + 1 ≤ lv) (he : Snd g E H0 X b1 e m) (hN : X.N[i]? = some x := by rfl) (hv : Vis X.env.scope x := by first | exact Or.inl rfl | exact Or.inr (Or.inl rfl) | exact Or.inr (Or.inr rfl)) (hd : (x == ("__debug__" : Str)) = false := by decide) (hcd : (x == ("__classdict__" : Str)) = false := by decide) (hst : starEach [.Starred e sp_] X.env = [(true, eval e X.env)] := by rfl)
    (ht : eval (.Call (.Name x p) [.Starred e sp_] [] pos) X.env = (do callWith pos (← eval (.Name x p) X.env) [] (backTo pos (starEach [.Starred e sp_] X.env)) (backToKw pos (keywordEach [] X.env))) := by rfl) :
    Snd g E H0 X false (.Call (.Name x p) [.Starred e sp_] [] pos) (mMakeV i c f m) := by
  obtain ⟨fI, M, F, hc⟩ := N
  obtain ⟨prog, w', K, mg, base, A, N, s_0, H_0, env, outer, stack, ex, fn, calm, pn, xe⟩ := X
  obtain ⟨⟨h1, h2, h3, h4, h5, h6, h7, hfx⟩, h8, h9⟩ := ok
  simp only at h1 h2 h5 h6 h7
  subst h1 h2 h5 h6 h7
  refine ⟨fun pins s σ H Q I ⟨w, σI, B, s0, p⟩ => ?_⟩
  unfold mMakeV at p
  split at p
  · rename_i c' hi
    split at p
    · rename_i hcc
      subst hcc
      obtain ⟨v, e1, r0⟩ := s0.sl i _ hi
      simp only [Rep] at r0
      obtain ⟨rfl, _⟩ := r0
      refine Call_ (thn ((pe_var hN hv hd hcd).run pins s σ H (fun y H1 => y = .ref (g.cl c') ∧ H1 = H) I ⟨_, e1, rfl, rfl⟩) fun u s1 ⟨y, H1, I1, ry, ey, eH⟩ => ?_) ht
      subst ey eH
      obtain rfl : u = Value.ref (g.cl c') := ry
      refine pe_makeS M F (h8.mono hk) h9 he hst pins s1 σ H1 I1 ?_
      refine tI_bind s0 p fun d B1 w1 v H1 x1 s1 r1 p1 => ?_
      split at p1
      · rename_i ds
        obtain ⟨a, vs, rfl, q, r⟩ := r1.up.tup s1
        exact ⟨a, vs, rfl, .inl q, make_go s1.rb r (PostC.of s1 p1)⟩
      · rename_i ds
        obtain ⟨a, vs, rfl, q, r⟩ := r1.up.lst s1
        exact ⟨a, vs, rfl, .inr (.inl (.inl q)), make_go s1.rb r (PostC.of s1 p1)⟩
      · exact p1.elim
    · exact p.elim
  · exact p.elim
/-! ### class methods -/
def CMt (g : Gs) (k c : Nat) (n : Str) (f : Fn) : Prop := ∃ mc pr fa, FnR g.prog g.w g.K g.mg g.base (L2N.CX g.prog g.w) k fa (spF g f) ∧ ClX.CRead g.K (g.cl c) mc ∧ ClX.CMet g.K (g.cl c) mc n pr fa ∧ g.has c = true
def mCMth (c : Nat) (f : Fn) (ms : Evs) : Ev := fun σ B => (ms σ B).bind fun ds B1 => f (.cls c :: ds) B1
theorem s_cmth (ok : OkC g E lv X) {n : Str} (N : CMt g k c n f) (C : ClsN g c x) (hk : k ≤ lv) (ha : Snds g E H0 X (e :: es) ms) (hg : Gl X x := by rfl) (hd : (x == ("__debug__" : Str)) = false := by decide) {pl : Sem Bool}
    (hst : starEach (e :: es) X.env = (false, eval e X.env) :: starEach es X.env := by rfl) (hpl : (backTo pos (starEach es X.env)).any (·.1) = false := by rfl)
    (ht : eval (.Call (.Attribute (.Name x p) n apos) (e :: es) [] pos) X.env = (do
      let ov ← eval (.Name x p) X.env
      standAt apos.atName
      let (f, first) ← holding [ov] (getMethod ov n pl)
      callWith pos f first (backTo pos (starEach (e :: es) X.env)) (backToKw pos (keywordEach [] X.env))) := by rfl) :
    Snd g E H0 X false (.Call (.Attribute (.Name x p) n apos) (e :: es) [] pos) (mCMth c f ms) := by
  obtain ⟨mc, pr, fa, F, R, M, hc⟩ := N
  obtain ⟨prog, w', K, mg, base, A, N, s_0, H_0, env, outer, stack, ex, fn, calm, pn, xe⟩ := X
  obtain ⟨⟨h1, h2, h3, h4, h5, h6, h7, hfx⟩, h8, h9⟩ := ok
  simp only at h1 h2 h5 h6 h7
  subst h1 h2 h5 h6 h7
  refine weak (ClX.pe_cmeth (pe_glob (v := .ref (g.cl c)) hg C.mg rfl hd) R M F (h8.mono hk) h9 ha hst hpl ht) ?_
  rintro σ H Q ⟨w, σI, B, s, p⟩
  exact ⟨rfl, tIs_bind s p fun ds B1 w1 vs H1 x1 s1 r1 p1 => ⟨w1, _, B1, s1.rb, by simp only [Reps, Rep]; exact ⟨_, _, rfl, ⟨rfl, hc⟩, r1⟩, PostC.of s1 p1⟩⟩
end
end Hf

set_option Elab.async false
set_option linter.all false
set_option maxRecDepth 100000
set_option maxHeartbeats 4000000
namespace Hf
open PySem PySem.Spec PyProof.Rows L2

/-! ### an __init__ keeps its promise -/
/-- the instance that a body leaves in its first name -/
def finI (c : Nat) : Ss → Rs D
  | .next σ B => match σ[(0 : Nat)]? with
    | some (some (true, .inst c' es)) => if c' = c ∧ es.length = (fldN c).length then .ok (.inst c es) B else .bad
    | _ => .bad
  | .ret _ _ => .bad
  | .exc c x B => .exc c x B
  | .bad => .bad
/-- def __init__(self, *words): k names in all -/
def mkIniS (c k : Nat) (b : Ms) : Fn := fun ds B => if ds.length ≤ sizeLine then finI c (b (some (true, .inst c []) :: some (false, .tup ds) :: List.replicate (k - 2) Option.none) B) else .bad
/-- def __init__(self, a, ..): n more parameters -/
def mkIni (c n k : Nat) (b : Ms) : Fn := fun ds B => if ds.length = n then finI c (b (some (true, .inst c []) :: (ds.map (fun d => some (false, d)) ++ List.replicate (k - (n + 1)) Option.none)) B) else .bad
section
variable {g : Gs} {E : XK} {w : Wd} {H : Hp} {σI : Sl} {σ : L2.St} {B : Bs} {Q : VK} {c k : Nat}
/-- the end of an __init__ -/
theorem fin_go {x : Addr} {m : Ss} (hn : H x = Option.none) (p : PostN g E x w H Q (finI c m)) : PostS g E { w with me := some x } H w { nx := fun _ H' => Q .non H', rt := Q } m := by
  cases m with
  | bad => exact p
  | ret d B' => exact p.elim
  | exc c y B' => exact fun w' cls dd H' rb x1 r => p _ cls dd H' x1.withMe rb.withMe r.withMe
  | next σI' B' =>
    intro w' σ' H' _ s x1
    unfold finI at p
    simp only at p
    split at p
    · rename_i c' es hi
      split at p
      · rename_i h
        obtain ⟨rfl, hl⟩ := h
        obtain ⟨a, o, e1, ha, ct, np, nb, n0⟩ := s.ow 0 _ hi
        have e2 := s.me 0 _ _ a hi e1
        rw [x1.me] at e2
        cases (show some x = some a from e2)
        simp only [Cont] at ct
        obtain ⟨dx, vs, rfl, _, hh, rr⟩ := ct
        obtain ⟨x2, rb2⟩ := reg_ext x1 s.rb ha hn np nb (nt_ins _ _ _)
        refine p _ H' x2.withMe rb2.withMe ?_
        simp only [Rep]
        exact ⟨x, dx, vs, rfl, upd_same, hl, hh, Reps.mono ((regLe w' np).trans leMe) _ _ rr⟩
      · exact p.elim
    · exact p.elim
/-- def f(a, .., *v): what is left over is a new tuple without a dict -/
theorem fn_starN {P : Program} {w : World} {K : PySem.W.Frag} {mg : Str → Option Value} {base : Heap} {CX : CXT} {N ps : List Str} {k : Nat} {sp : Sp} {nm qual pv : Str} {params : Arguments} {body : List Stmt} {scope : Scope} {f : Addr} {oc dV kV doc pm cdv ct : Value} {od an : Option Addr} {osl : Array (Option Value)}
    (lk : K.lookup f = some ⟨oc, od, .func (PySem.W.fnOf nm qual params body scope dV kV doc pm an cdv ct), osl⟩) (hcd : PySem.W.codeIn K cdv qual = true) (S : FnScope N (ps ++ [pv]) scope) (hCX : StX.CXUp CX)
    (hb : ∀ us rest : List Value, us.length = ps.length → bindArgs (PySem.W.fnOf nm qual params body scope dV kV doc pm an cdv ct) ⟨us ++ rest, []⟩ = (newTuple rest >>= fun t => pure (ps.zip us ++ [(pv, t)])))
    (hbody : ∀ (A : Around) (outer : List Env) (s : Shared) (H : Hp) (vs : List V) (Q : VK) (E : XK), Room k (A.deeper (envOfC qual scope s.heap.objs.size f cdv)) → sp vs H Q E →
      ∃ t, PSs (cxOf CX P w K mg base N qual scope f cdv A outer s H E) body t ∧ t { nx := fun _ H' => Q .non H', rt := Q } (L2.start N vs) H) :
    FnR P w K mg base CX (k + 1) f (fun vs H Q E => ∃ ws rest, vs = ws ++ rest ∧ ws.length = ps.length ∧ rest.length ≤ sizeLine ∧ ∀ p (ob : Obj), H p = Option.none → ob.dict = Option.none → sp (ws ++ [V.ref p]) (upd H p (.frz ob (.tup rest))) Q E) := by
  intro A outer s H us vs Q E hr e0 r hsp
  obtain ⟨ws, rest, rfl, hl, hz, hq⟩ := hsp
  obtain ⟨u1, u2, rfl, r1, r2⟩ := StX.vals_split r
  have free : H s.heap.objs.size = Option.none := e0.hok.fresh (Nat.le_refl _)
  have m1 : u1.length = ps.length := by rw [← r1.length]; exact hl
  have m2 : u2.length ≤ sizeLine := by rw [← r2.length]; exact hz
  refine StX.run_bnd lk hcd S hr e0 (G := fun xs H2 => ∃ p, ∃ ob : Obj, ob.dict = Option.none ∧ H p = Option.none ∧ xs = ws ++ [V.ref p] ∧ H2 = upd H p (.frz ob (.tup rest))) (fun A1 Ex Q1 h => ?_) fun s2 H2 xs ⟨p, ob, hod, hp, ex, eH⟩ hr1 => ?_
  · rw [hb u1 u2 m1]
    refine wpAny_bind (wpAny_newTuple (wpAny_pure ?_) m2)
    obtain ⟨T, hT⟩ : ∃ T : Obj, T = { cls := .type "tuple", data := .seq u2.toArray } := ⟨_, rfl⟩
    have new : ObjOk P w (upd H s.heap.objs.size (.frz T (.tup rest))) (s.heap.push T) s.heap.objs.size (.frz T (.tup rest)) := by
      subst hT; exact frz_tup hz r2 (Heap.get?_push_size _ rfl)
    have hd : T.dict = Option.none := by subst hT; rfl
    rw [← hT]
    have un := StX.un_laid (fs := frs outer) (s := s) (o := T) (u := .frz T (.tup rest)) free
    have z := h _ _ (ws ++ [V.ref s.heap.objs.size]) (u1 ++ [Value.ref s.heap.objs.size]) (StX.env0_laid e0 new) un rfl (fun e s1 => hCX outer s H _ _ E e s1 un (fun c oc qc => Heap.get?_push_of_some _ qc) rfl) (r1.append (.cons rfl .nil))
      (by rw [List.length_append, List.length_append, hl] <;> rfl) ⟨_, T, hd, free, rfl, rfl⟩
    rw [List.zip_append m1.symm] at z
    exact z
  · subst ex eH
    exact hbody A outer s2 _ _ Q E hr1 (hq p ob hp hod)
/-- the start of an __init__ with one tuple -/
theorem start_star {N : List Str} {x dx p : Addr} {ds : List D} {rest : List V} (hN : 2 ≤ N.length) (hh : g.has c = true) (rb : RB g w B H) (r : Reps g w ds rest) (h1 : H x = Option.none) (h2 : H dx = Option.none) (h3 : dx ≠ x)
    {ob : Obj} (hod : ob.dict = Option.none) (hp : (upd (upd H dx (.own x)) x (.ins (g.cl c) dx [])) p = Option.none) :
    ∃ w1, S0 g H w1 (some (true, .inst c []) :: some (false, .tup ds) :: List.replicate (N.length - 2) Option.none) B (L2.start N [V.ref x, V.ref p]) (upd (upd (upd H dx (.own x)) x (.ins (g.cl c) dx [])) p (.frz ob (.tup rest))) ∧
      Ext { w with me := some x } H w1 (upd (upd (upd H dx (.own x)) x (.ins (g.cl c) dx [])) p (.frz ob (.tup rest))) := by
  have px : p ≠ x := fun e => by subst e; rw [upd_same] at hp; cases hp
  have pd : p ≠ dx := fun e => by
    rw [upd_ne px, e, upd_same] at hp; cases hp
  have hp0 : H p = Option.none := by rw [upd_ne px, upd_ne pd] at hp; exact hp
  generalize hH2 : upd (upd (upd H dx (.own x)) x (.ins (g.cl c) dx [])) p (.frz ob (.tup rest)) = H2
  have e2 : ∀ b, b ≠ p → b ≠ x → b ≠ dx → H2 b = H b := fun b q1 q2 q3 => by rw [← hH2, upd_ne q1, upd_ne q2, upd_ne q3]
  have ex : H2 x = some (.ins (g.cl c) dx []) := by rw [← hH2, upd_ne px.symm, upd_same]
  have ep : H2 p = some (.frz ob (.tup rest)) := by rw [← hH2, upd_same]
  have hk : Same H H2 := fun b u e => by
    rw [e2 b (ne_of_none e hp0) (ne_of_none e h1) (ne_of_none e h2)]; exact e
  have npp := rb.fresh_P hp0
  have l : Le w (regW w p (.frz ob (.tup rest))) := regLe w npp
  let w1 : Wd := { regW w p (.frz ob (.tup rest)) with me := some x }
  have l1 : Le w w1 := ⟨l.P, l.io⟩
  have sub1 : Same w1.P H2 := fun b u e => by
    have e : upd w.P p (.frz ob (.tup rest)) b = some u := e
    by_cases hb : b = p
    · subst hb; rw [upd_same] at e; cases e; exact ep
    · rw [upd_ne hb] at e; exact hk b u (rb.sub b u e)
  have rb1 : RB g w1 B H2 := rb.keep l1 rfl sub1 hk (fun n a e => by
    show upd w.P p (.frz ob (.tup rest)) a = Option.none
    rw [upd_ne (fun z => rb.fresh_io hp0 n (by rw [← z]; exact e))]
    exact rb.np n a e) (nt_reg rb.nt fun ps z => (nomatch z))
  have st : L2.start N [V.ref x, V.ref p] = some (V.ref x) :: some (V.ref p) :: List.replicate (N.length - 2) Option.none := rfl
  have tail : ∀ {j : Nat} {z : Option (Bool × D)}, (List.replicate (N.length - 2) (Option.none : Option (Bool × D)))[j]? = some z → z = Option.none := fun {j z} h => by
    rw [List.getElem?_replicate] at h
    split at h <;> cases h
    rfl
  refine ⟨w1, ⟨rb1, by rw [st]; simp, fun i d h => ?_, fun i d h => ?_, fun i j d e a q1 q2 _ _ => ?_, fun i c' es a q1 q2 => ?_⟩, ⟨⟨l1.P, l1.io⟩, fun b o e _ _ => hk b o e, fun b o e => ?_, fun n a e => .inl e, fun b e z => e (by
    cases q : H b with
    | none => rfl
    | some u => rw [hk b u q] at z; cases z), rfl⟩⟩
  · rw [st]
    match i, h with
    | 0, h => cases h
    | 1, h =>
      cases h
      refine ⟨V.ref p, rfl, ?_⟩
      simp only [Rep]
      exact ⟨p, rest, rfl, .inl ⟨ob, upd_same, hod⟩, Reps.mono l1 _ _ r⟩
    | j + 2, h => cases tail h
  · rw [st]
    match i, h with
    | 0, h =>
      cases h
      refine ⟨x, _, rfl, ex, ?_, ?_, fun n => rb.fresh_io h1 n, h1⟩
      · simp only [Cont]
        exact ⟨dx, [], by simp, Nat.zero_le _, hh, by simp only [Reps]⟩
      · show upd w.P p (.frz ob (.tup rest)) x = Option.none
        rw [upd_ne px.symm]; exact rb.fresh_P h1
    | 1, h => cases h
    | j + 2, h => cases tail h
  · match i, j, q1, q2 with
    | 0, 0, _, _ => rfl
    | 0, 1, _, h => cases h
    | 0, j + 2, _, h => cases tail h
    | 1, _, h, _ => cases h
    | i + 2, _, h, _ => cases tail h
  · match i, q1 with
    | 0, _ => rw [st] at q2; cases q2; rfl
    | 1, h => cases h
    | i + 2, h => cases tail h
  · have e : upd w.P p (.frz ob (.tup rest)) b = some o := e
    by_cases hb : b = p
    · subst hb; exact .inr (.inl hp0)
    · rw [upd_ne hb] at e; exact .inl e
theorem init_star {x qual sv pv : Str} {st : Stmt} {fa : Addr} {fd : FuncData} {N : List Str} {b : Ms} (F : L2.Fun g.K x qual st fa fd) (S : FnScope N ([sv] ++ [pv]) (defScope st)) (hN : 2 ≤ N.length) (hh : g.has c = true)
    (hb : ∀ (kV doc pm : Value) (an : Option Addr) (cdv ct : Value) (us rest : List Value), us.length = [sv].length → bindArgs (PySem.W.fnOf x qual (defArgs st) (defBody st) (defScope st) .none kV doc pm an cdv ct) ⟨us ++ rest, []⟩ = (newTuple rest >>= fun t => pure ([sv].zip us ++ [(pv, t)])))
    (fx : Fx g) (hbody : ∀ (E : XK) (w0 : Wd) (H0 : Hp) (X : Cx), OkC g E k X → PassesOwn (model X.prog X.w) X.A X.env X.xe → L2N.Takes X (fun cls d _ H => E cls d H) → X.N = N → X.env.scope = defScope st → X.fn = (fun _ => true) → SndB g E w0 H0 X (defBody st) b) :
    FnR g.prog g.w g.K g.mg g.base (L2N.CX g.prog g.w) (k + 1) fa (spI g c (mkIniS c N.length b)) := by
  obtain ⟨oc, od, kV, doc, pm, an, cdv, ct, osl, rfl, lk, hcd⟩ := F.ex
  let sp0 : Sp := fun vs H Q E => ∃ x dx p H1 w ds rest B, ∃ ob : Obj, ob.dict = Option.none ∧ vs = [V.ref x, V.ref p] ∧ H = upd (upd (upd H1 dx (.own x)) x (.ins (g.cl c) dx [])) p (.frz ob (.tup rest)) ∧ H1 x = Option.none ∧ H1 dx = Option.none ∧ dx ≠ x ∧ (upd (upd H1 dx (.own x)) x (.ins (g.cl c) dx [])) p = Option.none ∧
    RB g w B H1 ∧ Reps g w ds rest ∧ PostN g E x w H1 Q (mkIniS c N.length b ds B)
  have R := fn_starN (P := g.prog) (w := g.w) (mg := g.mg) (base := g.base) (CX := L2N.CX g.prog g.w) (k := k) (sp := sp0) (ps := [sv]) (pv := pv) lk hcd S cxUpN (hb kV doc pm an cdv ct) ?_
  · refine R.imp fun vs H Q E h => ?_
    obtain ⟨x, dx, ws, H1, w, ds, B, rfl, rfl, h1, h2, h3, rb, r, p⟩ := h
    have hz : ds.length ≤ sizeLine := by
      unfold mkIniS at p
      split at p
      · assumption
      · exact p.elim
    exact ⟨[V.ref x], ws, rfl, rfl, by rw [r.len]; exact hz, fun q ob hq ho => ⟨x, dx, q, H1, w, ds, ws, B, ob, ho, rfl, rfl, h1, h2, h3, hq, rb, r, p⟩⟩
  · rintro A outer s H vs Q E hr ⟨x, dx, p, H1, w, ds, rest, B, ob, hod, rfl, rfl, h1, h2, h3, hp, rb, r, q⟩
    unfold mkIniS at q
    split at q
    · refine ⟨_, hbody E { w with me := some x } H1 _ ⟨⟨rfl, rfl, rfl, ?_, rfl, rfl, rfl, fx⟩, hr, ?_⟩ (passes_of rfl) (L2N.takes_of rfl rfl rfl rfl) rfl rfl rfl, ?_⟩
      · have := hr.un; show A.units + 3 + 100 < cLine; have h2 : A.units + 3 + 16 * k + 200 < cLine := this; omega
      · exact L2N.passes_call (L2N.takes_of rfl rfl rfl rfl) (fun _ _ _ _ h => h)
      · obtain ⟨w1, s1, x1⟩ := start_star hN hh rb r h1 h2 h3 hod hp
        refine ⟨w1, _, B, s1, x1, ?_⟩
        have z := fin_go h1 q
        refine PostS.le ?_ z
        exact ⟨x1.le.P, x1.le.io⟩
    · exact q.elim
end
end Hf

set_option Elab.async false
set_option linter.all false
set_option maxRecDepth 100000
set_option maxHeartbeats 4000000
namespace Hf
open PySem PySem.Spec PyProof.Rows L2

/-! ### boxes are made: a new container that is shared and changed -/
def boxW (w : Wd) (n : Nat) (a : Addr) : Wd := { w with io := fun m => if m = n then some a else w.io m }
section
variable {g : Gs} {E : XK} {w0 w : Wd} {H0 H : Hp} {X : Cx} {e : Expr} {m me : Ev} {pos p1 apos cpos : Pos} {σI : Sl} {σ : L2.St} {B : Bs} {Q : VK} {b1 : Bool} {x : Str} {i : Nat}
theorem box_ext {w' : Wd} {H' : Hp} {a : Addr} {o : HO} {d : D} {B' : Bs} (x : Ext w H w' H') (rb : RB g w' B' H') (e : H' a = some o) (c : Cont g w' d a o) (n : H a = Option.none) (p : w'.P a = Option.none) (i : ∀ n, w'.io n ≠ some a) :
    Ext w H (boxW w' B'.length a) H' ∧ RB g (boxW w' B'.length a) (B' ++ [d]) H' ∧ Le w' (boxW w' B'.length a) := by
  have l : Le w' (boxW w' B'.length a) := ⟨Same.refl _, fun m b h => by
    show (if m = B'.length then some a else w'.io m) = some b
    rw [if_neg (Nat.ne_of_lt (rb.dom m b h))]; exact h⟩
  have io : ∀ m b, (boxW w' B'.length a).io m = some b → (m = B'.length ∧ b = a) ∨ (m ≠ B'.length ∧ w'.io m = some b) := fun m b h => by
    have h : (if m = B'.length then some a else w'.io m) = some b := h
    by_cases hm : m = B'.length
    · rw [if_pos hm] at h; cases h; exact .inl ⟨hm, rfl⟩
    · rw [if_neg hm] at h; exact .inr ⟨hm, h⟩
  refine ⟨⟨x.le.trans l, x.keep, x.pf, fun m b h => ?_, x.there, x.me⟩, ⟨rb.sub, fun m b h => ?_, fun m k b h1 h2 => ?_, fun m b h => ?_, fun m b h => ?_, rb.tb, rb.nt⟩, l⟩
  · rcases io m b h with ⟨_, rfl⟩ | ⟨_, h⟩
    · exact .inr n
    · exact x.iof m b h
  · by_cases hm : m < B'.length
    · rw [List.getElem?_append_left hm] at h
      obtain ⟨a', o', h1, h2, h3⟩ := rb.get m b h
      exact ⟨a', o', l.io _ _ h1, h2, h3.mono l⟩
    · rw [List.getElem?_append_right (Nat.le_of_not_lt hm)] at h
      have hm2 : m - B'.length = 0 := by
        have := (List.getElem?_eq_some_iff.mp h).1
        simp at this; exact this
      rw [hm2] at h
      cases h
      have : m = B'.length := by omega
      subst this
      exact ⟨a, o, by show (if _ then _ else _) = _; rw [if_pos rfl], e, c.mono l⟩
  · rcases io m b h1 with ⟨r1, r2⟩ | ⟨r1, r2⟩ <;> rcases io k b h2 with ⟨q1, q2⟩ | ⟨q1, q2⟩
    · rw [r1, q1]
    · subst r2; exact (i _ q2).elim
    · subst q2; exact (i _ r2).elim
    · exact rb.inj m k b r2 q2
  · rcases io m b h with ⟨_, rfl⟩ | ⟨_, h⟩
    · exact p
    · exact rb.np m b h
  · rw [List.length_append]
    rcases io m b h with ⟨rfl, _⟩ | ⟨_, h⟩
    · simp
    · have := rb.dom m b h
      omega
def mBox (m : Ev) : Ev := fun σ B => (m σ B).bind fun d B1 => .ok (.box B1.length) (B1 ++ [d])
theorem s_box (he : SndF g E H0 X e m) : Snd g E H0 X false e (mBox m) := by
  refine weak he ?_
  rintro σ H Q ⟨w, σI, B, s, p⟩
  refine ⟨w, σI, B, s, ?_⟩
  unfold mBox at p
  revert p
  generalize m σI B = q
  intro p
  cases q with
  | bad => exact p
  | exc c y B' => exact p
  | ok d B' =>
    intro w' a o H' x rb ha c n pp io z
    obtain ⟨x2, rb2, l⟩ := box_ext x rb ha c n pp io
    refine p _ (.ref a) H' x2 rb2 ?_
    simp only [RepB, Rep]
    exact ⟨a, rfl, by show (if _ then _ else _) = _; rw [if_pos rfl]⟩
/-- x.pop(e), x a name of a box -/
def mPopB (i : Nat) (m : Ev) : Ev := fun σ B => match σ[i]? with
  | some (some (false, .box n)) => match B[n]? with
    | some (.lst _) => (m σ B).bind fun k B1 => match k with
      | .int k => match B1[n]? with
        | some (.lst ds) => if 0 ≤ k ∧ k < 2 ^ 63 then (match ds[k.toNat]? with
          | some d => .ok d (B1.set n (.lst (ds.eraseIdx k.toNat)))
          | Option.none => .bad) else .bad
        | _ => .bad
      | _ => .bad
    | _ => .bad
  | _ => .bad
theorem s_popB (he : Snd g E H0 X b1 e me) (hN : X.N[i]? = some x := by rfl) (hv : Vis X.env.scope x := by first | exact Or.inl rfl | exact Or.inr (Or.inl rfl) | exact Or.inr (Or.inr rfl)) (hd : (x == ("__debug__" : Str)) = false := by decide) (hcd : (x == ("__classdict__" : Str)) = false := by decide)
    (hbase : attributeBase (.Name x p1) "pop" X.env (eval (.Name x p1) X.env) = eval (.Name x p1) X.env := by rfl)
    (hfew : ((backTo cpos (starEach [e] X.env)).all (fun x => !x.1) && (backToKw cpos (keywordEach [] X.env)).all (fun x => x.1.isSome) && decide ([e].length + ([] : List Keyword).length + (if ([] : List Keyword).isEmpty then 0 else 1) < 30)) = true := by rfl)
    (hline : (apos.endLine == cpos.line) = true := by rfl) (hs : starEach [e] X.env = (false, eval e X.env) :: starEach [] X.env := by rfl) (hpl : (backTo cpos (starEach [] X.env)).any (·.1) = false := by rfl) :
    Snd g E H0 X false (.Call (.Attribute (.Name x p1) "pop" apos) [e] [] cpos) (mPopB i me) := by
  refine weak (pe_bm PySem.F.plainAttrs_list PySem.F.slot_list_pop PySem.F.type_list_pop mt_popAt (pe_var hN hv hd hcd) (pa_cons he pa_nil hs) hbase hfew hline hs hpl) ?_
  rintro σ H Q ⟨w, σI, B, s, p⟩
  unfold mPopB at p
  split at p
  · rename_i n hi
    split at p
    · rename_i ds0 hb
      obtain ⟨v, e1, r0⟩ := s.sl i _ hi
      have r0' := r0
      simp only [Rep] at r0'
      obtain ⟨a, rfl, ha⟩ := r0'
      obtain ⟨a', o, h1, h2, c⟩ := s.rb.get _ _ hb
      rw [ha] at h1; cases h1
      simp only [Cont] at c
      obtain ⟨vs0, rfl, _⟩ := c
      refine ⟨_, e1, tyL h2, tI_bind s p fun k B1 w1 kv H1 x1 s1 r1 p1 => ?_⟩
      split at p1
      · rename_i k
        split at p1
        · rename_i ds hb1
          split at p1
          · rename_i hk
            split at p1
            · rename_i d hd
              have ha1 := x1.le.io _ _ ha
              obtain ⟨a2, o2, h3, h4, c2⟩ := s1.rb.get _ _ hb1
              rw [ha1] at h3; cases h3
              simp only [Cont] at c2
              obtain ⟨vs, rfl, rr⟩ := c2
              obtain ⟨u, e2, ru⟩ := Reps.get rr hd
              have hlt : k.toNat < vs.length := (List.getElem?_eq_some_iff.mp e2).1
              refine ⟨a, vs, k, k.toNat, u, rfl, by rw [r1.up.int s1], h4, by omega, hk.2, ?_, e2, ?_⟩
              · unfold seqIndex?
                have h0 : ¬ k < 0 := by omega
                simp only [h0, if_false]
                rw [if_pos (by rw [Bool.and_eq_true, decide_eq_true_eq, decide_eq_true_eq]; omega)]
              · refine p1 w1 u _ ?_ (s1.rb.mut ha1 (by simp only [Cont]; exact ⟨_, rfl, rr.erase _⟩)) ru
                exact (Ext.refl w1 H1).mutB ha1
            · exact p1.elim
          · exact p1.elim
        · exact p1.elim
      · exact p1.elim
    · exact p.elim
  · exact p.elim
end
/-! ### repr -/
structure OkG (g : Gs) (E : XK) (lv : Nat) (X : Cx) : Prop extends OkC g E lv X where
  gd : X.A.guards = some []
theorem OkG.blk {g : Gs} {E : XK} {lv : Nat} {X : Cx} (k : OkG g E lv X) (s : Shared) (H : Hp) (scope : Scope) (env : Env) (fp : List Addr) : OkG g E0 lv (X.blk s H scope env fp) := ⟨k.toOkC.blk s H scope env fp, k.gd⟩
def reprOk (d : D) : Bool := (match d with
  | .tup _ => true
  | .lst _ => true
  | _ => false) && (toPy d).canLay0 && (toPy d).showable && !(toPy d).hasDict && decide ((toPy d).depth < 50) && decide ((toPy d).shown.length ≤ sizeLine)
def fRepr : D → Bs → Rs D := fun d B => match d with
  | .int i => if decide (i.natAbs.log2 < 1920) then .ok (.str (PyData.shown (.int i))) B else .bad
  | .bool b => .ok (.str (PyData.shown (.bool b))) B
  | .none => .ok (.str (PyData.shown .none)) B
  | .str x => if decide ((PySem.reprText x).length ≤ sizeLine) then .ok (.str (PyData.shown (.str x))) B else .bad
  | .dct [] [] => .ok (.str (PyData.shown (.dict []))) B
  | d => if reprOk d then .ok (.str (toPy d).shown) B else .bad
def rRepr (K : PySem.W.Frag) : List V → Hp → VK → Prop := fun xs H Q => ∃ a d, xs = [.ref a] ∧ Dp K H (.ref a) d ∧ d.showable = true ∧ d.hasDict = false ∧ d.depth < 50 ∧ d.shown.length ≤ sizeLine ∧ Q (.str d.shown) H
theorem call_reprD {X : Cx} (hg : X.A.guards = some []) (hu : X.A.units + 100 < cLine) : CallR X (.builtin "repr") (rRepr X.K) := by
  intro pins s σ H xs us Q I r h
  obtain ⟨a, d, rfl, hd, h1, h2, h3, h4, q⟩ := h
  obtain ⟨u, rfl, ru⟩ := vals1 r
  obtain ⟨as, rd⟩ := Dp.reads I d (.ref a) u hd ru
  obtain rfl : u = Value.ref a := ru
  exact repr_of_reads' rd h1 (fun z => by rw [h2] at z; cases z) hg (by omega) (fun _ _ e => e) (fun h' t tk hk => ⟨.str _, H, I.kept hk, ⟨_, rfl⟩, q⟩) h4
section
variable {g : Gs} {E : XK} {H0 : Hp} {X : Cx} {lv : Nat}
theorem callR_or {f : Value} {r1 r2 : List V → Hp → VK → Prop} (h1 : CallR X f r1) (h2 : CallR X f r2) : CallR X f (fun xs H Q => r1 xs H Q ∨ r2 xs H Q) := fun pins s σ H xs us Q I r h => h.elim (h1 pins s σ H xs us Q I r) (h2 pins s σ H xs us Q I r)
theorem call_reprI : CallR X (.builtin "repr") (fun xs H Q => ∃ i, xs = [.int i] ∧ i.natAbs.log2 < 1920 ∧ Q (.str (PyData.shown (.int i))) H) := by
  intro pins s σ H xs us Q I r h
  obtain ⟨i, rfl, hz, q⟩ := h
  obtain ⟨u, rfl, t, rfl⟩ := vals1 r
  exact PySem.P.repr_of_int hz ⟨.str _, H, I.tok _, ⟨_, rfl⟩, q⟩
theorem call_reprB : CallR X (.builtin "repr") (fun xs H Q => ∃ b, xs = [.bl b] ∧ Q (.str (PyData.shown (.bool b))) H) := by
  intro pins s σ H xs us Q I r h
  obtain ⟨b, rfl, q⟩ := h
  obtain ⟨u, rfl, ru⟩ := vals1 r
  obtain rfl : u = Value.bool b := ru
  exact PySem.P.repr_of_bool ⟨.str _, H, I.tok _, ⟨_, rfl⟩, q⟩
theorem call_reprN : CallR X (.builtin "repr") (fun xs H Q => xs = [.non] ∧ Q (.str (PyData.shown .none)) H) := by
  intro pins s σ H xs us Q I r h
  obtain ⟨rfl, q⟩ := h
  obtain ⟨u, rfl, ru⟩ := vals1 r
  obtain rfl : u = Value.none := ru
  exact PySem.P.repr_of_none ⟨.str _, H, I.tok _, ⟨_, rfl⟩, q⟩
theorem call_reprS : CallR X (.builtin "repr") (fun xs H Q => ∃ x, xs = [.str x] ∧ (PySem.reprText x).length ≤ sizeLine ∧ Q (.str (PyData.shown (.str x))) H) := by
  intro pins s σ H xs us Q I r h
  obtain ⟨x, rfl, hz, q⟩ := h
  obtain ⟨u, rfl, t, rfl⟩ := vals1 r
  exact PySem.P.repr_of_str ⟨.str _, H, I.tok _, ⟨_, rfl⟩, q⟩ hz
theorem call_reprE (hg : X.A.guards = some []) (hu : X.A.units + 100 < cLine) : CallR X (.builtin "repr") (fun xs H Q => ∃ a, xs = [.ref a] ∧ H a = some (dctO g a []) ∧ Q (.str (PyData.shown (.dict []))) H) := by
  intro pins s σ H xs us Q I r h
  obtain ⟨a, rfl, ha, q⟩ := h
  obtain ⟨u, rfl, ru⟩ := vals1 r
  obtain rfl : u = Value.ref a := ru
  have hok := I.hok a _ ha
  obtain ⟨⟨hs, _, _, _, ys, hp, o, es, ep, ho, hx, hd, he⟩, _, _⟩ := hok
  cases hp
  have hes : es.toList = [] := he
  have rd : Reads s.heap (.ref a) (.dict []) ((a :: []) ++ []) := .dict ho hx.1 hd (by rw [hes]; exact .nil) (by rw [hes]; exact .nil)
  refine repr_of_reads' rd rfl (fun _ z => ?_) hg (by simp only [PyData.depth, PyData.depthKv]; omega) (fun _ _ e => e) (fun h' t tk hk => ⟨.str _, H, I.kept hk, ⟨_, rfl⟩, q⟩) (by decide +kernel)
  simp at z
  subst z
  simp at hs
def rReprG (g : Gs) : List V → Hp → VK → Prop := fun xs H Q => rRepr g.K xs H Q ∨ (∃ i, xs = [.int i] ∧ i.natAbs.log2 < 1920 ∧ Q (.str (PyData.shown (.int i))) H) ∨ (∃ b, xs = [.bl b] ∧ Q (.str (PyData.shown (.bool b))) H) ∨ (xs = [.non] ∧ Q (.str (PyData.shown .none)) H) ∨
  (∃ x, xs = [.str x] ∧ (PySem.reprText x).length ≤ sizeLine ∧ Q (.str (PyData.shown (.str x))) H) ∨ (∃ a, xs = [.ref a] ∧ H a = some (dctO g a []) ∧ Q (.str (PyData.shown (.dict []))) H)
theorem call_reprG (c : OkG g E lv X) : CallR X (.builtin "repr") (rReprG g) := callR_or (c.K ▸ call_reprD c.gd c.un) (callR_or call_reprI (callR_or call_reprB (callR_or call_reprN (callR_or call_reprS (call_reprE c.gd c.un)))))
theorem repr_go {w : Wd} {σI : Sl} {B : Bs} {σ : L2.St} {H : Hp} {Q : VK} {x : V} {d : D} (s : S0 g H0 w σI B σ H) (r : RepO g w σI σ d x) (p : PostE g E w H σI σ false Q (fRepr d B)) : rReprG g [x] H Q := by
  unfold fRepr at p
  split at p
  · split at p
    · rename_i i h
      rw [r.int s]
      exact .inr (.inl ⟨_, rfl, of_decide_eq_true h, p.nowR s (rep_str g w _)⟩)
    · exact p.elim
  · rw [r.bool s]
    exact .inr (.inr (.inl ⟨_, rfl, p.nowR s (rep_str g w _)⟩))
  · rw [r.none s]
    exact .inr (.inr (.inr (.inl ⟨rfl, p.nowR s (rep_str g w _)⟩)))
  · split at p
    · rename_i i h
      rw [r.str s]
      exact .inr (.inr (.inr (.inr (.inl ⟨_, rfl, of_decide_eq_true h, p.nowR s (rep_str g w _)⟩))))
    · exact p.elim
  · obtain ⟨a, xs, rfl, ha, h1, _, _⟩ := r.dct s
    have hx : xs = [] := by
      cases xs with
      | nil => rfl
      | cons _ _ => simp at h1
    subst hx
    exact .inr (.inr (.inr (.inr (.inr ⟨a, rfl, ha, p.nowR s (rep_str g w _)⟩))))
  · split at p
    · rename_i h
      unfold reprOk at h
      simp only [Bool.and_eq_true, decide_eq_true_eq, Bool.not_eq_true'] at h
      obtain ⟨⟨⟨⟨⟨h0, h1⟩, h2⟩, h3⟩, h4⟩, h5⟩ := h
      have hd := r.dp s h1
      have key : ∃ a, x = .ref a := by
        split at h0
        · obtain ⟨a, _, e, _⟩ := r.tup s; exact ⟨a, e⟩
        · obtain ⟨a, _, e, _⟩ := r.lst s; exact ⟨a, e⟩
        · cases h0
      obtain ⟨a, rfl⟩ := key
      exact .inl ⟨a, _, rfl, hd, h2, h3, h4, h5, p.nowR s (rep_str g w _)⟩
    · exact p.elim
theorem o_repr (c : OkG g E lv X) : One g E H0 X (.builtin "repr") fRepr := ⟨_, call_reprG c, fun w σI B σ H Q x d s r p => repr_go s r p⟩
end
/-! ### defs that ask for repr: promises where no repr is under way -/
structure FnG (P : Program) (w : World) (K : PySem.W.Frag) (mg : Str → Option Value) (base : Heap) (CX : CXT) (k : Nat) (f : Addr) (fd : FuncData) (ps : List Str) (sp : Sp) : Prop where
  len : ∀ vs H Q E, sp vs H Q E → vs.length = ps.length
  run : ∀ (A : Around) (outer : List Env) (s : Shared) (H : Hp) (args : Args) (us : List Value) (vs : List V) (Q : VK) (E : XK), A.guards = some [] → Room k A → Env0 P w K mg base A outer s H → BindsTo s fd args (ps.zip us) → Vals vs us → sp vs H Q E →
    codeAny (model P w) A (.call (.ref f) args) (CR CX outer P w H s Q E) s
theorem FnG.mono {P : Program} {w : World} {K : PySem.W.Frag} {mg : Str → Option Value} {base : Heap} {CX : CXT} {j k : Nat} {f : Addr} {fd : FuncData} {ps : List Str} {sp : Sp} (F : FnG P w K mg base CX j f fd ps sp) (h : j ≤ k) : FnG P w K mg base CX k f fd ps sp :=
  ⟨F.len, fun A outer s H args us vs Q E hg hr => F.run A outer s H args us vs Q E hg (hr.mono h)⟩
def DefG (g : Gs) (k : Nat) (x : Str) (dfl : List D) (f : Fn) : Prop := ∃ (fa : Addr) (fd : FuncData) (ps : List Str) (dvs : List V) (ds : List Value), FnG g.prog g.w g.K g.mg g.base (L2N.CX g.prog g.w) k fa fd ps (spF g f) ∧ g.mg x = some (.ref fa) ∧ PySem.W.keepIn g.K (.ref fa) = true ∧ Binds g.K fd ps ds ∧ Vals dvs ds ∧ ∀ w, Reps g w dfl dvs
section
variable {g : Gs} {E : XK} {w0 w : Wd} {H0 H : Hp} {X : Cx} {e : Expr} {es : List Expr} {ms : Evs} {pos p : Pos} {x : Str} {f : Fn} {lv k : Nat} {dfl : List D} {σI : Sl} {σ : L2.St} {B : Bs} {Q : VK}
theorem run_g {CX : CXT} {fa : Addr} {fd : FuncData} {ps : List Str} {sp : Sp} {ds us : List Value} {dvs vs : List V} {pins : List (Addr × Obj)} {s : Shared} (F : FnG X.prog X.w X.K X.mg X.base CX k fa fd ps sp) (hg : X.A.guards = some []) (hr : Room k X.A) (hb : Binds X.K fd ps ds) (hd : Vals dvs ds) (hx : Passes CX X E)
    (I : Inv X pins σ H s) (r : Vals vs us) (h : sp (vs ++ dvs) H Q E) : wpAny (model X.prog X.w) X.A (call (.ref fa) us) (EP X pins σ Q) X.xe s := by
  have r2 : Vals (vs ++ dvs) (us ++ ds) := r.append hd
  refine wpAny_call (codeAny_mono (F.run X.A X.stack s H ⟨us, []⟩ (us ++ ds) (vs ++ dvs) Q E hg hr I.env0 (hb s us I.kIn (by rw [← r2.length]; exact F.len _ _ _ _ h)) r2 h) fun r s' hq => ?_)
  cases r with
  | error e => exact hx pins σ H s e s' I hq
  | ok fl =>
    cases fl with
    | ret u => exact I.after hq
    | next | brk | cont => exact hq.elim
theorem s_callG (c : OkG g E lv X) (d : DefG g k x dfl f) (hk : k ≤ lv) (ha : Snds g E H0 X (e :: es) ms) (hg : Gl X x := by rfl) (hdb : (x == ("__debug__" : Str)) = false := by decide) (he : starEach (e :: es) X.env = (false, eval e X.env) :: starEach es X.env := by rfl) (hpl : (backTo pos (starEach es X.env)).any (·.1) = false := by rfl) :
    Snd g E H0 X false (.Call (.Name x p) (e :: es) [] pos) (mCall f dfl ms) := by
  obtain ⟨fa, fd, ps, dvs, ds, F, hm, kp, b, hd, hr⟩ := d
  obtain ⟨prog, w', K, mg, base, A, N, s_0, H_0, env, outer, stack, ex, fn, calm, pn, xe⟩ := X
  obtain ⟨⟨⟨h1, h2, h3, h4, h5, h6, h7, hfx⟩, h8, h9⟩, h10⟩ := c
  simp only at h1 h2 h5 h6 h7
  subst h1 h2 h5 h6 h7
  refine weak (t := tCall (spF g f) dvs E (tIs g E H0 ms)) ⟨fun pins s σ H Q I h => ?_⟩ (call_go rfl hr)
  refine wpAny_Call_Name_kw (ld_glob I hg hm (PySem.W.callWith_K (h₀ := g.base) I.ok.mod.kin kp (thn (ha.run pos pins s σ H _ I h) fun us s1 ⟨vs, H1, I1, r, q⟩ => ⟨I1.kIn, run_g F h10 (h8.mono hk) b hd h9 I1 r q⟩) he hpl) hdb)
/-- a def whose body asks for repr -/
theorem def_okG {qual : Str} {st : Stmt} {fa : Addr} {fd : FuncData} {N ps : List Str} {n : Nat} {b : Ms} (F : L2.Fun g.K x qual st fa fd) (S : FnScope N ps (defScope st)) (hn : ps.length = n) (hN : n ≤ N.length)
    (fx : Fx g) (hb : ∀ (E : XK) (w0 : Wd) (H0 : Hp) (X : Cx), OkG g E k X → PassesOwn (model X.prog X.w) X.A X.env X.xe → L2N.Takes X (fun cls d _ H => E cls d H) → X.N = N → X.env.scope = defScope st → X.fn = (fun _ => true) → SndB g E w0 H0 X (defBody st) b) :
    FnG g.prog g.w g.K g.mg g.base (L2N.CX g.prog g.w) (k + 1) fa fd ps (spF g (mkFn n N.length b)) := by
  obtain ⟨oc, od, kV, doc, pm, an, cdv, ct, osl, rfl, lk, hcd⟩ := F.ex
  have hl : ∀ vs H Q E, spF g (mkFn n N.length b) vs H Q E → vs.length = ps.length := fun vs H Q E h => by
    obtain ⟨w, ds, B, rb, r, p⟩ := h
    unfold mkFn at p
    split at p
    · rename_i e; rw [r.len, e, hn]
    · exact p.elim
  refine ⟨hl, fun A outer s H args us vs Q E hg hr e0 hbd r h => ?_⟩
  refine StX.run_bnd lk hcd S hr e0 (G := fun xs H2 => xs = vs ∧ H2 = H) (fun A' Ex Q' hq => hbd _ _ _ _ (hq s H vs us e0 Un.refl rfl (fun _ _ z => z) r (hl _ _ _ _ h) ⟨rfl, rfl⟩)) ?_
  rintro s2 H2 xs ⟨rfl, rfl⟩ hr'
  obtain ⟨w, ds, B, rb, r, p⟩ := h
  unfold mkFn at p
  split at p
  · rename_i e
    refine ⟨_, hb E w H2 _ ⟨⟨⟨rfl, rfl, rfl, ?_, rfl, rfl, rfl, fx⟩, hr', ?_⟩, hg⟩ (passes_of rfl) (L2N.takes_of rfl rfl rfl rfl) rfl rfl rfl, ?_⟩
    · have := hr'.un; show A.units + 3 + 100 < cLine; have h2 : A.units + 3 + 16 * k + 200 < cLine := this; omega
    · exact L2N.passes_call (L2N.takes_of rfl rfl rfl rfl) (fun _ _ _ _ h => h)
    · refine ⟨w, _, B, start_at rb r e hN, Ext.refl _ _, ?_⟩
      revert p
      generalize b _ B = q
      intro p
      cases q with
      | next σI' B' => exact fun w' σ H' _ s x => p w' .non H' x s.rb (rep_none g w')
      | ret d B' => exact fun w' v H' rb x r => p w' v H' x rb r
      | exc c y B' => exact fun w' cls dd H' rb x r => p w' cls dd H' x rb r
      | bad => exact p
  · exact p.elim
end
end Hf

set_option Elab.async false
set_option linter.all false
set_option maxRecDepth 100000
set_option maxHeartbeats 4000000
namespace Hf
open PySem PySem.Spec PyProof.Rows L2

/-! ### the built-ins by their names -/
theorem bt_len : bootBuiltins "len" = some (.builtin "len") := by decide +kernel
theorem bt_all : bootBuiltins "all" = some (.builtin "all") := by decide +kernel
theorem bt_max : bootBuiltins "max" = some (.builtin "max") := by decide +kernel
theorem bt_min : bootBuiltins "min" = some (.builtin "min") := by decide +kernel
theorem bt_repr : bootBuiltins "repr" = some (.builtin "repr") := by decide +kernel
theorem bt_tuple : bootBuiltins "tuple" = some (.type "tuple") := by decide +kernel
theorem bt_list : bootBuiltins "list" = some (.type "list") := by decide +kernel
theorem bt_str : bootBuiltins "str" = some (.type "str") := by decide +kernel
section
variable {g : Gs} {E : XK} {w0 w : Wd} {H0 H : Hp} {X : Cx} {a b e : Expr} {ma mb m : Ev} {pos p1 : Pos} {b1 b2 : Bool} {lv : Nat} {st : Stmt}
theorem q_len (c : Ok g X) (he : Snd g E H0 X b1 e m) (hg : Gl X "len" := by rfl) (h1 : starEach (e :: []) X.env = (false, eval e X.env) :: starEach [] X.env := by rfl) : Snd g E H0 X false (.Call (.Name "len" p1) [e] [] pos) (m1 fLen m) := s_b1 (o_len c) bt_len (nbs c) he hg (by decide) (by decide) h1
theorem q_all (c : Ok g X) (he : Snd g E H0 X b1 e m) (hg : Gl X "all" := by rfl) (h1 : starEach (e :: []) X.env = (false, eval e X.env) :: starEach [] X.env := by rfl) : Snd g E H0 X false (.Call (.Name "all" p1) [e] [] pos) (m1 fAll m) := s_b1 (o_all c) bt_all (nbs c) he hg (by decide) (by decide) h1
theorem q_max2 (c : Ok g X) (ha : Snd g E H0 X b1 a ma) (hb : Snd g E H0 X b2 b mb) (hg : Gl X "max" := by rfl) (h1 : starEach (a :: [b]) X.env = (false, eval a X.env) :: starEach [b] X.env := by rfl) (h2 : starEach (b :: []) X.env = (false, eval b X.env) :: starEach [] X.env := by rfl) (hpl : (backTo pos (starEach [b] X.env)).any (·.1) = false := by rfl) :
    Snd g E H0 X false (.Call (.Name "max" p1) [a, b] [] pos) (mBin fMax2 ma mb) := s_b2 (o_max2 c) bt_max (nbs c) ha hb hg (by decide) (by decide) h1 h2 hpl
theorem q_min2 (c : Ok g X) (ha : Snd g E H0 X b1 a ma) (hb : Snd g E H0 X b2 b mb) (hg : Gl X "min" := by rfl) (h1 : starEach (a :: [b]) X.env = (false, eval a X.env) :: starEach [b] X.env := by rfl) (h2 : starEach (b :: []) X.env = (false, eval b X.env) :: starEach [] X.env := by rfl) (hpl : (backTo pos (starEach [b] X.env)).any (·.1) = false := by rfl) :
    Snd g E H0 X false (.Call (.Name "min" p1) [a, b] [] pos) (mBin fMin2 ma mb) := s_b2 (o_min2 c) bt_min (nbs c) ha hb hg (by decide) (by decide) h1 h2 hpl
theorem q_repr (c : OkG g E lv X) (he : Snd g E H0 X b1 e m) (hg : Gl X "repr" := by rfl) (h1 : starEach (e :: []) X.env = (false, eval e X.env) :: starEach [] X.env := by rfl) : Snd g E H0 X false (.Call (.Name "repr" p1) [e] [] pos) (m1 fRepr m) := s_b1 (o_repr c) bt_repr (nbs c.toOk) he hg (by decide) (by decide) h1
theorem q_tuple (c : Ok g X) (he : Snd g E H0 X b1 e m) (hg : Gl X "tuple" := by rfl) (h1 : starEach (e :: []) X.env = (false, eval e X.env) :: starEach [] X.env := by rfl) : Snd g E H0 X false (.Call (.Name "tuple" p1) [e] [] pos) (m1 fTupO m) := s_ty1 (o_tuple c) bt_tuple (nbs c) he hg (by decide) (by decide) h1
theorem q_list (c : Ok g X) (he : Snd g E H0 X b1 e m) (hg : Gl X "list" := by rfl) (h1 : starEach (e :: []) X.env = (false, eval e X.env) :: starEach [] X.env := by rfl) : SndF g E H0 X (.Call (.Name "list" p1) [e] [] pos) (m1 fLstO m) := f_ty1 (o_list c) bt_list (nbs c) he hg (by decide) (by decide) h1
theorem q_str (c : Ok g X) (he : Snd g E H0 X b1 e m) (hg : Gl X "str" := by rfl) (h1 : starEach (e :: []) X.env = (false, eval e X.env) :: starEach [] X.env := by rfl) : Snd g E H0 X false (.Call (.Name "str" p1) [e] [] pos) (m1 fStrI m) := s_ty1 o_str bt_str (nbs c) he hg (by decide) (by decide) h1
/-- what is not reached may be anything -/
def mBad : Ms := fun _ _ => .bad
theorem z_bad : SndS g E w0 H0 X st mBad := ⟨fun pins s σ H Q I q => by
  obtain ⟨_, _, _, _, _, z⟩ := q
  exact z.elim⟩
/-- [..] * k: a new list -/
def fMulL : D → D → Bs → Rs D
  | .lst a, .int k, B => if decide (k < 1000) && decide (-1000 < k) && decide (a.length ≤ 1000) then .ok (.lst (List.replicate k.toNat a).flatten) B else .bad
  | _, _, _ => .bad
theorem f_mul (ha : Snd g E H0 X b1 a ma) (hb : Snd g E H0 X b2 b mb) : SndF g E H0 X (.BinOp a .Mult b pos) (mBin fMulL ma mb) := by
  refine weak (pe_op op_rep ha hb) ?_
  rintro σ H Q ⟨w, σI, B, s, p⟩
  refine tI_bindF s p fun d B1 w1 v H1 x1 s1 r1 p1 => ?_
  refine tI_bindF s1 p1 fun d2 B2 w2 v2 H2 x2 s2 r2 p2 => ?_
  unfold fMulL at p2
  split at p2
  · split at p2
    · rename_i ds k h
      simp only [Bool.and_eq_true, decide_eq_true_eq] at h
      obtain ⟨⟨h1, h2⟩, h3⟩ := h
      obtain ⟨a, vs, rfl, q1, r⟩ := (r1.up.mono x2.le).lst s2
      refine ⟨a, k, vs, rfl, r2.up.int s2, q1, by omega, by omega, ?_, fun q hq => p2.newL s2 (r.rep _) hq⟩
      rw [r.len, sizeLine_eq]
      have a1 : ds.length * k.toNat ≤ 1000 * 1000 := Nat.mul_le_mul h3 (by omega)
      omega
    · exact p2.elim
  · exact p2.elim
/-- a, b = x, y -/
theorem z_par2 {i j : Nat} {x y : Str} {px py pt : Pos} {kt k2 : Nat} {pt2 : Pos} (c : Ok g X) (hN : X.N.Nodup) (ha : Snd g E H0 X false a ma) (hb : Snd g E H0 X false b mb) (hw : swappedStores [.Tuple [.Name x px, .Name y py] kt pt] (.Tuple [a, b] k2 pt2) X.env = pure (some [x, y]) := by rfl)
    (hi : X.N[i]? = some x := by rfl) (hj : X.N[j]? = some y := by rfl) (hij : i ≠ j := by decide) (hx : X.env.scope.names.lookup x = some .local := by rfl) (hy : X.env.scope.names.lookup y = some .local := by rfl)
    (hs : swapsWithSole [.Tuple [.Name x px, .Name y py] kt pt] (.Tuple [a, b] k2 pt2) pos.line X.env = pure false := by rfl) (h1 : starEach [a, b] X.env = (false, eval a X.env) :: starEach [b] X.env := by rfl) (h2 : starEach [b] X.env = (false, eval b X.env) :: starEach [] X.env := by rfl) :
    SndS g E w0 H0 X (.Assign [.Tuple [.Name x px, .Name y py] kt pt] (.Tuple [a, b] k2 pt2) pos) (mAsg (gT (gsC (gN i) (gsC (gN j) gs0))) (mTup (mCons ma (mCons mb mNil)))) := by
  refine weakS (ps_par c.calm hN hi hj hij hx hy (pa_cons ha (pa_cons hb pa_nil h2) h1) hw hs) ?_
  rintro D σ H ⟨w, σI, B, s, x0, p⟩
  unfold mAsg mTup mCons mNil at p
  cases qa : ma σI B with
  | bad => simp only [qa, Rs.bind, Rs.st] at p; exact p.elim
  | exc cc yy B1 =>
    simp only [qa, Rs.bind, Rs.st] at p
    refine tI_go s (fun c x B1 q w' cls dd H' x' rb r => ?_) (by rw [qa]; simp) fun d B1 q => by rw [qa] at q; cases q
    rw [qa] at q; cases q
    exact p w' cls dd H' rb (x0.trans x') r
  | ok d1 B1 =>
    simp only [qa, Rs.bind] at p
    refine tI_go s (fun c x B1 q => by rw [qa] at q; cases q) (by rw [qa]; simp) fun d B1' q w1 v H1 x1 s1 r1 => ?_
    rw [qa] at q; cases q
    cases qb : mb σI B1 with
    | bad => simp only [qb, Rs.bind, Rs.st] at p; exact p.elim
    | exc cc yy B2 =>
      simp only [qb, Rs.bind, Rs.st] at p
      refine tI_go s1 (fun c x B1 q w' cls dd H' x' rb r => ?_) (by rw [qb]; simp) fun d B1 q => by rw [qb] at q; cases q
      rw [qb] at q; cases q
      exact p w' cls dd H' rb ((x0.trans x1).trans x') r
    | ok d2 B2 =>
      simp only [qb, Rs.bind] at p
      refine tI_go s1 (fun c x B1 q => by rw [qb] at q; cases q) (by rw [qb]; simp) fun d B1' q w2 v2 H2 x2 s2 r2 => ?_
      rw [qb] at q; cases q
      have hz : szL [d1, d2] = true := decide_eq_true (show 2 ≤ sizeLine by rw [sizeLine_eq]; omega)
      simp only [hz, if_true, Rs.st, gT, gsC, gN, gs0, Option.bind] at p
      exact ⟨v, v2, rfl, PostS.le (x1.le.trans x2.le) p w2 _ H2 (Le.refl _) ((s2.set i (Rep.mono x2.le _ _ r1)).set j r2) ((x0.trans x1).trans x2)⟩
theorem z_par3 {i j l : Nat} {c3 : Expr} {mc : Ev} {x y z : Str} {px py pz pt : Pos} {kt k2 : Nat} {pt2 : Pos} (c : Ok g X) (hN : X.N.Nodup) (ha : Snd g E H0 X false a ma) (hb : Snd g E H0 X false b mb) (hc : Snd g E H0 X false c3 mc) (hw : swappedStores [.Tuple [.Name x px, .Name y py, .Name z pz] kt pt] (.Tuple [a, b, c3] k2 pt2) X.env = pure (some [x, y, z]) := by rfl)
    (hi : X.N[i]? = some x := by rfl) (hj : X.N[j]? = some y := by rfl) (hl : X.N[l]? = some z := by rfl) (hij : i ≠ j := by decide) (hil : i ≠ l := by decide) (hjl : j ≠ l := by decide) (hx : X.env.scope.names.lookup x = some .local := by rfl) (hy : X.env.scope.names.lookup y = some .local := by rfl) (hz : X.env.scope.names.lookup z = some .local := by rfl)
    (hs : swapsWithSole [.Tuple [.Name x px, .Name y py, .Name z pz] kt pt] (.Tuple [a, b, c3] k2 pt2) pos.line X.env = pure false := by rfl) (h1 : starEach [a, b, c3] X.env = (false, eval a X.env) :: starEach [b, c3] X.env := by rfl) (h2 : starEach [b, c3] X.env = (false, eval b X.env) :: starEach [c3] X.env := by rfl) (h3 : starEach [c3] X.env = (false, eval c3 X.env) :: starEach [] X.env := by rfl) :
    SndS g E w0 H0 X (.Assign [.Tuple [.Name x px, .Name y py, .Name z pz] kt pt] (.Tuple [a, b, c3] k2 pt2) pos) (mAsg (gT (gsC (gN i) (gsC (gN j) (gsC (gN l) gs0)))) (mTup (mCons ma (mCons mb (mCons mc mNil))))) := by
  refine weakS (ps_par3 c.calm hN hi hj hl hij hil hjl hx hy hz (pa_cons ha (pa_cons hb (pa_cons hc pa_nil h3) h2) h1) hw hs) ?_
  rintro D σ H ⟨w, σI, B, s, x0, p⟩
  unfold mAsg mTup mCons mNil at p
  cases qa : ma σI B with
  | bad => simp only [qa, Rs.bind, Rs.st] at p; exact p.elim
  | exc cc yy B1 =>
    simp only [qa, Rs.bind, Rs.st] at p
    refine tI_go s (fun c x B1 q w' cls dd H' x' rb r => ?_) (by rw [qa]; simp) fun d B1 q => by rw [qa] at q; cases q
    rw [qa] at q; cases q
    exact p w' cls dd H' rb (x0.trans x') r
  | ok d1 B1 =>
    simp only [qa, Rs.bind] at p
    refine tI_go s (fun c x B1 q => by rw [qa] at q; cases q) (by rw [qa]; simp) fun d B1' q w1 v H1 x1 s1 r1 => ?_
    rw [qa] at q; cases q
    cases qb : mb σI B1 with
    | bad => simp only [qb, Rs.bind, Rs.st] at p; exact p.elim
    | exc cc yy B2 =>
      simp only [qb, Rs.bind, Rs.st] at p
      refine tI_go s1 (fun c x B1 q w' cls dd H' x' rb r => ?_) (by rw [qb]; simp) fun d B1 q => by rw [qb] at q; cases q
      rw [qb] at q; cases q
      exact p w' cls dd H' rb ((x0.trans x1).trans x') r
    | ok d2 B2 =>
      simp only [qb, Rs.bind] at p
      refine tI_go s1 (fun c x B1 q => by rw [qb] at q; cases q) (by rw [qb]; simp) fun d B1' q w2 v2 H2 x2 s2 r2 => ?_
      rw [qb] at q; cases q
      cases qc : mc σI B2 with
      | bad => simp only [qc, Rs.bind, Rs.st] at p; exact p.elim
      | exc cc yy B2 =>
        simp only [qc, Rs.bind, Rs.st] at p
        refine tI_go s2 (fun c x B1 q w' cls dd H' x' rb r => ?_) (by rw [qc]; simp) fun d B1 q => by rw [qc] at q; cases q
        rw [qc] at q; cases q
        exact p w' cls dd H' rb (((x0.trans x1).trans x2).trans x') r
      | ok d3 B3 =>
        simp only [qc, Rs.bind] at p
        refine tI_go s2 (fun c x B1 q => by rw [qc] at q; cases q) (by rw [qc]; simp) fun d B1' q w3 v3 H3 x3 s3 r3 => ?_
        rw [qc] at q; cases q
        have hz : szL [d1, d2, d3] = true := decide_eq_true (show 3 ≤ sizeLine by rw [sizeLine_eq]; omega)
        simp only [hz, if_true, Rs.st, gT, gsC, gN, gs0, Option.bind] at p
        exact ⟨v, v2, v3, rfl, PostS.le ((x1.le.trans x2.le).trans x3.le) p w3 _ H3 (Le.refl _) (((s3.set i (Rep.mono (x2.le.trans x3.le) _ _ r1)).set j (Rep.mono x3.le _ _ r2)).set l r3) (((x0.trans x1).trans x2).trans x3)⟩
/-- self.f = e in an __init__, f the j-th field -/
def mFldJ (c j : Nat) (m : Ev) : Ms := fun σ B => match σ[(0 : Nat)]? with
  | some (some (true, .inst _ ds)) => if ds.length = j then mFldSet c m σ B else .bad
  | _ => .bad
end
end Hf

set_option Elab.async false
set_option linter.all false
set_option maxRecDepth 100000
set_option maxHeartbeats 4000000
namespace Hf
open PySem PySem.Spec PyProof.Rows L2

/-! ### the head: the law's call, no repr under way -/
theorem law_callG {P : Program} {w : World} {K : PySem.W.Frag} {mg mb : Str → Option Value} {CX : CXT} {k : Nat} {fa a : Addr} {fd : FuncData} {x : Str} {sp : Sp} {s₁ : Shared} {vs : List Value} {ns : List Int}
    (KX : K.In s₁.heap) (hns : s₁.heap.Ns mainGlobals mg) (hb : s₁.heap.Ns builtinsNs mb) (hbb : ∀ x : Str, x ≠ "__name__" → mb x = bootBuiltins x) (hlim : s₁.heap.NoLimit) (hg : s₁.gens = #[])
    (ha : s₁.heap.get? a = some { cls := .type "list", data := .seq vs.toArray }) (hi : IntsAre vs ns) (hl : ns.length ≤ sizeLine) (hr : Room k callerA)
    (F : ∀ base : Heap, K.In base → base.Ns mainGlobals mg → FnG P w K mg base CX k fa fd [x] sp) (hbind : ∀ (s : Shared) (uu : Value), BindsTo s fd ⟨[uu], []⟩ [(x, uu)])
    (hsp : ∀ H : Hp, Only H → SqL K H a (ns.map V.int) → sp [.ref a] H (fun v _ => v = .bl true) fun _ _ _ => False)
    (hCX : ∀ H e s', CX [] H s₁ (fun _ _ _ => False) e s' → False) :
    codeAny (model P w) callerA (.call (.ref fa) ⟨[.ref a], []⟩) (fun r s' => r = .ok (.ret (.bool true)) ∧ OldK s₁.heap s'.heap ∧ s'.os = s₁.os ∧ AllBare s'.gens) s₁ := by
  have rvs := vals_ints hi
  have lenVs := hi.length
  -- from an abstract heap in which nothing but the script may be tracked
  have main1 : ∀ H : Hp, Only H → SqL K H a (ns.map V.int) → HOk P w H s₁.heap → (∀ b, H b ≠ none → b = a) → (H a ≠ none → K.lookup a = none) →
      codeAny (model P w) callerA (.call (.ref fa) ⟨[.ref a], []⟩) (fun r s' => r = .ok (.ret (.bool true)) ∧ OldK s₁.heap s'.heap ∧ s'.os = s₁.os ∧ AllBare s'.gens) s₁ := by
    intro H hOn hSq hHO hAd hKn
    have inB : ∀ {b : Addr} {o : Obj}, s₁.heap.get? b = some o → H b = none → (hidT s₁.heap H).get? b = some o := fun e n => hidT_get e n
    have notD : ∀ {b : Addr} {o : Obj} {es : Array DictEntry} {ep : Nat}, s₁.heap.get? b = some o → o.data = .dict es ep → H b = none := fun {b o es ep} e d => by
      cases qq : H b with
      | none => rfl
      | some uu =>
        have ee : b = a := hAd b (by rw [qq]; simp)
        subst ee
        rw [ha] at e; cases e
        have dd' : Data.seq vs.toArray _ = Data.dict es ep := d
        cases dd'
    have nsB : ∀ {b : Addr} {m : Str → Option Value}, s₁.heap.Ns b m → (hidT s₁.heap H).Ns b m := fun {b m} ⟨o, es, ep, e, d, r⟩ => ⟨o, es, ep, inB e (notD e d), d, r⟩
    have hKB : K.In (hidT s₁.heap H) := fun b o e => inB (KX b o e) (by
      cases qq : H b with
      | none => rfl
      | some uu =>
        have ee : b = a := hAd b (by rw [qq]; simp)
        subst ee
        rw [hKn (by rw [qq]; simp)] at e; cases e)
    have hMod : Mod K mg (hidT s₁.heap H) := ⟨hKB, nsB hns, ⟨mb, nsB hb, hbb⟩, let ⟨mc, h1, h2⟩ := hlim; ⟨mc, nsB h1, h2⟩⟩
    have env1 : Env0 P w K mg (hidT s₁.heap H) callerA [] s₁ H := ⟨rfl, hMod, fun b o e => of_hidT e, Nat.le_of_eq (hidT_size _ _), trivial, fun b hb => absurd (show b ∈ ([] : List Addr) from hb) (by simp), hHO, .of_eq hg⟩
    refine codeAny_mono ((F _ hKB (nsB hns)).run callerA [] s₁ H ⟨[.ref a], []⟩ [.ref a] [.ref a] _ _ rfl hr env1 (hbind s₁ (.ref a)) (.cons rfl .nil) (hsp H hOn hSq)) fun r s' h => ?_
    cases r with
    | error e => exact (hCX H e s' h).elim
    | ok fl =>
      cases fl with
      | next => exact False.elim h
      | brk => exact False.elim h
      | cont => exact False.elim h
      | ret uu =>
        obtain ⟨v, H', os, bar, unn, hHO', rr', qq⟩ := h
        have qq' : v = .bl true := qq
        subst qq'
        obtain rfl : uu = Value.bool true := rr'
        refine ⟨rfl, OldK.of_keep fun b o e => ?_, os, bar⟩
        cases qq : H b with
        | none => exact unn.keep b o e qq (by intro zz; exact absurd (show b ∈ ([] : List Addr) from zz) (by simp)) (by simp)
        | some uu =>
          rcases hOn b with zz | ⟨obj, xx, zz⟩
          · rw [qq] at zz; cases zz
          · have zz2 := unn.frzs b obj _ zz
            obtain ⟨ee1, _⟩ := hHO b _ zz
            obtain ⟨ee2, _⟩ := hHO' b _ zz2
            rw [e] at ee1; cases ee1
            exact ee2
  cases hkk : K.lookup a with
  | some o =>
    -- the script is one of the module's own objects
    have e := KX a o hkk
    rw [ha] at e
    cases e
    refine main1 (fun _ => none) (fun _ => .inl rfl) (.inr ⟨_, vs.toArray, _, hkk, rfl, rfl, rfl, by rw [List.size_toArray, lenVs]; exact hl, by simpa using rvs⟩) (fun b uu zz => by have zz' : (none : Option HO) = some uu := zz; cases zz') (fun b zz => absurd rfl zz) fun zz => absurd rfl zz
  | none =>
    refine main1 (fun b => if b = a then some (.frz { cls := .type "list", data := .seq vs.toArray } (.lst (ns.map V.int))) else none) (fun b => ?_) (.inl (.inr ⟨{ cls := .type "list", data := .seq vs.toArray }, if_pos rfl⟩)) (fun b uu zz => ?_) (fun b zz => ?_) fun _ => hkk
    · by_cases hb : b = a
      · exact .inr ⟨_, _, if_pos hb⟩
      · exact .inl (if_neg hb)
    · by_cases hb : b = a
      · have zz' := (if_pos hb).symm.trans zz
        cases zz'
        subst hb
        exact ⟨ha, by rw [List.length_map]; exact hl, vs, _, rvs, ha⟩
      · have zz' := (if_neg hb).symm.trans zz
        cases zz'
    · by_cases hb : b = a
      · exact hb
      · exact absurd (if_neg hb) zz

/-- the law's promise: a script of whole numbers is handed in, True comes out -/
def spL (K : PySem.W.Frag) : Sp := fun vs H Q _ => ∃ (a : Addr) (ns : List Int), vs = [.ref a] ∧ SqL K H a (ns.map V.int) ∧ ns.length ≤ 63 ∧ Only H ∧ ∀ H', Q (.bl true) H'
theorem top_promise {P : Program} {w : World} {K : PySem.W.Frag} {mg : Str → Option Value} {base : Heap} {CX : CXT} {k : Nat} {fa : Addr} {fd : FuncData} {x : Str} {g : Gs} {f : Fn} (hg : g.K = K) (ht : g.tabs = []) (F : FnG P w K mg base CX k fa fd [x] (spF g f))
    (hf : ∀ ns : List Int, ns.length ≤ 63 → ∃ B, f [.scr (ns.map D.int)] [] = .ok (.bool true) B) : FnG P w K mg base CX k fa fd [x] (spL K) := by
  subst hg
  have imp : ∀ vs H Q E, spL g.K vs H Q E → spF g f vs H Q E := by
    rintro vs H Q E ⟨a, ns, rfl, hS, hl, hO, hq⟩
    obtain ⟨B, hB⟩ := hf ns hl
    refine ⟨{ P := H, io := fun _ => Option.none }, [.scr (ns.map D.int)], [], ⟨Same.refl _, fun n b e => by simp at e, fun _ _ _ e => (nomatch e), fun _ _ e => (nomatch e), fun _ _ e => (nomatch e), fun p hp => (by rw [ht] at hp; cases hp), fun b ps e => by
      rcases hO b with z | ⟨o, x, z⟩
      · have e' : H b = some (.tbl ps) := e
        rw [z] at e'; cases e'
      · have e' : H b = some (.tbl ps) := e
        rw [z] at e'; cases e'⟩, ?_, ?_⟩
    · simp only [Reps, Rep]
      exact ⟨_, _, rfl, ⟨a, ns.map V.int, rfl, hS, reps_ints g _ ns⟩, rfl⟩
    · rw [hB]
      intro w' v H' _ _ r
      simp only [Rep] at r
      subst r
      exact hq H'
  exact ⟨fun vs H Q E h => F.len vs H Q E (imp _ _ _ _ h), fun A outer s H args us vs Q E hg hr e0 hb r h => F.run A outer s H args us vs Q E hg hr e0 hb r (imp _ _ _ _ h)⟩
/-! ### isinstance's answers from a class's record -/
theorem kit_obj {K : PySem.W.Frag} {C : Addr} {b : String} (h : PySem.W.mroIn K C (.type b) = some false) (hm : PySem.W.kitMeta b = true := by decide +kernel) : PySem.W.kitOne K (.ref C) (.type b) = some false := by
  have e : (Value.ref C == Value.type b) = false := beq_eq_false_iff_ne.mpr (fun z => nomatch z)
  unfold PySem.W.kitOne PySem.W.kitCls
  simp only [e, Bool.false_eq_true, if_false, hm, if_true]
  exact h
theorem kit_self {K : PySem.W.Frag} {C : Addr} : PySem.W.kitOne K (.ref C) (.ref C) = some true := by
  unfold PySem.W.kitOne
  rw [if_pos (beq_self_eq_true _)]
theorem mro_no (C : Addr) : ∀ T ∈ ["NoneType", "int", "bool", "str", "list", "tuple", "dict"], (fastBuiltinMro T).map (·.contains (Value.ref C)) = some false := by
  intro T h
  simp only [List.mem_cons, List.not_mem_nil, or_false] at h
  rcases h with rfl | rfl | rfl | rfl | rfl | rfl | rfl <;> kernel_rfl
theorem kit_own {K : PySem.W.Frag} {C : Addr} {T : String} (hT : T ∈ ["NoneType", "int", "bool", "str", "list", "tuple", "dict"]) (hi : PySem.W.isClsIn K C = true) (ht : PySem.W.typeIn K (.ref C) = some (.type "type")) : PySem.W.kitOne K (.type T) (.ref C) = some false := by
  have e : (Value.type T == Value.ref C) = false := beq_eq_false_iff_ne.mpr (fun z => nomatch z)
  have hc : (PySem.W.clsIn K C).isSome = true := hi
  unfold PySem.W.kitOne PySem.W.kitCls
  simp only [e, Bool.false_eq_true, if_false, hc, ht, beq_self_eq_true, Bool.and_self, if_true]
  exact mro_no C T hT
end Hf

set_option Elab.async false
set_option linter.all false
set_option maxRecDepth 100000
set_option maxHeartbeats 8000000
namespace Hf
open PySem PySem.Spec PyProof.Rows L2

/-! ### a set of whole numbers, made of a list -/
section
variable {P : Program} {w : World} {A : Around}
end
section
variable {g : Gs} {E : XK} {H0 : Hp} {X : Cx}
/-! ### sorted(set(xs)), len(set(xs)) -/
variable {e : Expr} {m : Ev} {b1 : Bool} {p p2 q pos : Pos}
end
/-! ### defs with defaults -/
section
variable {g : Gs} {k : Nat}
end
end Hf

set_option Elab.async false
set_option linter.all false
set_option maxRecDepth 100000
set_option maxHeartbeats 8000000
namespace Hf
open PySem PySem.Spec PyProof.Rows L2
section
variable {g : Gs} {E : XK} {w0 w : Wd} {H0 H : Hp} {X : Cx} {e : Expr} {pos p : Pos} {x : Str} {f : Fn} {lv k : Nat} {dfl : List D} {σI : Sl} {σ : L2.St} {B : Bs} {Q : VK}
end
end Hf

set_option Elab.async false
set_option linter.all false
set_option maxRecDepth 100000
set_option maxHeartbeats 8000000
namespace Hf
open PySem PySem.Spec PyProof.Rows L2
section
variable {g : Gs} {E : XK} {w0 w : Wd} {H0 H : Hp} {X : Cx} {o e a b : Expr} {es : List Expr} {m ma mb mo : Ev} {ms : Evs} {pos p p1 p2 apos cpos : Pos} {x n : Str} {f : Fn} {lv k c : Nat} {dfl : List D} {σI : Sl} {σ : L2.St} {B : Bs} {Q : VK} {b1 b2 bo : Bool} {i : Nat}
/-! ### t.index(x), l.index(x): the first place of an equal one -/
def ixD (d : D) : List D → Option Nat
  | [] => Option.none
  | z :: r => if PyData.eqv (toPy z) (toPy d) then some 0 else (ixD d r).map (· + 1)
theorem ixD_some {d : D} : ∀ {l : List D} {j : Nat}, ixD d l = some j → ∃ z, (toPys l)[j]? = some z ∧ PyData.eqv z (toPy d) = true ∧ ∀ (m : Nat) (z' : PyData), m < j → (toPys l)[m]? = some z' → PyData.eqv z' (toPy d) = false
  | [], j, h => by cases h
  | z :: r, j, h => by
    unfold ixD at h
    split at h
    · rename_i e
      cases h
      exact ⟨toPy z, by simp [toPys], e, fun m _ hm => absurd hm (Nat.not_lt_zero _)⟩
    · rename_i e
      obtain ⟨q, h1, rfl⟩ := Option.map_eq_some_iff.mp h
      obtain ⟨z1, a1, a2, a3⟩ := ixD_some h1
      refine ⟨z1, by simpa [toPys] using a1, a2, fun m z' hm hz => ?_⟩
      cases m with
      | zero =>
        have : z' = toPy z := by simpa [toPys] using hz.symm
        rw [this]; exact Bool.eq_false_iff.mpr e
      | succ m => exact a3 m z' (by omega) (by simpa [toPys] using hz)
def fIdx : D → D → Bs → Rs D
  | .tup ds, d, B => if shp (.tup ds) && shp d then (match ixD d ds with
    | some j => .ok (.int (j : Nat)) B
    | Option.none => .bad) else .bad
  | .lst ds, d, B => if shp (.lst ds) && shp d then (match ixD d ds with
    | some j => .ok (.int (j : Nat)) B
    | Option.none => .bad) else .bad
  | _, _, _ => .bad
def rIdxT (K : PySem.W.Frag) : V → List V → Hp → VK → Prop := fun x xs H Q => ∃ (a : Addr) (y : V) (d : PyData) (ds : List PyData) (j : Nat) (z : PyData), x = V.ref a ∧ xs = [y] ∧ Dp K H (V.ref a) (.tuple ds) ∧ Dp K H y d ∧
  SeqAt.shaped (.tuple ds) = true ∧ SeqAt.shaped d = true ∧ ds[j]? = some z ∧ PyData.eqv z d = true ∧ (∀ (m : Nat) (z' : PyData), m < j → ds[m]? = some z' → PyData.eqv z' d = false) ∧ Q (.int (j : Nat)) H
theorem mt_idxT (hu : X.A.units + 65 < cLine) : MtR X "tuple.index" (rIdxT X.K) := by
  intro pins s σ H x xs v us Q I rx rxs h
  obtain ⟨t, y, d, ds, j, z, rfl, rfl, hl, hy, sl, sd, hz, hzj, hno, q⟩ := h
  cases rx
  obtain ⟨uy, rfl, ry⟩ := vals1 rxs
  obtain ⟨bs, r1⟩ := Dp.reads I d y uy hy ry
  have hxs : PyData.canLayAll0 ds = true := SeqAt.canLay_of_shaped sl
  have hroom : X.A.units + 1 + min (PyData.depthAll ds) d.depth < cLine := room_in_shaped sd hu
  cases hl with
  | tup hs ha =>
    obtain ⟨its, rv, ⟨⟨cls, dd, data, sls⟩, ho, hc, n, hdt⟩, hlen⟩ := I.tuple hs
    simp only at hc hdt
    subst hc hdt
    obtain ⟨as, h4⟩ := Dp.readsAll I ds _ its ha rv
    have hn : its.length = ds.length := SeqAt.ReadsAll.length ds its as h4
    have hmap : its.map (SeqAt.readOf s.heap) = ds := SeqAt.readsAll_map ds its as hxs h4
    obtain ⟨hjd, _⟩ := List.getElem?_eq_some_iff.mp hz
    have hjl : j < its.length := by omega
    have hj : j < its.toArray.size := by simpa using hjl
    have at_ : ∀ (q : Nat) (hq : q < its.toArray.size) (z1 : PyData), ds[q]? = some z1 → SeqAt.readOf s.heap its.toArray[q] = z1 := by
      intro q hq z1 e
      have ql : q < its.length := by simpa using hq
      rw [← hmap, List.getElem?_map, List.getElem?_eq_getElem ql] at e
      have e1 : SeqAt.readOf s.heap its[q] = z1 := Option.some.inj e
      simpa using e1
    refine call_meets PySem.F.slot_tuple_index ⟨_, ho, rfl⟩ PySem.F.entry_tuple_index (PySem.F.args_tuple_index_2 _ _)
      (TI.tuple_indexAt t its.toArray n dd sls uy (fun u => PyData.eqv (SeqAt.readOf s.heap u) d) j hj ?_ ?_) ⟨ho, SeqAt.items_eqAt (vs := its.toArray) (show ReadsAll s.heap its.toArray.toList ds as from h4) r1 hxs (SeqAt.canLay_of_shaped sd) hroom, ?_⟩
    · show PyData.eqv (SeqAt.readOf s.heap its.toArray[j]) d = true
      rw [at_ j hj z hz]; exact hzj
    · intro q hq hqj
      have qd : q < ds.length := by omega
      have e := List.getElem?_eq_getElem qd
      show PyData.eqv (SeqAt.readOf s.heap its.toArray[q]) d = false
      rw [at_ q hq _ e]; exact hno q _ hqj e
    · exact ⟨.int (j : Nat), H, I.tok _, ⟨_, rfl⟩, q⟩
/-- an own tuple that has no dict -/
def tBMt (K : PySem.W.Frag) (r : V → List V → Hp → VK → Prop) (to : TE) (t : TA) : TE := fun σ H Q => to σ H fun x H1 => (∃ a xs, x = V.ref a ∧ SqN K H1 a xs) ∧ t σ H1 fun vs H2 => r x vs H2 Q
theorem sqN_is {pins : List (Addr × Obj)} {σ : L2.St} {H : Hp} {s : Shared} {a : Addr} {xs : List V} (I : Inv X pins σ H s) (h : SqN X.K H a xs) : s.TypeIs (.ref a) "tuple" ∧ ∀ q, (Value.ref a) = .ref q → ∃ ob, s.heap.get? q = some ob ∧ ob.dict = Option.none := by
  rcases h with ⟨ob, h, hd⟩ | ⟨ob, us, j, hk, hc, hd, _⟩
  · obtain ⟨e, _, _, _, o2, e2, hc, _⟩ := I.hok _ _ h
    rw [e] at e2; cases e2
    exact ⟨⟨ob, e, hc⟩, fun q z => by cases z; exact ⟨ob, e, hd⟩⟩
  · have e := I.kIn _ _ hk
    exact ⟨⟨ob, e, hc⟩, fun q z => by cases z; exact ⟨ob, e, hd⟩⟩
theorem pe_bmT {nm : Str} {id : String} {r : V → List V → Hp → VK → Prop} {to : TE} {t : TA} (pa : PlainAttrs "tuple") (slot : Slot "tuple" nm id) (hty : typeOf (.builtin id) = pure (.type "method_descriptor")) (hm : MtR X id r) (ho : PE X o to) (ha : PA X (e :: es) t)
    (hbase : attributeBase o nm X.env (eval o X.env) = eval o X.env)
    (hfew : ((backTo cpos (starEach (e :: es) X.env)).all (fun x => !x.1) && (backToKw cpos (keywordEach [] X.env)).all (fun x => x.1.isSome)
      && decide ((e :: es).length + ([] : List Keyword).length + (if ([] : List Keyword).isEmpty then 0 else 1) < 30)) = true)
    (hline : (apos.endLine == cpos.line) = true) (hs : starEach (e :: es) X.env = (false, eval e X.env) :: starEach es X.env) (hplain : (backTo cpos (starEach es X.env)).any (·.1) = false) :
    PE X (.Call (.Attribute o nm apos) (e :: es) [] cpos) (tBMt X.K r to t) := by
  refine ⟨fun pins s σ H Q I h => ?_⟩
  refine wpAny_Call_method_late hbase hfew hline rfl (thn (ho.run pins s σ H _ I h) fun v s1 ⟨x, H1, I1, r1, ⟨t0, xs, ex, hn⟩, q1⟩ => ?_)
  subst ex
  cases r1
  obtain ⟨h1, h2⟩ := sqN_is I1 hn
  refine ⟨"tuple", id, pa, slot, hty, h1, h2, ?_⟩
  have hA := ha.run cpos pins s1 σ H1 _ I1 q1
  rw [hs] at hA ⊢
  refine Calls.callWith_builtin (by show (false || (backTo cpos (starEach es X.env)).any (·.1)) = false; rw [hplain] <;> rfl) (Calls.evalArgs_plain ?_)
  exact thn hA fun us s2 ⟨vs, H2, I2, r2, q2⟩ => hm pins s2 σ H2 (.ref t0) vs (.ref t0) us Q I2 rfl r2 q2
/-- only of tuples -/
def isTu : D → Bs → Rs D
  | .tup ds, B => .ok (.tup ds) B
  | _, _ => .bad
def mIdxT (mo me : Ev) : Ev := fun σ B => (mo σ B).bind fun o B1 => (isTu o B1).bind fun o B2 => (me σ B2).bind fun d B3 => fIdx o d B3
theorem s_idxT (ok : Ok g X) (ho : Snd g E H0 X b1 o mo) (he : Snd g E H0 X false e m)
    (hbase : attributeBase o "index" X.env (eval o X.env) = eval o X.env := by rfl)
    (hfew : ((backTo cpos (starEach [e] X.env)).all (fun x => !x.1) && (backToKw cpos (keywordEach [] X.env)).all (fun x => x.1.isSome) && decide ([e].length + ([] : List Keyword).length + (if ([] : List Keyword).isEmpty then 0 else 1) < 30)) = true := by rfl)
    (hline : (apos.endLine == cpos.line) = true := by rfl) (hs : starEach [e] X.env = (false, eval e X.env) :: starEach [] X.env := by rfl) (hpl : (backTo cpos (starEach [] X.env)).any (·.1) = false := by rfl) :
    Snd g E H0 X false (.Call (.Attribute o "index" apos) [e] [] cpos) (mIdxT mo m) := by
  refine weak (pe_bmT PySem.F.plainAttrs_tuple PySem.F.slot_tuple_index PySem.F.type_tuple_index (mt_idxT (by have := ok.un; omega)) ho (pa_cons he pa_nil hs) hbase hfew hline hs hpl) ?_
  rintro σ H Q ⟨w, σI, B, s, p⟩
  refine tI_bind s p fun d B1 w1 v H1 x1 s1 r1 p1 => ?_
  cases d <;> first | exact p1.elim | skip
  rename_i ds
  obtain ⟨a0, vs0, e0, q0, rr0⟩ := r1.up.tupN s1
  refine ⟨⟨a0, vs0, e0, ok.K ▸ q0⟩, ?_⟩
  refine tI_bind s1 p1 fun d2 B2 w2 v2 H2 x2 s2 r2 p2 => ?_
  unfold fIdx at p2
  simp only at p2
  split at p2
  · rename_i hsh
    obtain ⟨sh1, sh2⟩ := Bool.and_eq_true_iff.mp hsh
    split at p2
    · rename_i j hj
      obtain ⟨z, z1, z2, z3⟩ := ixD_some hj
      have rt : RepO g w2 σI σ (.tup ds) v := r1.up.mono x2.le
      have dp := rt.dp s2 (SeqAt.canLay_of_shaped sh1)
      subst e0
      exact ⟨a0, v2, toPy d2, toPys ds, j, z, rfl, rfl, ok.K ▸ dp, ok.K ▸ r2.up.dp s2 (SeqAt.canLay_of_shaped sh2), sh1, sh2, z1, z2, z3, p2.nowR s2 (rep_int g w2 _)⟩
    · exact p2.elim
  · exact p2.elim
/-! ### x[e], x(e, ..), e in x of an own instance -/
/-- c has the special method n, a def that means f, and is a function of the text -/
def DunF (g : Gs) (k c : Nat) (n : Str) (f : Fn) : Prop := ∃ fa, FnR g.prog g.w g.K g.mg g.base (L2N.CX g.prog g.w) k fa (spF g f) ∧ PySem.W.findIn g.K (.ref (g.cl c)) n = some (some (.ref fa)) ∧ PySem.W.isFn g.K (.ref fa) = true ∧ PySem.W.fnIn g.K fa = true ∧ g.has c = true
/-! ### a, b = x, []: one of both is an own container -/
end
end Hf

set_option Elab.async false
set_option linter.all false
set_option maxRecDepth 100000
set_option maxHeartbeats 8000000
namespace Hf
open PySem PySem.Spec PyProof.Rows L2

/-! ### calls by the parameters' names -/
/-- the values in the parameters' order: pi tells for each parameter which of the named values it is -/
def permL {α : Type} (pi : List Nat) (ws : List α) : List α := pi.filterMap fun i => ws[i]?
/-- m values by place, then named ones -/
def KwB (K : PySem.W.Frag) (fd : FuncData) (ps ks : List Str) (m : Nat) (pi : List Nat) : Prop := ∀ (s : Shared) (us ws : List Value), K.In s.heap → us.length = m → ws.length = ks.length → BindsTo s fd ⟨us, ks.zip ws⟩ (ps.zip (us ++ permL pi ws))
section
variable {g : Gs} {E : XK} {w0 w : Wd} {H0 H : Hp} {X : Cx} {e o a b : Expr} {es : List Expr} {m ma mb : Ev} {ms : Evs} {pos p apos kpos : Pos} {x : Str} {f : Fn} {lv k c : Nat} {σI : Sl} {σ : L2.St} {B : Bs} {Q : VK} {kws : List Keyword} {ks : List Str} {pi : List Nat} {nm : Option Str}
def named (n : Nat) (pi : List Nat) (f : List D → Bs → Rs D) (ds : List D) (B : Bs) : Rs D := if ds.length = n then f (permL pi ds) B else .bad
/-! ### x.m() -/
/-! ### C.m(k = v, ..), m a class method -/
/-! ### x(k = v, ..), x an own instance -/
end
end Hf

set_option Elab.async false
set_option linter.all false
set_option maxRecDepth 100000
set_option maxHeartbeats 8000000
namespace Hf
open PySem PySem.Spec PyProof.Rows L2

section
variable {g : Gs} {E : XK} {w0 w : Wd} {H0 H : Hp} {X : Cx} {e o a b : Expr} {es : List Expr} {m ma mb : Ev} {ms : Evs} {pos p apos kpos : Pos} {x : Str} {f : Fn} {lv k c : Nat} {σI : Sl} {σ : L2.St} {B : Bs} {Q : VK} {kws : List Keyword} {ks : List Str} {pi : List Nat} {b1 b2 : Bool}
/-! ### a ^ b of numbers -/
/-! ### sorted of a list of data that is in order already -/
theorem toPys_map : ∀ ds : List D, toPys ds = ds.map toPy
  | [] => by simp [toPys]
  | d :: ds => by simp [toPys, toPys_map ds]
/-! ### sum of a tuple of numbers -/
end
end Hf

set_option Elab.async false
set_option linter.all false
set_option maxRecDepth 100000
set_option maxHeartbeats 8000000
namespace Hf
open PySem PySem.Spec PyProof.Rows L2

/-! ### an __init__ with parameters, some with defaults -/
section
variable {g : Gs} {E : XK} {w0 w : Wd} {H0 H : Hp} {X : Cx} {e : Expr} {es : List Expr} {m : Ev} {ms : Evs} {pos p : Pos} {x : Str} {f : Fn} {lv k c : Nat} {σI : Sl} {σ : L2.St} {B : Bs} {Q : VK} {kws : List Keyword} {ks : List Str} {pi : List Nat}
theorem start_ini {N : List Str} {q dx : Addr} {ds : List D} {ws : List V} {n : Nat} (hn : ds.length = n) (hN : n + 1 ≤ N.length) (hh : g.has c = true) (rb : RB g w B H) (r : Reps g w ds ws) (h1 : H q = Option.none) (h2 : H dx = Option.none) (h3 : dx ≠ q) :
    S0 g H { w with me := some q } (some (true, .inst c []) :: (ds.map (fun d => some (false, d)) ++ List.replicate (N.length - (n + 1)) Option.none)) B (L2.start N (V.ref q :: ws)) (upd (upd H dx (.own q)) q (.ins (g.cl c) dx [])) ∧
      Ext { w with me := some q } H { w with me := some q } (upd (upd H dx (.own q)) q (.ins (g.cl c) dx [])) := by
  generalize hH2 : upd (upd H dx (.own q)) q (.ins (g.cl c) dx []) = H2
  have e2 : ∀ b, b ≠ q → b ≠ dx → H2 b = H b := fun b q1 q2 => by rw [← hH2, upd_ne q1, upd_ne q2]
  have eq : H2 q = some (.ins (g.cl c) dx []) := by rw [← hH2, upd_same]
  have hk : Same H H2 := fun b u e => by rw [e2 b (ne_of_none e h1) (ne_of_none e h2)]; exact e
  have l1 : Le w { w with me := some q } := ⟨Same.refl _, fun _ _ h => h⟩
  have rb1 : RB g { w with me := some q } B H2 := rb.keep l1 rfl (fun b u e => hk b u (rb.sub b u e)) hk rb.np rb.nt
  have rl := r.len
  have st : L2.start N (V.ref q :: ws) = some (V.ref q) :: (ws.map some ++ List.replicate (N.length - (n + 1)) Option.none) := by
    unfold L2.start
    rw [List.map_cons, List.cons_append, List.length_cons, rl, hn]
  have tl : ∀ {j : Nat} {fl : Bool} {d : D}, (ds.map (fun d => some (false, d)) ++ List.replicate (N.length - (n + 1)) Option.none)[j]? = some (some (fl, d)) → fl = false ∧ ds[j]? = some d := fun {j fl d} h => by
    by_cases hj : j < ds.length
    · rw [List.getElem?_append_left (by simpa using hj), List.getElem?_map] at h
      cases z : ds[j]? with
      | none => rw [z] at h; cases h
      | some d' => rw [z] at h; cases h; exact ⟨rfl, rfl⟩
    · rw [List.getElem?_append_right (by simp; omega), List.getElem?_replicate] at h
      split at h <;> cases h
  refine ⟨⟨rb1, by rw [st]; simp [rl], fun i d h => ?_, fun i d h => ?_, fun i j d e' a q1 q2 _ _ => ?_, fun i c' es' a q1 q2 => ?_⟩, ⟨Le.refl _, fun b o e _ _ => hk b o e, fun b o e => .inl e, fun b a e => .inl e, fun b e z => e (by
    cases y : H b with
    | none => rfl
    | some u => rw [hk b u y] at z; cases z), rfl⟩⟩
  · rw [st]
    match i, h with
    | 0, h => cases h
    | j + 1, h =>
      obtain ⟨_, hd⟩ := tl (j := j) h
      obtain ⟨v, e1, rv⟩ := Reps.get r hd
      refine ⟨v, ?_, Rep.mono l1 _ _ rv⟩
      have hj : j < ws.length := (List.getElem?_eq_some_iff.mp e1).1
      rw [List.getElem?_cons_succ, List.getElem?_append_left (by simpa using hj), List.getElem?_map, e1]; rfl
  · rw [st]
    match i, h with
    | 0, h =>
      cases h
      refine ⟨q, _, rfl, eq, ?_, rb.fresh_P h1, fun n => rb.fresh_io h1 n, h1⟩
      simp only [Cont]
      exact ⟨dx, [], by simp, Nat.zero_le _, hh, by simp only [Reps]⟩
    | j + 1, h => exact absurd (tl (j := j) h).1 (by decide)
  · match i, j, q1, q2 with
    | 0, 0, _, _ => rfl
    | 0, j + 1, _, h => exact absurd (tl (j := j) h).1 (by decide)
    | i + 1, _, h, _ => exact absurd (tl (j := i) h).1 (by decide)
  · match i, q1 with
    | 0, _ => rw [st] at q2; cases q2; rfl
    | i + 1, h => exact absurd (tl (j := i) h).1 (by decide)
/-! ### C(k = v, ..) -/
end
end Hf

set_option Elab.async false
set_option linter.all false
set_option maxRecDepth 100000
set_option maxHeartbeats 8000000
namespace Hf
open PySem PySem.Spec PyProof.Rows L2

/-! ### defaults and names of an __init__, classes among each other -/
theorem init_ok {g : Gs} {c k : Nat} {q qual : Str} {st : Stmt} {fa : Addr} {fd : FuncData} {N ps : List Str} {n : Nat} {b : Ms} (F : L2.Fun g.K q qual st fa fd) (S : FnScope N ps (defScope st)) (hn : ps.length = n + 1) (hN : n + 1 ≤ N.length) (hh : g.has c = true)
    (fx : Fx g) (hb : ∀ (E : XK) (w0 : Wd) (H0 : Hp) (X : Cx), OkC g E k X → PassesOwn (model X.prog X.w) X.A X.env X.xe → L2N.Takes X (fun cls d _ H => E cls d H) → X.N = N → X.env.scope = defScope st → X.fn = (fun _ => true) → SndB g E w0 H0 X (defBody st) b) :
    FnOk g.prog g.w g.K g.mg g.base (L2N.CX g.prog g.w) (k + 1) fa fd ps (spI g c (mkIni c n N.length b)) := by
  refine F.okN S (fun vs H Q E h => ?_) (fun cdv A outer s H vs Q E hr h => ?_)
  · obtain ⟨q, dx, ws, H1, w, ds, B, rfl, rfl, h1, h2, h3, rb, r, p⟩ := h
    unfold mkIni at p
    split at p
    · rename_i e; rw [List.length_cons, r.len, e, hn]
    · exact p.elim
  · obtain ⟨q, dx, ws, H1, w, ds, B, rfl, rfl, h1, h2, h3, rb, r, p⟩ := h
    unfold mkIni at p
    split at p
    · rename_i e
      refine ⟨_, hb E { w with me := some q } H1 _ ⟨⟨rfl, rfl, rfl, ?_, rfl, rfl, rfl, fx⟩, hr, ?_⟩ (passes_of rfl) (L2N.takes_of rfl rfl rfl rfl) rfl rfl rfl, ?_⟩
      · have := hr.un; show A.units + 3 + 100 < cLine; have h2 : A.units + 3 + 16 * k + 200 < cLine := this; omega
      · exact L2N.passes_call (L2N.takes_of rfl rfl rfl rfl) (fun _ _ _ _ h => h)
      · obtain ⟨s1, x1⟩ := start_ini (c := c) e hN hh rb r h1 h2 h3
        refine ⟨_, _, B, s1, x1, ?_⟩
        have z := fin_go h1 p
        refine PostS.le ?_ z
        exact ⟨Same.refl _, fun _ _ h => h⟩
    · exact p.elim
end Hf

set_option Elab.async false
set_option linter.all false
set_option maxRecDepth 100000
set_option maxHeartbeats 8000000
namespace Hf
open PySem PySem.Spec PyProof.Rows L2

/-! ### a box compared by what it holds -/
section
variable {g : Gs} {E : XK} {H0 : Hp} {X : Cx}
end
end Hf

set_option Elab.async false
set_option linter.all false
set_option maxRecDepth 100000
namespace Hf
open PySem PySem.Spec PyProof.Rows L2

/-! ### the meanings, run on plain data -/
@[simp] theorem z_mSkip (σ : Sl) (B : Bs) : mSkip σ B = .next σ B := (rfl)
@[simp] theorem z_mSeq (m1 m2 : Ms) (σ : Sl) (B : Bs) : mSeq m1 m2 σ B = (m1 σ B).seq m2 := (rfl)
@[simp] theorem z_mRet (m : Ev) (σ : Sl) (B : Bs) : mRet m σ B = (m σ B).st fun d B1 => .ret d B1 := (rfl)
@[simp] theorem z_mDo (m : Ev) (σ : Sl) (B : Bs) : mDo m σ B = (m σ B).st fun _ B1 => .next σ B1 := (rfl)
@[simp] theorem z_mIf (t : Et) (m1 m2 : Ms) (σ : Sl) (B : Bs) : mIf t m1 m2 σ B = (t σ B).st fun k B1 => if k then m1 σ B1 else m2 σ B1 := (rfl)
@[simp] theorem z_mSet (i : Nat) (m : Ev) (σ : Sl) (B : Bs) : mSet i m σ B = (m σ B).st fun d B1 => .next (σ.set i (some (false, d))) B1 := (rfl)
@[simp] theorem z_mSetO (i : Nat) (m : Ev) (σ : Sl) (B : Bs) : mSetO i m σ B = (m σ B).st fun d B1 => .next (σ.set i (some (true, d))) B1 := (rfl)
@[simp] theorem z_mFrz (i : Nat) (m : Ms) (σ : Sl) (B : Bs) : mFrz i m σ B = match frz i σ with
  | some σ' => m σ' B
  | Option.none => .bad := (rfl)
@[simp] theorem z_mAsg (t : Tg) (m : Ev) (σ : Sl) (B : Bs) : mAsg t m σ B = (m σ B).st fun d B1 => match t d σ with
  | some σ' => .next σ' B1
  | Option.none => .bad := (rfl)
@[simp] theorem z_gN (i : Nat) (d : D) (σ : Sl) : gN i d σ = some (σ.set i (some (false, d))) := (rfl)
@[simp] theorem z_gT (t : Tgs) (d : D) (σ : Sl) : gT t d σ = match d with
  | .tup ds => t ds σ
  | .prs ds => t ds σ
  | _ => Option.none := (rfl)
@[simp] theorem z_gs0 (ds : List D) (σ : Sl) : gs0 ds σ = match ds with
  | [] => some σ
  | _ => Option.none := (rfl)
@[simp] theorem z_gsC (t : Tg) (u : Tgs) (ds : List D) (σ : Sl) : gsC t u ds σ = match ds with
  | d :: r => (t d σ).bind fun σ' => u r σ'
  | [] => Option.none := rfl
@[simp] theorem z_mVar (i : Nat) (σI : Sl) (B : Bs) : mVar i σI B = match σI[i]? with
  | some (some (false, d)) => .ok d B
  | _ => .bad := rfl
@[simp] theorem z_mBor (i : Nat) (σI : Sl) (B : Bs) : mBor i σI B = match σI[i]? with
  | some (some (_, d)) => .ok d B
  | _ => .bad := rfl
@[simp] theorem z_mC (d : D) (w0 : Sl) (B : Bs) : mC d w0 B = .ok d B := (rfl)
@[simp] theorem z_mBin (f : D → D → Bs → Rs D) (a b : Ev) (σI : Sl) (B : Bs) : mBin f a b σI B = (a σI B).bind fun x B1 => (b σI B1).bind fun y B2 => f x y B2 := (rfl)
@[simp] theorem z_mCmpT (f : D → D → Bs → Rs D) (ma mb : Ev) (σI : Sl) (B : Bs) : mCmpT f ma mb σI B = (ma σI B).bind fun x B1 => (mb σI B1).bind fun y B2 => toB (f x y B2) := (rfl)
@[simp] theorem z_mChain (f f' : D → D → Bs → Rs D) (ma mb mc : Ev) (σI : Sl) (B : Bs) : mChain f f' ma mb mc σI B = (ma σI B).bind fun x B1 => (mb σI B1).bind fun y B2 => (toB (f x y B2)).bind fun k B3 =>
  if k then (mc σI B3).bind fun z B4 => f' y z B4 else .ok (.bool false) B3 := rfl
@[simp] theorem z_mChainT (f f' : D → D → Bs → Rs D) (ma mb mc : Ev) (σI : Sl) (B : Bs) : mChainT f f' ma mb mc σI B = (ma σI B).bind fun x B1 => (mb σI B1).bind fun y B2 => (toB (f x y B2)).bind fun k B3 =>
  if k then (mc σI B3).bind fun z B4 => toB (f' y z B4) else .ok false B3 := rfl
@[simp] theorem z_mT (m : Ev) (σI : Sl) (B : Bs) : mT m σI B = (m σI B).bind fun d B1 => tru d B1 := (rfl)
@[simp] theorem z_mNotT (t : Et) (σI : Sl) (B : Bs) : mNotT t σI B = (t σI B).bind fun k B1 => .ok (!k) B1 := (rfl)
@[simp] theorem z_mOrT (t u : Et) (σI : Sl) (B : Bs) : mOrT t u σI B = (t σI B).bind fun k B1 => if k then .ok true B1 else u σI B1 := (rfl)
@[simp] theorem z_mAnd (ma mb : Ev) (σI : Sl) (B : Bs) : mAnd ma mb σI B = (ma σI B).bind fun d B1 => (tru d B1).bind fun k _ => if k then mb σI B1 else .ok d B1 := (rfl)
@[simp] theorem z_mNot (ma : Ev) (σI : Sl) (B : Bs) : mNot ma σI B = (ma σI B).bind fun d B1 => (tru d B1).bind fun k _ => .ok (.bool (!k)) B1 := (rfl)
@[simp] theorem z_mIte (t : Et) (ma mb : Ev) (σI : Sl) (B : Bs) : mIte t ma mb σI B = (t σI B).bind fun k B1 => if k then ma σI B1 else mb σI B1 := (rfl)
@[simp] theorem z_mNeg (ma : Ev) (σI : Sl) (B : Bs) : mNeg ma σI B = (ma σI B).bind fun d B1 => match d with
  | .int i => .ok (.int (-i)) B1
  | _ => .bad := rfl
@[simp] theorem z_mNil (w0 : Sl) (B : Bs) : mNil w0 B = .ok [] B := (rfl)
@[simp] theorem z_mCons (m : Ev) (ms : Evs) (σI : Sl) (B : Bs) : mCons m ms σI B = (m σI B).bind fun d B1 => (ms σI B1).bind fun ds B2 => .ok (d :: ds) B2 := (rfl)
@[simp] theorem z_mStar (m : Ev) (ms : Evs) (σI : Sl) (B : Bs) : mStar m ms σI B = (m σI B).bind fun d B1 => match seqOf d with
  | some ds => (ms σI B1).bind fun es B2 => .ok (ds ++ es) B2
  | Option.none => .bad := (rfl)
@[simp] theorem z_mTup (ms : Evs) (σI : Sl) (B : Bs) : mTup ms σI B = (ms σI B).bind fun ds B1 => if szL ds then .ok (.tup ds) B1 else .bad := (rfl)
@[simp] theorem z_mLst (ms : Evs) (σI : Sl) (B : Bs) : mLst ms σI B = (ms σI B).bind fun ds B1 => if szL ds then .ok (.lst ds) B1 else .bad := (rfl)
@[simp] theorem z_mSl10 (m ml : Ev) (σI : Sl) (B : Bs) : mSl10 m ml σI B = (m σI B).bind fun d B1 => (ml σI B1).bind fun l B2 => (asI l B2).bind fun i B3 => fSl d (some i) none B3 := (rfl)
@[simp] theorem z_mSl01 (m mh : Ev) (σI : Sl) (B : Bs) : mSl01 m mh σI B = (m σI B).bind fun d B1 => (mh σI B1).bind fun l B2 => (asI l B2).bind fun i B3 => fSl d none (some i) B3 := (rfl)
@[simp] theorem z_mSl11 (m ml mh : Ev) (σI : Sl) (B : Bs) : mSl11 m ml mh σI B = (m σI B).bind fun d B1 => (ml σI B1).bind fun l B2 => (asI l B2).bind fun i B3 => (mh σI B3).bind fun h B4 => (asI h B4).bind fun j B5 => fSl d (some i) (some j) B5 := (rfl)
@[simp] theorem z_m1 (k : D → Bs → Rs D) (m : Ev) (σI : Sl) (B : Bs) : m1 k m σI B = (m σI B).bind k := (rfl)
@[simp] theorem z_mItems (m : Ev) (σ : Sl) (B : Bs) : mItems m σ B = (m σ B).bind fun d B1 => match itemsOf d with
  | some ds => .ok ds B1
  | Option.none => .bad := (rfl)
@[simp] theorem z_mRng1 (m : Ev) (σ : Sl) (B : Bs) : mRng1 m σ B = (m σ B).bind fun d B1 => (asI d B1).bind fun n B2 => if rngB n then .ok (rngD 0 n.toNat) B2 else .bad := (rfl)
@[simp] theorem z_mYes (w0 : Sl) (B : Bs) : mYes w0 B = .ok true B := (rfl)
@[simp] theorem z_mCall (f : Fn) (dfl : List D) (ms : Evs) (σ : Sl) (B : Bs) : mCall f dfl ms σ B = (ms σ B).bind fun ds B1 => f (ds ++ dfl) B1 := (rfl)
@[simp] theorem z_mBad (w0 : Sl) (w1 : Bs) : mBad w0 w1 = .bad := (rfl)
@[simp] theorem z_mFld (c j : Nat) (m : Ev) (σ : Sl) (B : Bs) : mFld c j m σ B = (m σ B).bind fun d B1 => match d with
  | .inst c' ds => if c' = c then okIf ds[j]? B1 else .bad
  | _ => .bad := rfl
@[simp] theorem z_mPrp (c : Nat) (f : Fn) (m : Ev) (σ : Sl) (B : Bs) : mPrp c f m σ B = (m σ B).bind (prpK c f) := (rfl)
@[simp] theorem z_mMakeS (f : Fn) (m : Ev) (σ : Sl) (B : Bs) : mMakeS f m σ B = (m σ B).bind fun d B1 => match d with
  | .tup ds => f ds B1
  | .lst ds => f ds B1
  | _ => .bad := rfl
@[simp] theorem z_mMakeV (i c : Nat) (f : Fn) (m : Ev) (σ : Sl) (B : Bs) : mMakeV i c f m σ B = match σ[i]? with
  | some (some (false, .cls c')) => if c' = c then mMakeS f m σ B else .bad
  | _ => .bad := rfl
@[simp] theorem z_mCMth (c : Nat) (f : Fn) (ms : Evs) (σ : Sl) (B : Bs) : mCMth c f ms σ B = (ms σ B).bind fun ds B1 => f (.cls c :: ds) B1 := (rfl)
@[simp] theorem z_bind_ok {α β : Type} (a : α) (B : Bs) (f : α → Bs → Rs β) : (Rs.ok a B).bind f = f a B := (rfl)
@[simp] theorem z_st_ok {α : Type} (a : α) (B : Bs) (f : α → Bs → Ss) : (Rs.ok a B).st f = f a B := (rfl)
@[simp] theorem z_seq_next (σ : Sl) (B : Bs) (k : Ms) : (Ss.next σ B).seq k = k σ B := (rfl)
@[simp] theorem z_seq_ret (d : D) (B : Bs) (k : Ms) : (Ss.ret d B).seq k = .ret d B := (rfl)
@[simp] theorem z_fin_next (σ : Sl) (B : Bs) : (Ss.next σ B).fin = .ok .none B := (rfl)
@[simp] theorem z_fin_ret (d : D) (B : Bs) : (Ss.ret d B).fin = .ok d B := (rfl)
@[simp] theorem z_toB (b : Bool) (B : Bs) : toB (.ok (.bool b) B) = .ok b B := (rfl)
@[simp] theorem z_tru_b (b : Bool) (B : Bs) : tru (.bool b) B = .ok b B := (rfl)
@[simp] theorem z_tru_i (i : Int) (B : Bs) : tru (.int i) B = .ok (i != 0) B := (rfl)
@[simp] theorem z_seq_t (ds : List D) : seqOf (.tup ds) = some ds := (rfl)
@[simp] theorem z_seq_l (ds : List D) : seqOf (.lst ds) = some ds := (rfl)
@[simp] theorem z_okIf (d : D) (B : Bs) : okIf (some d) B = .ok d B := (rfl)
@[simp] theorem z_asI (i : Int) (B : Bs) : asI (.int i) B = .ok i B := (rfl)
@[simp] theorem z_it_t (ds : List D) : itemsOf (.tup ds) = some ds := (rfl)
@[simp] theorem z_it_l (ds : List D) : itemsOf (.lst ds) = some ds := (rfl)
@[simp] theorem z_it_s (ds : List D) : itemsOf (.scr ds) = some ds := (rfl)
@[simp] theorem z_mkFn (n k : Nat) (b : Ms) (ds : List D) (B : Bs) : mkFn n k b ds B = if ds.length = n then (b (ds.map (fun d => some (false, d)) ++ List.replicate (k - n) Option.none) B).fin else .bad := (rfl)
@[simp] theorem z_prpK (c : Nat) (f : Fn) (ds : List D) (B : Bs) : prpK c f (.inst c ds) B = noX (f [.inst c ds] B) := by simp [prpK]
@[simp] theorem z_noX {α : Type} (a : α) (B : Bs) : noX (.ok a B) = .ok a B := (rfl)
@[simp] theorem z_isIi (i : Int) : isB .int (.int i) = some true := (rfl)
@[simp] theorem z_isBi (i : Int) : isB .bool (.int i) = some false := (rfl)
@[simp] theorem z_isTt (ds : List D) : isB .tuple (.tup ds) = some true := (rfl)
@[simp] theorem z_isSs (x : Str) : isB .str (.str x) = some true := (rfl)
@[simp] theorem z_isC (c : Nat) (ds : List D) : isC c (.inst c ds) = some true := by simp [isC, subC]
@[simp] theorem z_mIsB (T : Bt) (m : Ev) (σ : Sl) (B : Bs) : mIsB T m σ B = (m σ B).bind fun d B => match isB T d with
  | some r => .ok (.bool r) B
  | Option.none => .bad := (rfl)
@[simp] theorem z_mIsC (c : Nat) (m : Ev) (σ : Sl) (B : Bs) : mIsC c m σ B = (m σ B).bind fun d B => match isC c d with
  | some r => .ok (.bool r) B
  | Option.none => .bad := (rfl)
@[simp] theorem z_frz (i : Nat) (σ : Sl) : frz i σ = match σ[i]? with
  | some (some (true, .inst _ _)) => Option.none
  | some (some (_, d)) => some (σ.set i (some (false, d)))
  | _ => Option.none := (rfl)
@[simp] theorem z_fSub (i j : Int) (B : Bs) : fSub (.int i) (.int j) B = .ok (.int (i - j)) B := (rfl)
@[simp] theorem z_fAddI (i j : Int) (B : Bs) : fAdd (.int i) (.int j) B = .ok (.int (i + j)) B := (rfl)
theorem z_fMod (i j : Int) (B : Bs) (h : 0 < j) : fMod (.int i) (.int j) B = .ok (.int (i % j)) B := by simp [fMod, fI2, h]
theorem z_fDiv (i j : Int) (B : Bs) (h : 0 < j) (h2 : j < 1073741824) : fDiv (.int i) (.int j) B = .ok (.int (i / j)) B := by simp [fDiv, fI2, h, h2]
theorem z_fMulI (i j : Int) (B : Bs) (h : (wideB i || wideB j) = true) : fMul (.int i) (.int j) B = .ok (.int (i * j)) B := by simp [fMul, h]
theorem wide_of {i : Int} (h : -(2 ^ 64) < i) (h2 : i < 2 ^ 64) : wideB i = true := by simp [wideB]; omega
@[simp] theorem z_fLt (i j : Int) (B : Bs) : fLt (.int i) (.int j) B = .ok (.bool (decide (i < j))) B := (rfl)
@[simp] theorem z_fLe (i j : Int) (B : Bs) : fLe (.int i) (.int j) B = .ok (.bool (decide (i ≤ j))) B := (rfl)
@[simp] theorem z_fGt (i j : Int) (B : Bs) : fGt (.int i) (.int j) B = .ok (.bool (decide (j < i))) B := (rfl)
@[simp] theorem z_fMax2 (i j : Int) (B : Bs) : fMax2 (.int i) (.int j) B = .ok (.int (if j > i then j else i)) B := (rfl)
@[simp] theorem z_fMin2 (i j : Int) (B : Bs) : fMin2 (.int i) (.int j) B = .ok (.int (if j < i then j else i)) B := (rfl)
@[simp] theorem z_lenT (ds : List D) (B : Bs) : fLen (.tup ds) B = .ok (.int ds.length) B := (rfl)
@[simp] theorem z_lenL (ds : List D) (B : Bs) : fLen (.lst ds) B = .ok (.int ds.length) B := (rfl)
@[simp] theorem z_lenS (ds : List D) (B : Bs) : fLen (.scr ds) B = .ok (.int ds.length) B := (rfl)
@[simp] theorem z_tupL (ds : List D) (B : Bs) : fTupO (.lst ds) B = .ok (.tup ds) B := (rfl)
@[simp] theorem z_tupT (ds : List D) (B : Bs) : fTupO (.tup ds) B = .ok (.tup ds) B := (rfl)


theorem lcL_map {α : Type} {t : Tg} {mt : Et} {me : Ev} {σ : Sl} {B : Bs} (F G : α → D) : (xs : List α) → (h : ∀ x ∈ xs, ∃ σ', t (F x) σ = some σ' ∧ mt σ' B = .ok true B ∧ me σ' B = .ok (G x) B) →
    lcL t mt me σ (xs.map F) B = .ok (xs.map G) B
  | [], _ => rfl
  | x :: xs, h => by
    obtain ⟨σ', h1, h2, h3⟩ := h x (List.mem_cons_self ..)
    have ih := lcL_map (t := t) (mt := mt) (me := me) (σ := σ) (B := B) F G xs fun y hy => h y (List.mem_cons_of_mem _ hy)
    simp [lcL, h1, h2, h3, ih]
theorem mLc_map {α : Type} {vs : List Nat} {i : Nat} {mi : Ei} {me : Ev} {σ : Sl} {B : Bs} {ds : List D} (F G : α → D) (xs : List α) (hi : mi σ B = .ok ds B) (hd : ds = xs.map F) (hl : xs.length ≤ sizeLine)
    (h : ∀ x ∈ xs, me ((wipeI σ vs).set i (some (false, F x))) B = .ok (G x) B) : mLc vs (gN i) mi mYes me σ B = .ok (.lst (xs.map G)) B := by
  subst hd
  have := lcL_map (t := gN i) (mt := mYes) (me := me) (σ := wipeI σ vs) (B := B) F G xs fun x hx => ⟨_, rfl, rfl, h x hx⟩
  simp [mLc, hi, this, szL, hl]
/-- a comprehension that changes boxes: what is known of each value and of the boxes is kept -/
theorem lcL_inv {t : Tg} {me : Ev} {σ : Sl} {N : Nat} (I : Bs → List D → Prop) : (ds : List D) → (B : Bs) → (acc : List D) → acc.length + ds.length = N → (h : ∀ d ∈ ds, ∀ B acc, acc.length < N → I B acc → ∃ σ', t d σ = some σ' ∧ ∃ e B', me σ' B = .ok e B' ∧ I B' (acc ++ [e])) → I B acc →
    ∃ es B', lcL t mYes me σ ds B = .ok es B' ∧ I B' (acc ++ es) ∧ es.length = ds.length
  | [], B, acc, _, _, hI => ⟨[], B, rfl, by simpa using hI, rfl⟩
  | d :: ds, B, acc, hN, h, hI => by
    obtain ⟨σ', h1, e, B1, h2, h3⟩ := h d (List.mem_cons_self ..) B acc (by simp at hN; omega) hI
    obtain ⟨es, B2, h4, h5, h6⟩ := lcL_inv (t := t) (me := me) (σ := σ) (N := N) I ds B1 (acc ++ [e]) (by simp at hN ⊢; omega) (fun d hd => h d (List.mem_cons_of_mem _ hd)) h3
    exact ⟨e :: es, B2, by simp [lcL, h1, h2, h4], by simpa using h5, by simp [h6]⟩
theorem mLc_inv {vs : List Nat} {i : Nat} {mi : Ei} {me : Ev} {σ : Sl} {B : Bs} {ds : List D} (I : Bs → List D → Prop) (hi : mi σ B = .ok ds B) (hl : ds.length ≤ sizeLine) (h0 : I B [])
    (h : ∀ d ∈ ds, ∀ B acc, acc.length < ds.length → I B acc → ∃ e B', me ((wipeI σ vs).set i (some (false, d))) B = .ok e B' ∧ I B' (acc ++ [e])) : ∃ es B', mLc vs (gN i) mi mYes me σ B = .ok (.lst es) B' ∧ I B' es ∧ es.length = ds.length := by
  obtain ⟨es, B', h1, h2, h3⟩ := lcL_inv (t := gN i) (me := me) (σ := wipeI σ vs) (N := ds.length) I ds B [] (by simp) (fun d hd B acc hn hI => ⟨_, rfl, h d hd B acc hn hI⟩) h0
  exact ⟨es, B', by simp [mLc, hi, h1, szL, h3, hl], by simpa using h2, h3⟩
theorem forL_inv {t : Tg} {b : Ms} (I : Nat → Sl → Bs → Prop) : (ds : List D) → (n : Nat) → (σ : Sl) → (B : Bs) → (h : ∀ i d σ B, ds[i]? = some d → I (n + i) σ B → ∃ σ', t d σ = some σ' ∧ ∃ σ'' B'', b σ' B = .next σ'' B'' ∧ I (n + i + 1) σ'' B'') → I n σ B →
    ∃ σ' B', forL t b ds σ B = .next σ' B' ∧ I (n + ds.length) σ' B'
  | [], n, σ, B, _, hI => ⟨σ, B, rfl, hI⟩
  | d :: ds, n, σ, B, h, hI => by
    obtain ⟨σ', h1, σ2, B2, h2, h3⟩ := h 0 d σ B rfl hI
    obtain ⟨σ3, B3, h4, h5⟩ := forL_inv (t := t) (b := b) I ds (n + 1) σ2 B2 (fun i d σ B hd hI => by
      have e : n + 1 + i = n + (i + 1) := by omega
      rw [e] at hI ⊢
      exact h (i + 1) d σ B (by simpa using hd) hI) h3
    refine ⟨σ3, B3, by simp [forL, h1, h2, h4], ?_⟩
    have e : n + 1 + ds.length = n + (d :: ds).length := by simp; omega
    rwa [e] at h5
theorem rngD_get {a : Int} {n i : Nat} {d : D} (h : (rngD a n)[i]? = some d) : d = .int (a + (i : Nat)) ∧ i < n := by
  simp only [rngD, List.getElem?_map, Option.map_eq_some_iff] at h
  obtain ⟨j, h1, h2⟩ := h
  obtain ⟨h3, h4⟩ := List.getElem?_eq_some_iff.mp h1
  simp at h3 h4; subst h4; exact ⟨h2.symm, h3⟩
theorem rngD_mem {a : Int} {n : Nat} {d : D} (h : d ∈ rngD a n) : ∃ i : Nat, d = .int (a + (i : Nat)) ∧ i < n := by
  obtain ⟨i, h1⟩ := List.getElem?_of_mem h
  exact ⟨i, rngD_get h1⟩
theorem size_big : (1000000 : Nat) ≤ sizeLine := by decide
end Hf

set_option Elab.async false
set_option linter.all false
set_option maxRecDepth 100000
set_option maxHeartbeats 4000000
namespace Hf
open PySem PySem.Spec PyProof.Rows L2

/-! ### own exceptions without fields: raise -/
section
variable {g : Gs} {E : XK} {w0 w : Wd} {H0 H : Hp} {X : Cx} {e o a b : Expr} {es : List Expr} {m ma mb mo : Ev} {pos p p1 p2 pos2 apos cpos : Pos} {x : Str} {lv c : Nat} {b1 b2 : Bool}
end
/-! ### what is told of the exceptions' classes -/
def excL : List Nat := [11, 12, 13, 14, 15, 16, 17, 18, 19, 20, 21, 22, 23, 24, 25, 26, 27, 28]
structure FxE (g : Gs) (R : List Nat) : Prop where
  le : ∀ c ∈ R, c ∈ ([11, 12, 13, 14, 15, 16, 17, 18, 19, 20, 21, 22, 23, 24, 25, 26, 28] : List Nat)
  is : ∀ c ∈ R, L2.ExcC g.K (g.cl c)
  sub : ∀ c ∈ R, ∀ d ∈ excL, PySem.W.kitOne g.K (.ref (g.cl c)) (.ref (g.cl d)) = some (c == d)
  ve : ∀ c ∈ R, PySem.W.kitOne g.K (.ref (g.cl c)) (.type "ValueError") = some true
  rd : ∀ c ∈ R, PySem.W.exmOne g.K (.ref (g.cl c)) (.ref (g.cl 10)) = some true
  kd : ∀ c ∈ R, PySem.W.findIn g.K (.ref (g.cl c)) "kind" = some none
  nv : g.mg "ValueError" = Option.none
/-! ### where an exception is handled -/
structure OkB (g : Gs) (X : Cx) : Prop where
  K : X.K = g.K
  mg : X.mg = g.mg
  un : X.A.units + 100 < cLine
  prog : X.prog = g.prog
  w : X.w = g.w
  base : X.base = g.base
  fx : Fx g
/-- the exception at a, of class c, is pinned -/
structure OkW (g : Gs) (R : List Nat) (X : Cx) (c : Nat) (a : Addr) (po : Option Addr) : Prop extends OkB g X where
  fe : FxE g R
  mem : c ∈ R
  pin : ∃ oe, (a, oe) ∈ X.pn ∧ Zc (.ref (g.cl c)) po oe ∧ ∃ vs, oe.data = .fields vs
/-! ### l.count(x) -/
section
variable {g : Gs} {R : List Nat} {E : XK} {w0 w : Wd} {H0 H : Hp} {X : Cx} {e o a b : Expr} {es : List Expr} {m ma mb mo : Ev} {pos p p1 p2 pos2 apos cpos : Pos} {x : Str} {lv c d : Nat} {ea : Addr} {b1 b2 : Bool}
end
/-! ### the meaning of _law_word: c the class, a the place -/
end Hf

set_option Elab.async false
set_option linter.all false
set_option maxRecDepth 100000
set_option maxHeartbeats 4000000
namespace Hf
open PySem PySem.Spec PyProof.Rows L2

end Hf

set_option Elab.async false
set_option linter.all false
set_option maxRecDepth 100000
set_option maxHeartbeats 4000000
namespace Hf
open PySem PySem.Spec PyProof.Rows L2

/-! ### _law_word: told of the exception that is handled -/
/-- the dict of an exception, known to the world -/
theorem RB.xd {g : Gs} {w : Wd} {B : Bs} {H : Hp} {dd : Addr} {fs : List (Str × V)} (rb : RB g w B H) (h : H dd = some (.xd fs)) : RB g { w with P := upd w.P dd (.xd fs) } B H ∧ Le w { w with P := upd w.P dd (.xd fs) } ∧ Ext w H { w with P := upd w.P dd (.xd fs) } H := by
  have np : ∀ o, w.P dd = some o → o = .xd fs := fun o e => by
    have z := rb.sub dd o e
    rw [h] at z
    exact (Option.some.inj z).symm
  have l : Le w { w with P := upd w.P dd (.xd fs) } := ⟨fun b o e => by
    show upd w.P dd (.xd fs) b = some o
    by_cases hb : b = dd
    · subst hb
      rw [upd_same, np o e]
    · rw [upd_ne hb]; exact e, fun _ _ e => e⟩
  have hnt : ∀ b ps, upd w.P dd (.xd fs) b ≠ some (.tbl ps) := fun b ps e => by
    by_cases hb : b = dd
    · subst hb; rw [upd_same] at e; cases e
    · rw [upd_ne hb] at e; exact rb.nt b ps e
  have hio : ∀ n a, w.io n = some a → a ≠ dd := fun n a e z => by
    obtain ⟨b, hb⟩ : ∃ b, B[n]? = some b := ⟨_, List.getElem?_eq_getElem (rb.dom n a e)⟩
    obtain ⟨a', o, q1, q2, q3⟩ := rb.get n b hb
    rw [e] at q1
    cases q1
    rw [z, h] at q2
    exact q3.nt.x fs (Option.some.inj q2).symm
  refine ⟨rb.keep l rfl (fun b o e => ?_) (Same.refl _) (fun n a e => ?_) hnt, l, ⟨l, fun _ _ h _ _ => h, fun b o e => ?_, fun _ _ h => .inl h, fun _ h => h, rfl⟩⟩
  · have e : upd w.P dd (.xd fs) b = some o := e
    by_cases hb : b = dd
    · subst hb; rw [upd_same] at e; rw [← e]; exact h
    · rw [upd_ne hb] at e; exact rb.sub b o e
  · show upd w.P dd (.xd fs) a = Option.none
    rw [upd_ne (hio n a e)]
    exact rb.np n a e
  · have e : upd w.P dd (.xd fs) b = some o := e
    by_cases hb : b = dd
    · subst hb; rw [upd_same] at e; cases e; exact .inr (.inr (.inr ⟨_, rfl⟩))
    · rw [upd_ne hb] at e; exact .inl e
end Hf

set_option Elab.async false
set_option linter.all false
set_option maxRecDepth 100000
set_option maxHeartbeats 4000000
namespace Hf
open PySem PySem.Spec PyProof.Rows L2

/-! ### a lambda is made; what was there is there -/
section
variable {X : Cx} {pins : List (Addr × Obj)} {σ : L2.St} {H : Hp} {s : Shared}
end
end Hf

set_option Elab.async false
set_option linter.all false
set_option maxRecDepth 100000
set_option maxHeartbeats 4000000
namespace Hf
open PySem PySem.Spec PyProof.Rows L2

/-! ### _law_said(lambda: ..) -/
end Hf

set_option Elab.async false
set_option linter.all false
set_option maxRecDepth 100000
set_option maxHeartbeats 4000000
namespace Hf
open PySem PySem.Spec PyProof.Rows L2

theorem OkG.mono {g : Gs} {E : XK} {lv k : Nat} {X : Cx} (c : OkG g E lv X) (h : k ≤ lv) : OkG g E k X := ⟨⟨c.toOk, c.room.mono h, c.hx⟩, c.gd⟩
/-! ### a def that holds lambdas -/
/-! ### the end: empty tables stand, the script is laid -/
end Hf

set_option Elab.async false
set_option linter.all false
set_option maxRecDepth 100000
set_option maxHeartbeats 4000000
namespace Hf
open PySem PySem.Spec PyProof.Rows L2
theorem fRepr_ok {d : D} (h : reprOk d = true) (B : Bs) : fRepr d B = .ok (.str (toPy d).shown) B := by
  cases d <;> first
    | (unfold fRepr; simp only [h, if_true]; done)
    | (exfalso; unfold reprOk at h; simp only [Bool.false_and] at h; cases h)
@[simp] theorem z_fReprI (i : Int) (B : Bs) : fRepr (.int i) B = if decide (i.natAbs.log2 < 1920) then .ok (.str (PyData.shown (.int i))) B else .bad := (rfl)
@[simp] theorem z_fReprB (b : Bool) (B : Bs) : fRepr (.bool b) B = .ok (.str (PyData.shown (.bool b))) B := (rfl)
@[simp] theorem z_fReprN (B : Bs) : fRepr .none B = .ok (.str (PyData.shown .none)) B := (rfl)
@[simp] theorem z_fReprE (B : Bs) : fRepr (.dct [] []) B = .ok (.str (PyData.shown (.dict []))) B := (rfl)
@[simp] theorem z_fin_exc (c : Nat) (x : Option D) (B : Bs) : (Ss.exc c x B).fin = .exc c x B := (rfl)
@[simp] theorem z_bind_exc {α β : Type} (c : Nat) (x : Option D) (B : Bs) (f : α → Bs → Rs β) : (Rs.exc c x B : Rs α).bind f = .exc c x B := (rfl)
@[simp] theorem z_st_exc {α : Type} (c : Nat) (x : Option D) (B : Bs) (f : α → Bs → Ss) : (Rs.exc c x B : Rs α).st f = .exc c x B := (rfl)
@[simp] theorem z_seq_exc (c : Nat) (x : Option D) (B : Bs) (k : Ms) : (Ss.exc c x B).seq k = .exc c x B := (rfl)
end Hf

set_option Elab.async false
set_option linter.all false
set_option maxRecDepth 100000
set_option maxHeartbeats 4000000
namespace Hf
open PySem PySem.Spec PyProof.Rows L2

/-! ### f-strings -/
section
variable {g : Gs} {E : XK} {w0 w : Wd} {H0 H : Hp} {X : Cx} {e : Expr} {es : List Expr} {m : Ev} {pos p1 : Pos} {lv k c : Nat} {f : Fn} {σI : Sl} {σ : L2.St} {B : Bs} {Q : VK} {b1 : Bool}
/-! ### repr(x), also of an own instance -/
end
end Hf

set_option Elab.async false
set_option linter.all false
set_option maxRecDepth 100000
set_option maxHeartbeats 4000000
namespace Hf
open PySem PySem.Spec PyProof.Rows L2
section
variable {g : Gs} {E : XK} {H0 : Hp} {X : Cx} {a b : Expr} {ma mb : Ev} {pos p p2 p3 : Pos} {b1 b2 : Bool}
variable {lv k c : Nat} {x : Str} {f : Fn}
end
end Hf

set_option Elab.async false
set_option linter.all false
set_option maxRecDepth 100000
set_option maxHeartbeats 4000000
namespace Hf
open PySem PySem.Spec PyProof.Rows L2
/-! ### data with empty dicts inside, read -/
mutual
def rdB : D → Bool
  | .none => true
  | .bool _ => true
  | .int _ => true
  | .str _ => true
  | .tup ds => rdBs ds
  | .lst ds => rdBs ds
  | .dct ks vs => ks.isEmpty && vs.isEmpty
  | .kd _ _ => true
  | _ => false
def rdBs : List D → Bool
  | [] => true
  | d :: ds => rdB d && rdBs ds
end
mutual
/-- no list inside -/
def noL : D → Bool
  | .lst _ => false
  | .tup ds => noLs ds
  | _ => true
def noLs : List D → Bool
  | [] => true
  | d :: ds => noL d && noLs ds
end
section
variable {g : Gs} {w : Wd} {H : Hp} {X : Cx} {pins : List (Addr × Obj)} {σ : L2.St} {s : Shared}
mutual
theorem Rep.reads (I : Inv X pins σ H s) (hK : X.K = g.K) (hs : Same w.P H) : ∀ (d : D) (v : V) (u : Value), rdB d = true → Rep g w d v → RelV v u → ∃ as, Reads s.heap u (toPy d) as ∧ (noL d = true → sysModules ∉ as)
  | .none, v, u, _, h, r => by simp only [Rep] at h; subst h; cases r; exact ⟨_, .none, fun _ => by simp⟩
  | .bool b, v, u, _, h, r => by simp only [Rep] at h; subst h; cases r; exact ⟨_, .bool b, fun _ => by simp⟩
  | .int b, v, u, _, h, r => by simp only [Rep] at h; subst h; obtain ⟨t, rfl⟩ := r; exact ⟨_, .int b t, fun _ => by simp⟩
  | .str b, v, u, _, h, r => by simp only [Rep] at h; subst h; obtain ⟨t, rfl⟩ := r; exact ⟨_, .str b t, fun _ => by simp⟩
  | .tup ds, v, u, c, h, r => by
    simp only [Rep] at h
    obtain ⟨a, vs, rfl, q, rr⟩ := h
    cases r
    obtain ⟨its, rv, ⟨o, ho, hc, n, hd⟩, _⟩ := I.tuple (hK ▸ sqT_mono hs q.T)
    obtain ⟨as, hr, hn⟩ := Reps.reads I hK hs ds vs its (by simpa only [rdB] using c) rr rv
    exact ⟨_, by simp only [toPy]; exact Reads.tuple ho hc hd hr, fun z => hn (by simpa only [noL] using z)⟩
  | .lst ds, v, u, c, h, r => by
    simp only [Rep] at h
    obtain ⟨a, vs, rfl, q, rr⟩ := h
    cases r
    obtain ⟨its, rv, ⟨o, n, ho, hc, _, hd⟩, _⟩ := I.list (hK ▸ (.inl (.inl (hs _ _ q)) : SqL g.K H a vs))
    obtain ⟨as, hr, hn⟩ := Reps.reads I hK hs ds vs its (by simpa only [rdB] using c) rr rv
    exact ⟨_, by simp only [toPy]; exact Reads.list ho hc hd hr, fun z => by simp only [noL] at z; cases z⟩
  | .dct ks ds, v, u, c, h, r => by
    simp only [rdB, Bool.and_eq_true, List.isEmpty_iff] at c
    obtain ⟨rfl, rfl⟩ := c
    simp only [Rep] at h
    obtain ⟨a, xs, rfl, q, e, _, _⟩ := h
    cases r
    have hx : xs = [] := by
      cases xs with
      | nil => rfl
      | cons _ _ => simp at e
    subst hx
    obtain ⟨⟨hsm, _, _, _, ys, hp, o, es, ep, ho, hx, hd, he⟩, _, _⟩ := I.hok a _ (hs _ _ q)
    cases hp
    have hes : es.toList = [] := he
    exact ⟨_, by simp only [toPy]; exact Reads.dict ho hx.1 hd (by rw [hes]; exact .nil) (by rw [hes]; exact .nil), fun _ z => by
      simp at z
      subst z
      simp at hsm⟩
  | .scr ds, v, u, c, h, r => by cases c
  | .prs ds, v, u, c, h, r => by cases c
  | .inst k ds, v, u, c, h, r => by cases c
  | .box n, v, u, c, h, r => by cases c
  | .cls n, v, u, c, h, r => by cases c
  | .ptr n, v, u, c, h, r => by cases c
  | .fnT n, v, u, c, h, r => by cases c
  | .exo a dd f x, v, u, c, h, r => by cases c
  | .kd k x, v, u, c, h, r => by
    simp only [Rep] at h
    obtain ⟨a, rfl, q⟩ := h
    cases r
    obtain ⟨_, hsm, vs, rv, o, es, ep, ho, hx, hd, hk, hp, _⟩ := dk_of I.hok (hs _ _ q)
    cases rv with
    | @cons p0 q0 ps qs h1 h2 =>
      cases h2
      obtain ⟨kk, vv⟩ := q0
      obtain ⟨h3, h4⟩ := h1
      simp only at h3 h4
      subst h3
      obtain ⟨tv, rfl⟩ := h4
      generalize hes : es.toList = el at hp
      cases hp with
      | cons g1 g2 g3 =>
        cases g3
        rename_i en
        obtain ⟨tk, ek⟩ := Value.isInt_shape (k := k) (v := en.key) g1
        refine ⟨_, by simp only [toPy]; exact Reads.dict ho hx.1 hd (as := [] ++ []) (bs := [] ++ []) (by rw [hes]; simp only [List.map_cons, List.map_nil, ek]; exact .cons (.int k tk) .nil) (by rw [hes]; simp only [List.map_cons, List.map_nil, g2]; exact .cons (.int x tv) .nil), fun _ z => ?_⟩
        simp at z
        subst z
        simp at hsm
theorem Reps.reads (I : Inv X pins σ H s) (hK : X.K = g.K) (hs : Same w.P H) : ∀ (ds : List D) (vs : List V) (us : List Value), rdBs ds = true → Reps g w ds vs → Vals vs us → ∃ as, ReadsAll s.heap us (toPys ds) as ∧ (noLs ds = true → sysModules ∉ as)
  | [], vs, us, _, h, r => by simp only [Reps] at h; subst h; cases r; exact ⟨_, .nil, fun _ => by simp⟩
  | d :: ds, vs, us, c, h, r => by
    simp only [Reps] at h
    obtain ⟨v, vt, rfl, h1, h2⟩ := h
    simp only [rdBs, Bool.and_eq_true] at c
    cases r with
    | cons r1 r2 =>
      obtain ⟨as, q1, n1⟩ := Rep.reads I hK hs d v _ c.1 h1 r1
      obtain ⟨bs, q2, n2⟩ := Reps.reads I hK hs ds vt _ c.2 h2 r2
      exact ⟨_, by simp only [toPys]; exact .cons q1 q2, fun c z => by
        simp only [noLs, Bool.and_eq_true] at c
        exact (List.mem_append.mp z).elim (n1 c.1) (n2 c.2)⟩
end
end
end Hf

set_option Elab.async false
set_option linter.all false
set_option maxRecDepth 100000
set_option maxHeartbeats 4000000
namespace Hf
open PySem PySem.Spec PyProof.Rows L2
/-! ### own == and the != that comes of it -/
section
variable {prog : Program} {w : World} {A : Around} {E : Value → Shared → Prop} {s : Shared} {K : PySem.W.Frag} {x C f : Addr} {ox : Obj} {od : Option Obj} {b tb : Value}
end
end Hf

set_option Elab.async false
set_option linter.all false
set_option maxRecDepth 100000
set_option maxHeartbeats 4000000
namespace Hf
open PySem PySem.Spec PyProof.Rows L2
/-! ### the class of data -/
def tyB (c : Nat) : D → Bool
  | .none => true
  | .bool _ => true
  | .int _ => true
  | .str _ => true
  | .tup _ => true
  | .prs _ => true
  | .lst _ => true
  | .scr _ => true
  | .dct _ _ => true
  | .kd _ _ => true
  | .inst c' _ => c' == c || !subC c' c
  | _ => false
structure EqN (g : Gs) (k c : Nat) (f : Fn) : Prop where
  d : DunF g k c "__eq__" f
  ne : PySem.W.findIn g.K (.ref (g.cl c)) "__ne__" = some (some (.builtin "object.__ne__"))
  oth : ∀ c', g.has c' = true → c' ≠ c → subC c' c = false → PySem.W.mroIn g.K (g.cl c') (.ref (g.cl c)) = some false
  nT : ∀ T ∈ ["NoneType", "int", "bool", "str", "list", "tuple", "dict"], PySem.W.mroIn g.K (g.cl c) (.type T) = some false
theorem nf_T {K : PySem.W.Frag} {C : Addr} {T : String} {l : List Value} (e : fastBuiltinMro T = some l) (h : ∀ x ∈ l, ∃ n, x = .type n) : PySem.W.notFirst K C (.type T) = true := by
  have e2 : PySem.W.subIn K (.type T) (.ref C) = some false := by
    show (fastBuiltinMro T).map (·.contains (.ref C)) = some false
    rw [e]
    have : l.contains (.ref C) = false := by
      cases q : l.contains (Value.ref C) with
      | false => rfl
      | true =>
        obtain ⟨n, z⟩ := h _ (List.contains_iff_mem.mp q)
        cases z
    simp only [Option.map_some, this]
  unfold PySem.W.notFirst
  rw [e2]
  simp
theorem nf_none {K : PySem.W.Frag} {C : Addr} : PySem.W.notFirst K C (.type "NoneType") = true := nf_T (l := [.type "NoneType", .type "object"]) (by decide +kernel) (by simp)
theorem nf_bool {K : PySem.W.Frag} {C : Addr} : PySem.W.notFirst K C (.type "bool") = true := nf_T (l := [.type "bool", .type "int", .type "object"]) (by decide +kernel) (by simp)
theorem nf_int {K : PySem.W.Frag} {C : Addr} : PySem.W.notFirst K C (.type "int") = true := nf_T (l := [.type "int", .type "object"]) (by decide +kernel) (by simp)
theorem nf_str {K : PySem.W.Frag} {C : Addr} : PySem.W.notFirst K C (.type "str") = true := nf_T (l := [.type "str", .type "object"]) (by decide +kernel) (by simp)
theorem nf_tuple {K : PySem.W.Frag} {C : Addr} : PySem.W.notFirst K C (.type "tuple") = true := nf_T (l := [.type "tuple", .type "object"]) (by decide +kernel) (by simp)
theorem nf_list {K : PySem.W.Frag} {C : Addr} : PySem.W.notFirst K C (.type "list") = true := nf_T (l := [.type "list", .type "object"]) (by decide +kernel) (by simp)
theorem nf_dict {K : PySem.W.Frag} {C : Addr} : PySem.W.notFirst K C (.type "dict") = true := nf_T (l := [.type "dict", .type "object"]) (by decide +kernel) (by simp)
section
variable {g : Gs} {w : Wd} {H : Hp} {X : Cx} {pins : List (Addr × Obj)} {σ : L2.St} {s : Shared} {k c lv : Nat} {f : Fn} {E : XK}
theorem Rep.ty (I : Inv X pins σ H s) (hK : X.K = g.K) (hs : Same w.P H) (N : EqN g k c f) : ∀ (d : D) (v : V) (u : Value), tyB c d = true → Rep g w d v → RelV v u → ∃ tb, PySem.W.Looks (model X.prog X.w) s.heap (typeOf u) tb ∧ PySem.W.notFirst X.K (g.cl c) tb = true
  | .none, v, u, _, h, r => by simp only [Rep] at h; subst h; cases r; exact ⟨.type "NoneType", .of_pure rfl, nf_none⟩
  | .bool b, v, u, _, h, r => by simp only [Rep] at h; subst h; cases r; exact ⟨.type "bool", .of_pure rfl, nf_bool⟩
  | .int b, v, u, _, h, r => by simp only [Rep] at h; subst h; obtain ⟨t, rfl⟩ := r; exact ⟨.type "int", .of_pure rfl, nf_int⟩
  | .str b, v, u, _, h, r => by simp only [Rep] at h; subst h; obtain ⟨t, rfl⟩ := r; exact ⟨.type "str", .of_pure rfl, nf_str⟩
  | .tup ds, v, u, _, h, r => by
    simp only [Rep] at h
    obtain ⟨a, vs, rfl, q, rr⟩ := h
    cases r
    obtain ⟨its, rv, ⟨o, ho, hc, n, hd⟩, _⟩ := I.tuple (hK ▸ sqT_mono hs q.T)
    exact ⟨.type "tuple", hc ▸ (PySem.W.Looks.ld ho).andThen .now, nf_tuple⟩
  | .prs ds, v, u, _, h, r => by
    simp only [Rep] at h
    obtain ⟨a, vs, rfl, q, rr⟩ := h
    cases r
    obtain ⟨its, rv, ⟨o, ho, hc, n, hd⟩, _⟩ := I.tuple (hK ▸ sqT_mono hs q)
    exact ⟨.type "tuple", hc ▸ (PySem.W.Looks.ld ho).andThen .now, nf_tuple⟩
  | .lst ds, v, u, _, h, r => by
    simp only [Rep] at h
    obtain ⟨a, vs, rfl, q, rr⟩ := h
    cases r
    obtain ⟨its, rv, ⟨o, n, ho, hc, _, hd⟩, _⟩ := I.list (hK ▸ (.inl (.inl (hs _ _ q)) : SqL g.K H a vs))
    exact ⟨.type "list", hc ▸ (PySem.W.Looks.ld ho).andThen .now, nf_list⟩
  | .scr ds, v, u, _, h, r => by
    simp only [Rep] at h
    obtain ⟨a, vs, rfl, q, rr⟩ := h
    cases r
    obtain ⟨its, rv, ⟨o, n, ho, hc, _, hd⟩, _⟩ := I.list (hK ▸ hs.seq q)
    exact ⟨.type "list", hc ▸ (PySem.W.Looks.ld ho).andThen .now, nf_list⟩
  | .dct ks ds, v, u, _, h, r => by
    simp only [Rep] at h
    obtain ⟨a, xs, rfl, q, e, _, _⟩ := h
    cases r
    obtain ⟨⟨_, _, _, _, ys, hp, o, es, ep, ho, hx, hd, he⟩, _, _⟩ := I.hok a _ (hs _ _ q)
    exact ⟨.type "dict", hx.1 ▸ (PySem.W.Looks.ld ho).andThen .now, nf_dict⟩
  | .inst c' ds, v, u, ht, h, r => by
    simp only [Rep] at h
    obtain ⟨a, dx, vs, rfl, q, _, hh, _⟩ := h
    cases r
    obtain ⟨od, J⟩ := inst_at I (hs _ _ q)
    refine ⟨.ref (g.cl c'), J.type, ?_⟩
    simp only [tyB, Bool.or_eq_true, beq_iff_eq, Bool.not_eq_true'] at ht
    unfold PySem.W.notFirst
    by_cases hc : c' = c
    · subst hc; simp
    · rcases ht with ht | ht
      · exact absurd ht hc
      · rw [hK]
        show (_ || PySem.W.mroIn g.K (g.cl c') (.ref (g.cl c)) == some false) = true
        rw [N.oth c' hh hc ht]
        simp
  | .box n, v, u, h, _, _ => by cases h
  | .cls n, v, u, h, _, _ => by cases h
  | .ptr n, v, u, h, _, _ => by cases h
  | .fnT n, v, u, h, _, _ => by cases h
  | .exo a dd f x, v, u, h, _, _ => by cases h
  | .kd k x, v, u, _, h, r => by
    simp only [Rep] at h
    obtain ⟨a, rfl, q⟩ := h
    cases r
    obtain ⟨_, hsm, vs, rv, o, es, ep, ho, hx, hd, _⟩ := dk_of I.hok (hs _ _ q)
    exact ⟨.type "dict", hx.1 ▸ (PySem.W.Looks.ld ho).andThen .now, nf_dict⟩
variable {H0 : Hp} {ma mb : Ev} {a b : Expr} {pos : Pos}
end
end Hf

set_option Elab.async false
set_option linter.all false
set_option maxRecDepth 100000
set_option maxHeartbeats 4000000
namespace Hf
open PySem PySem.Spec PyProof.Rows L2
section
variable {g : Gs} {E : XK} {H0 : Hp} {X : Cx} {p1 p2 pos : Pos} {j1 j2 : Nat} {k x : Int}
end
end Hf

set_option Elab.async false
set_option linter.all false
set_option maxRecDepth 100000
set_option maxHeartbeats 4000000
namespace Hf
open PySem PySem.Spec PyProof.Rows L2
open Builtin Sem
/-! ### data beside an instance: the built-in == and != decline -/
end Hf

set_option Elab.async false
set_option linter.all false
set_option maxRecDepth 100000
set_option maxHeartbeats 4000000
namespace Hf
open PySem PySem.Spec PyProof.Rows L2 Builtin Sem
/-! ### data == an instance with its own == -/
section
variable {prog : Program} {w : World} {A : Around} {E : Value → Shared → Prop} {s : Shared} {K : PySem.W.Frag} {x C f : Addr} {ox : Obj} {od : Option Obj} {u : Value} {T : String}
end
section
variable {P : Program} {W : World} {K : PySem.W.Frag} {C q : Addr} {s : Shared} {d2 : Option Addr} {sl2 : Array (Option Value)}
end
end Hf

set_option Elab.async false
set_option linter.all false
set_option maxRecDepth 100000
set_option maxHeartbeats 4000000
namespace Hf
open PySem PySem.Spec PyProof.Rows L2
section
variable {g : Gs} {w : Wd} {H : Hp} {X : Cx} {pins : List (Addr × Obj)} {σ : L2.St} {s : Shared} {k c lv : Nat} {f : Fn} {E : XK}
variable {H0 : Hp} {neg : Bool → Bool} {dflt : D → D → Bs → Rs D} {r2 : R2}
variable {ma mb : Ev} {a b : Expr} {pos : Pos} {k2 c2 : Nat} {f2 : Fn}
end
end Hf

set_option Elab.async false
set_option linter.all false
set_option maxRecDepth 100000
set_option maxHeartbeats 4000000
namespace Hf
open PySem PySem.Spec PyProof.Rows L2 PySem.SeqAt
open AutoSeq1 (wpAny_loadPart')
open MeetsSeq MeetsSeq2 MeetsSeq3 SeqRoads2
/-! ### == of two tuples whose items are compared by running code -/
section
variable {pg : Program} {wd : World} {ar : Around} {Z : Result → Shared → Prop}
end
section
variable {pg : Program} {wd : World} {ar : Around} {E : Value → Shared → Prop} {t : Shared}
end
section
variable {g : Gs} {w : Wd} {H : Hp} {X : Cx} {pins : List (Addr × Obj)} {σ : L2.St} {s : Shared} {k c lv : Nat} {f : Fn} {E : XK}
end
end Hf

set_option Elab.async false
set_option linter.all false
set_option maxRecDepth 100000
set_option maxHeartbeats 4000000
namespace Hf
open PySem PySem.Spec PyProof.Rows L2
section
variable {g : Gs} {w : Wd} {H H0 : Hp} {X : Cx} {σ : L2.St} {k c lv : Nat} {f : Fn} {E : XK}
variable {ma mb : Ev} {a b : Expr} {pos : Pos}
end
end Hf

set_option Elab.async false
set_option linter.all false
set_option maxRecDepth 100000
set_option maxHeartbeats 4000000
namespace Hf
open PySem PySem.Spec PyProof.Rows L2
/-! ### one expression, several classes of what it asks -/
section
variable {g : Gs} {E : XK} {w0 w : Wd} {H0 H : Hp} {X : Cx} {o e : Expr} {m M me mo : Ev} {r : List (Nat × Ev)} {c : Nat} {bo b1 b2 : Bool} {pos apos cpos : Pos}
/-! ### methods of a list in a box, whatever expression the box is -/
end
end Hf

set_option Elab.async false
set_option linter.all false
set_option maxRecDepth 100000
set_option maxHeartbeats 4000000
namespace Hf
open PySem PySem.Spec PyProof.Rows L2
/-! ### a constant of a class, read at an instance -/
section
variable {g : Gs} {E : XK} {w : Wd} {H0 H : Hp} {X : Cx} {e : Expr} {m : Ev} {c lv : Nat} {bo : Bool} {pos : Pos} {n : Str} {d : D}
end
end Hf

set_option Elab.async false
set_option linter.all false
set_option maxRecDepth 100000
set_option maxHeartbeats 4000000
namespace Hf
open PySem PySem.Spec PyProof.Rows L2
/-! ### s.strip(signs) -/
section
variable {g : Gs} {E : XK} {w : Wd} {H0 H : Hp} {X : Cx} {o e : Expr} {mo me : Ev} {b1 b2 : Bool} {apos pos : Pos}
end
end Hf

set_option Elab.async false
set_option linter.all false
set_option maxRecDepth 100000
set_option maxHeartbeats 4000000
namespace Hf
open PySem PySem.Spec PyProof.Rows L2 PySem.Froz
/-! ### len(set(xs)), xs a list of texts -/
section
variable {P : Program} {w : World} {A : Around} {E : Value → Shared → Prop} {s : Shared}
end
/-- the texts of the first i of ks, each once -/
structure Gx (ks : List Str) (i : Nat) (l : List Str) : Prop where
  mem : ∀ k, k ∈ l ↔ k ∈ ks.take i
  nd : l.Nodup
  len : l.length ≤ i
theorem Gx.zero (ks : List Str) : Gx ks 0 [] := ⟨fun k => by simp, List.nodup_nil, Nat.le_refl _⟩
theorem Gx.next {ks l l' : List Str} {i : Nat} {k : Str} (g : Gx ks i l) (h : ks[i]? = some k) (c : (k ∈ l ∧ l' = l) ∨ (k ∉ l ∧ l' = k :: l)) : Gx ks (i + 1) l' := by
  have ht : ks.take (i + 1) = ks.take i ++ [k] := by rw [List.take_succ, h]; rfl
  rcases c with ⟨c, rfl⟩ | ⟨c, rfl⟩
  · refine ⟨fun x => ?_, g.nd, Nat.le_succ_of_le g.len⟩
    rw [ht, List.mem_append, ← g.mem, List.mem_singleton]
    exact ⟨.inl, fun z => z.elim id fun e => e ▸ c⟩
  · refine ⟨fun x => ?_, List.nodup_cons.mpr ⟨c, g.nd⟩, by rw [List.length_cons]; exact Nat.succ_le_succ g.len⟩
    rw [ht, List.mem_append, ← g.mem, List.mem_singleton, List.mem_cons]
    exact or_comm
section
variable {P : Program} {w : World} {A : Around} {E : Value → Shared → Prop} {s : Shared}
end
section
variable {g : Gs} {E : XK} {H0 : Hp} {X : Cx} {e : Expr} {m : Ev} {b1 : Bool} {p p2 q pos : Pos}
end
end Hf

set_option Elab.async false
set_option linter.all false
set_option maxRecDepth 100000
set_option maxHeartbeats 4000000
namespace Hf
open PySem PySem.Spec PyProof.Rows L2
/-! ### a lambda with parameters that captures nothing: a value -/
section
variable {X : Cx} {pins : List (Addr × Obj)} {σ : L2.St} {H : Hp} {s : Shared}
end
section
variable {g : Gs} {E : XK} {w0 w : Wd} {H0 H : Hp} {X : Cx} {e : Expr} {es : List Expr} {ms : Evs} {pos p p1 p2 lp : Pos} {x : Str} {lv k i : Nat} {k0 P : Addr} {prm : Arguments} {bd : Expr} {sc : Scope} {ps : List Str}
end
end Hf

set_option Elab.async false
set_option linter.all false
set_option maxRecDepth 100000
set_option maxHeartbeats 4000000
namespace Hf
open PySem PySem.Spec PyProof.Rows L2
/-! ### sorted of rows of numbers -/
section
variable {X : Cx} {pins : List (Addr × Obj)} {σ : L2.St} {H : Hp} {s : Shared}
end
section
variable {g : Gs} {E : XK} {w0 w : Wd} {H0 H : Hp} {X : Cx} {e : Expr} {m : Ev} {pos p1 : Pos} {bo b1 : Bool}
end
/-! ### x = n.pop(), n a name's own list -/
section
variable {g : Gs} {E : XK} {w0 : Wd} {H0 : Hp} {X : Cx} {pos p1 p2 apos cpos : Pos} {x y : Str} {i j : Nat}
end
/-! ### a, b = [..], [..]: both are own containers -/
section
variable {g : Gs} {E : XK} {w0 : Wd} {H0 : Hp} {X : Cx} {a b : Expr} {ma mb : Ev} {pos : Pos} {lv k : Nat}
theorem OkC.mono (c : OkC g E lv X) (h : k ≤ lv) : OkC g E k X := ⟨c.toOk, c.room.mono h, c.hx⟩
end
/-! ### where the lambdas of a text stand -/
def noE : Expr := .Constant .none 0 ⟨0, 0, 0, 0⟩
/-! ### a def that holds lambdas, no repr asked -/
end Hf

set_option Elab.async false
set_option linter.all false
set_option maxRecDepth 100000
set_option maxHeartbeats 4000000
namespace Hf
open PySem PySem.Spec PyProof.Rows L2
/-! ### a lambda that captures one name, handed to a def: f(a, b, lambda ..: ..) -/
section
variable {g : Gs} {b : Heap} {l : Nat → LamD} {w : Wd}
end
section
variable {g : Gs} {E : XK} {w0 w : Wd} {H0 H : Hp} {X : Cx} {a b : Expr} {ma mb : Ev} {pos p lp : Pos} {x y : Str} {lv k j kk : Nat} {k0 P : Addr} {prm : Arguments} {bd : Expr} {sc : Scope} {f : (Nat → Fn) → Fn} {F : D → Nat → Fn}
end
end Hf

set_option Elab.async false
set_option linter.all false
set_option maxRecDepth 100000
set_option maxHeartbeats 4000000
namespace Hf
open PySem PySem.Spec PyProof.Rows L2
/-! ### zip of three -/
section
variable {X : Cx} {e e2 e3 : Expr} {ta tb tc : TE} {p pos tpos : Pos} {elts : List Expr} {kk : Nat}
end
section
variable {g : Gs} {E : XK} {H0 : Hp} {w : Wd} {X : Cx} {a b c : Expr} {ma mb mc : Ev} {p pos tpos : Pos} {elts : List Expr} {kk : Nat}
end
/-! ### where the lambdas of a text stand (more) -/
end Hf

set_option Elab.async false
set_option linter.all false
set_option maxRecDepth 100000
namespace Hf
open PySem PySem.Spec PyProof.Rows L2

/-! ### d > e, d >= e of tuples that are alike -/
/-! ### own == and != as tests -/
section
variable {g : Gs} {E : XK} {H0 : Hp} {X : Cx} {a b : Expr} {ma mb : Ev} {pos : Pos} {lv k c : Nat} {f : Fn}
end
end Hf

set_option Elab.async false
set_option linter.all false
set_option maxRecDepth 100000
set_option maxHeartbeats 4000000
namespace Hf
open PySem PySem.Spec PyProof.Rows L2

/-! ### an own exception's __init__: super().__init__('..'); self.f = p -/
end Hf

set_option Elab.async false
set_option linter.all false
set_option maxRecDepth 100000
set_option maxHeartbeats 4000000
namespace Hf
open PySem PySem.Spec PyProof.Rows L2

/-! ### raise C(e), C with an own __init__ that stores e -/
section
variable {g : Gs} {E : XK} {w0 w : Wd} {H0 H : Hp} {X : Cx} {e : Expr} {m : Ev} {pos p pos2 : Pos} {x : Str} {lv c k : Nat}
end
end Hf

set_option Elab.async false
set_option linter.all false
set_option maxRecDepth 100000
set_option maxHeartbeats 4000000
namespace Hf
open PySem PySem.Spec PyProof.Rows L2

/-! ### max(t, default = d) of a tuple of numbers -/
section
variable {g : Gs} {E : XK} {H0 : Hp} {X : Cx} {e de : Expr} {m md : Ev} {pos p kp : Pos} {b1 : Bool}
end
end Hf

set_option Elab.async false
set_option linter.all false
set_option maxRecDepth 100000
set_option maxHeartbeats 4000000
namespace Hf
open PySem PySem.Spec PyProof.Rows L2

/-! ### def m(self, *v) and its calls -/
section
variable {g : Gs} {E : XK} {H0 : Hp} {X : Cx} {o e : Expr} {es : List Expr} {m : Ev} {ms : Evs} {pos apos : Pos} {lv k c : Nat} {f : Fn}
end
end Hf

set_option Elab.async false
set_option linter.all false
set_option maxRecDepth 100000
set_option maxHeartbeats 4000000
namespace Hf
open PySem PySem.Spec PyProof.Rows L2

/-! ### range(a, b, -1) -/
section
variable {g : Gs} {E : XK} {H0 : Hp} {w : Wd} {H : Hp} {X : Cx} {σI : Sl} {σ : L2.St} {B : Bs} {tg a b d : Expr} {ma mb mc : Ev} {p1 pos : Pos} {b1 b2 b3 : Bool}
end
end Hf

set_option Elab.async false
set_option linter.all false
set_option maxRecDepth 100000
set_option maxHeartbeats 4000000
namespace Hf
open PySem PySem.Spec PyProof.Rows L2

/-! ### an __init__ that is called by super: the instance stays the caller's -/
section
variable {g : Gs} {E : XK} {w : Wd} {H : Hp} {Q : VK} {c k : Nat}
end
/-! ### a thing is taken out of the view -/
theorem tabs_del {T : List (Addr × Str)} {H : Hp} {a : Addr} (t : LamX.Tabs T H) (h : ∀ u, H a = some u → Nt u) : LamX.Tabs T (del H a) := fun p hp => by
  obtain ⟨ps, h1, h2, h3⟩ := t p hp
  have na : ∀ b u, H b = some u → ¬ Nt u → b ≠ a := fun b u e n z => n (h u (z ▸ e))
  refine ⟨ps, by rw [del_ne (na _ _ h1 fun z => z.t ps rfl)]; exact h1, h2, fun pos cv hc => ?_⟩
  obtain ⟨c, e1, e2⟩ := h3 pos cv hc
  exact ⟨c, e1, by rw [del_ne (na _ _ e2 fun z => z.c _ _ rfl)]; exact e2⟩
section
variable {g : Gs} {E : XK} {w w1 : Wd} {H H1 H2 : Hp} {B : Bs}
theorem RB.cut {a : Addr} (rb : RB g w B H) (np : w.P a = Option.none) (ni : ∀ n, w.io n ≠ some a) (hn : ∀ u, H a = some u → Nt u) : RB g w B (del H a) where
  sub := fun b u e => by
    rw [del_ne (fun z => by subst z; rw [np] at e; cases e)]; exact rb.sub b u e
  get := fun n b e => by
    obtain ⟨p, o, q1, q2, q3⟩ := rb.get n b e
    exact ⟨p, o, q1, by rw [del_ne (fun z => ni n (by rw [← z]; exact q1))]; exact q2, q3⟩
  inj := rb.inj
  np := rb.np
  dom := rb.dom
  tb := tabs_del rb.tb hn
  nt := rb.nt
/-- what is taken out on both sides -/
theorem Ext.cut {a : Addr} (x : Ext w H w1 H1) : Ext w (del H a) w1 (del H1 a) where
  le := x.le
  keep := fun b o h hn ht => by
    have e : b ≠ a := fun z => by rw [z, del_same] at h; cases h
    rw [del_ne e] at h ⊢
    exact x.keep b o h hn ht
  pf := fun b o h => by
    by_cases e : b = a
    · subst e; exact .inr (.inl del_same)
    · rw [del_ne e]; exact x.pf b o h
  iof := fun n b h => by
    by_cases e : b = a
    · subst e; exact .inr del_same
    · rw [del_ne e]; exact x.iof n b h
  there := fun b h => by
    have e : b ≠ a := fun z => by rw [z, del_same] at h; exact h rfl
    rw [del_ne e] at h ⊢
    exact x.there b h
  me := x.me
end
/-! ### def __init__(self, bridge, limit): need_bridge(bridge); need_limit(limit); super().__init__(bridge); self.limit = limit -/
section
variable {g : Gs} {c k k1 k2 : Nat} {st : Stmt} {qual file : Str} {D0 fI cc fa2 ca x dx : Addr} {fd : FuncData} {f1 f2 fU : Fn}
end
end Hf

set_option Elab.async false
set_option linter.all false
set_option maxRecDepth 100000
set_option maxHeartbeats 4000000
namespace Hf
open PySem PySem.Spec PyProof.Rows L2
/-! ### the end over the head by one run -/
theorem walkQ0 {l : PySem.W.OpenLaw} {k : Nat} {q : Program} {loose : List Str} {XP : (Str → Option Value) → Heap → Prop} {d : DefRec} {CX : World → CXT} {x : Str} {n : Hq.Stg} {fn : List Hq.DfE} {tp : Hq.Fr → List Addr} {ex : Hq.Fr → Bool}
    (hn : l.most = some 63) (hdf : d.params.defaults = []) (hr : Room k callerA) (hname : d.name = ("law" : Str))
    (F : ∀ (w : World) (mg : Str → Option Value) (fa : Addr) (h : Heap) (K : PySem.W.Frag), K.In h → Hq.SaysE fn tp ex h K → h.Ns mainGlobals mg → mg "law" = some (.ref fa) →
      ∃ fd : FuncData, (∀ (s : Shared) (u : Value), BindsTo s fd ⟨[u], []⟩ [(x, u)]) ∧ ∀ base : Heap, K.In base → base.Ns mainGlobals mg → FnG l.prog w K mg base (CX w) k fa fd [x] (spL K))
    (hCX : ∀ (w : World) (H : Hp) (s : Shared) (e : Value) (s' : Shared), CX w [] H s (fun _ _ _ => False) e s' → False) : PySem.W.WalkO q loose XP (Hq.hookF n fn tp ex).says l.row.toRowW d [] (fun f vs => PySem.call f vs) := by
  refine Att.attach_callB hn hdf fun w s₀ s₁ mg mb fa o pm cd doc a vs ns G Y ho hd hcd hmg hobj hints hlen hbits hg => ?_
  obtain ⟨K, KX, c⟩ := Y
  rw [hname] at hmg
  obtain ⟨fd, hb, hF⟩ := F w mg fa _ K KX c G.T.g hmg
  exact law_callG KX G.T.g G.T.b G.T.builtins G.T.nolimit hg hobj hints (Nat.le_trans hlen (by decide)) hr hF hb (fun H hO hS => ⟨a, ns, rfl, hS, hlen, hO, fun _ => rfl⟩) fun H e s' => hCX w H s₁ e s'
end Hf

set_option Elab.async false
set_option linter.all false
set_option maxRecDepth 100000
set_option maxHeartbeats 4000000
namespace Hf
open PySem PySem.Spec PyProof.Rows L2
/-! ### an instance of one of several classes -/
section
variable {g : Gs} {E : XK} {H0 : Hp} {X : Cx} {e : Expr} {m : Ev} {M : Nat → Ev} {cs : List Nat} {bo b1 : Bool} {pos : Pos}
end
end Hf
namespace Hf
open PySem PySem.Spec PyProof.Rows L2
end Hf

set_option Elab.async false
set_option linter.all false
set_option maxRecDepth 100000
set_option maxHeartbeats 4000000
namespace Hf
open PySem PySem.Spec PyProof.Rows L2
/-! ### x != y where y's class is a subclass of x's: y is asked first -/
section
variable {prog : Program} {w : World} {A : Around} {E : Value → Shared → Prop} {s : Shared} {K : PySem.W.Frag} {x y C C' f : Addr} {ox oy : Obj} {od od' : Option Obj}
end
section
variable {g : Gs} {w : Wd} {H : Hp} {X : Cx} {pins : List (Addr × Obj)} {σ : L2.St} {s : Shared} {k c c' lv : Nat} {f : Fn} {E : XK}
variable {H0 : Hp} {ma mb : Ev} {a b : Expr} {pos : Pos}
end
end Hf

set_option Elab.async false
set_option linter.all false
set_option maxRecDepth 100000
set_option maxHeartbeats 4000000
namespace Hf
open PySem PySem.Spec PyProof.Rows L2
/-! ### l.count(x), outside an except suite -/
section
variable {g : Gs} {E : XK} {H0 : Hp} {w : Wd} {H : Hp} {X : Cx} {σI : Sl} {σ : L2.St} {B : Bs} {e o : Expr} {mo m : Ev} {apos cpos : Pos} {b1 : Bool} {lv : Nat}
end
end Hf

set_option Elab.async false
set_option linter.all false
set_option maxRecDepth 100000
set_option maxHeartbeats 4000000
namespace Hf
open PySem PySem.Spec PyProof.Rows L2

/-! ### o.m(k = v, ..), some left to their defaults -/
def KwD (K : PySem.W.Frag) (fd : FuncData) (ps ks : List Str) (m : Nat) (pi : List Nat) (ds : List Value) : Prop := ∀ (s : Shared) (us ws : List Value), K.In s.heap → us.length = m → ws.length = ks.length → BindsTo s fd ⟨us, ks.zip ws⟩ (ps.zip (us ++ (permL pi ws ++ ds)))
theorem KwB.d {K : PySem.W.Frag} {fd : FuncData} {ps ks : List Str} {m : Nat} {pi : List Nat} (h : KwB K fd ps ks m pi) : KwD K fd ps ks m pi [] := fun s us ws X l1 l2 => by rw [List.append_nil]; exact h s us ws X l1 l2
section
variable {g : Gs} {E : XK} {w0 w : Wd} {H0 H : Hp} {X : Cx} {o : Expr} {m : Ev} {ms : Evs} {pos apos : Pos} {f : Fn} {lv k c : Nat} {kws : List Keyword} {ks : List Str} {pi : List Nat} {dfl : List D} {Q : VK} {σ : L2.St}
end
/-! ### try: s1; s2; return e / finally: .., where nothing is raised -/
section
variable {g : Gs} {E : XK} {w0 w : Wd} {H0 H : Hp} {X : Cx} {lv : Nat} {S1 S2 f0 : Stmt} {fs : List Stmt} {e : Expr} {rp pos : Pos} {m1 m2 mf : Ms} {me : Ev} {D : Ends}
end
/-! ### where a lambda stands in a def -/
end Hf

set_option Elab.async false
set_option linter.all false
set_option maxRecDepth 100000
set_option maxHeartbeats 4000000
namespace Hk
open PySem PySem.Spec PyProof.Rows L2 Hf
theorem nbg {g : Gs} {X : Cx} (ok : Ok g X) (x : String) (h : x ∈ ["len", "range", "isinstance", "tuple", "list", "all", "any", "max", "min", "set", "sorted", "enumerate", "zip", "repr", "str", "int", "sum", "dict", "bool"] := by decide) : g.mg (Str.ofString x) = Option.none := ok.fx.nb x h
/-! ### _law_pen -/
abbrev n__law_pen : List Str := ["_law_cell"]
def m__law_pen : Ms := (mRet (mBox (mLst (mCons (mBin fMax2 (mC (.int 0)) (mBin fSub (mVar 0) (mBin fPow (mC (.int 10)) (mC (.int 18))))) (mCons (mBin fAdd (mBin fMod (mVar 0) (mC (.int 2147483629))) (mC (.int 1))) (mCons (mC (.int 0)) mNil))))))
def f__law_pen : Fn := mkFn 1 1 m__law_pen
theorem b__law_pen {g : Gs}  : ∀ (E : XK) (w0 : Wd) (H0 : Hp) (X : Cx), OkC g E 0 X → PassesOwn (model X.prog X.w) X.A X.env X.xe → L2N.Takes X (fun cls d _ H => E cls d H) → X.N = n__law_pen → X.env.scope = defScope (t__law_pen) → X.fn = (fun _ => true) → SndB g E w0 H0 X (defBody (t__law_pen)) m__law_pen := by
  intro E w0 H0 X c po tk hN hs hf
  obtain ⟨prog, w', K, mg, base, A, N, s_0, H_0, ⟨e1, e2, e3, e4, e5, e6, e7, e8, e9⟩, outer, stack, ex, fn, calm, pn, xe⟩ := X
  simp only at hN hs hf
  subst hN hs hf
  have nd : (n__law_pen).Nodup := by decide +kernel
  exact (b_one (z_ret (s_box (f_lst (a_cons (q_max2 c.toOk s_int (s_sub (s_var (i := 0)) (s_pow s_int s_int))) (a_cons (s_add c.toOk (s_mod (s_var (i := 0)) s_int) s_int) (a_cons s_int a_nil)))))))
/-! ### _law_cell_at -/
abbrev n__law_cell_at : List Str := ["_law_script", "_law_k"]
def m__law_cell_at : Ms := (mSeq (mIf (mCmpT fLt (mVar 1) (m1 fLen (mVar 0))) (mRet (mBin fIx (mVar 0) (mVar 1))) mSkip)
  (mRet (mC (.int 0))))
def f__law_cell_at : Fn := mkFn 2 2 m__law_cell_at
theorem b__law_cell_at {g : Gs}  : ∀ (E : XK) (w0 : Wd) (H0 : Hp) (X : Cx), OkC g E 0 X → PassesOwn (model X.prog X.w) X.A X.env X.xe → L2N.Takes X (fun cls d _ H => E cls d H) → X.N = n__law_cell_at → X.env.scope = defScope (t__law_cell_at) → X.fn = (fun _ => true) → SndB g E w0 H0 X (defBody (t__law_cell_at)) m__law_cell_at := by
  intro E w0 H0 X c po tk hN hs hf
  obtain ⟨prog, w', K, mg, base, A, N, s_0, H_0, ⟨e1, e2, e3, e4, e5, e6, e7, e8, e9⟩, outer, stack, ex, fn, calm, pn, xe⟩ := X
  simp only at hN hs hf
  subst hN hs hf
  have nd : (n__law_cell_at).Nodup := by decide +kernel
  exact (b_cons (z_if (t_cmp c_lt (s_var (i := 1)) (q_len c.toOk (s_var (i := 0)))) (b_one (z_ret (s_ix c.toOk (s_var (i := 0)) (s_var (i := 1))))) b_nil)
  (b_one (z_ret s_int)))
/-! ### _law_draw -/
abbrev n__law_draw : List Str := ["_law_pen_here", "_law_many", "_law_found", "_law_mixed_here"]
def m__law_draw : Ms := (mSeq (mIf (mCmpT fGt (mBin fIx (mVar 0) (mC (.int 0))) (mC (.int 0))) (mSeq (mSet 2 (mBin fMod (mBin fIx (mVar 0) (mC (.int 0))) (mVar 1)))
  (mSeq (mSetIx (mVar 0) (mC (.int 0)) (mBin fDiv (mBin fIx (mVar 0) (mC (.int 0))) (mVar 1)))
  (mRet (mVar 2)))) mSkip)
  (mSeq (mSetIx (mVar 0) (mC (.int 2)) (mBin fAdd (mBin fIx (mVar 0) (mC (.int 2))) (mC (.int 1))))
  (mSeq (mSetIx (mVar 0) (mC (.int 1)) (mBin fMod (mBin fAdd (mBin fAdd (mBin fMul (mBin fIx (mVar 0) (mC (.int 1))) (mC (.int 48271))) (mBin fMul (mC (.int 1009)) (mBin fIx (mVar 0) (mC (.int 2))))) (mC (.int 7))) (mC (.int 2147483647))))
  (mSeq (mSet 3 (mBin fMod (mBin fAdd (mBin fAdd (mBin fMul (mBin fIx (mVar 0) (mC (.int 1))) (mBin fIx (mVar 0) (mC (.int 1)))) (mBin fMul (mC (.int 69621)) (mBin fIx (mVar 0) (mC (.int 1))))) (mC (.int 11))) (mC (.int 2147483629))))
  (mSeq (mSet 3 (mBin fMod (mBin fAdd (mBin fMul (mVar 3) (mVar 3)) (mBin fMul (mC (.int 40014)) (mVar 3))) (mC (.int 2147483587))))
  (mRet (mBin fMod (mBin fDiv (mVar 3) (mC (.int 16))) (mVar 1))))))))
def f__law_draw : Fn := mkFn 2 4 m__law_draw
theorem b__law_draw {g : Gs}  : ∀ (E : XK) (w0 : Wd) (H0 : Hp) (X : Cx), OkC g E 0 X → PassesOwn (model X.prog X.w) X.A X.env X.xe → L2N.Takes X (fun cls d _ H => E cls d H) → X.N = n__law_draw → X.env.scope = defScope (t__law_draw) → X.fn = (fun _ => true) → SndB g E w0 H0 X (defBody (t__law_draw)) m__law_draw := by
  intro E w0 H0 X c po tk hN hs hf
  obtain ⟨prog, w', K, mg, base, A, N, s_0, H_0, ⟨e1, e2, e3, e4, e5, e6, e7, e8, e9⟩, outer, stack, ex, fn, calm, pn, xe⟩ := X
  simp only at hN hs hf
  subst hN hs hf
  have nd : (n__law_draw).Nodup := by decide +kernel
  exact (b_cons (z_if (t_cmp c_gt (s_ix c.toOk (s_var (i := 0)) s_int) s_int) (b_cons (z_set (i := 2) nd (s_mod (s_ix c.toOk (s_var (i := 0)) s_int) (s_var (i := 1))))
  (b_cons (z_setIx (s_div (s_ix c.toOk (s_var (i := 0)) s_int) (s_var (i := 1))) (s_var (i := 0)) s_int)
  (b_one (z_ret (s_var (i := 2)))))) b_nil)
  (b_cons (z_setIx (s_add c.toOk (s_ix c.toOk (s_var (i := 0)) s_int) s_int) (s_var (i := 0)) s_int)
  (b_cons (z_setIx (s_mod (s_add c.toOk (s_add c.toOk (s_mul c.toOk (s_ix c.toOk (s_var (i := 0)) s_int) s_int) (s_mul c.toOk s_int (s_ix c.toOk (s_var (i := 0)) s_int))) s_int) s_int) (s_var (i := 0)) s_int)
  (b_cons (z_set (i := 3) nd (s_mod (s_add c.toOk (s_add c.toOk (s_mul c.toOk (s_ix c.toOk (s_var (i := 0)) s_int) (s_ix c.toOk (s_var (i := 0)) s_int)) (s_mul c.toOk s_int (s_ix c.toOk (s_var (i := 0)) s_int))) s_int) s_int))
  (b_cons (z_set (i := 3) nd (s_mod (s_add c.toOk (s_mul c.toOk (s_var (i := 3)) (s_var (i := 3))) (s_mul c.toOk s_int (s_var (i := 3)))) s_int))
  (b_one (z_ret (s_mod (s_div (s_var (i := 3)) s_int) (s_var (i := 1))))))))))
/-! ### _law_twisted -/
abbrev n__law_twisted : List Str := ["_law_many", "_law_ups", "_law_at"]
def m__law_twisted : Ms := (mSeq (mSet 1 (mLc [2] (gN 2) (mRng1 (mVar 0)) mYes (mBin fAdd (mBin fMul (mTup (mCons (mC (.int 0)) mNil)) (mBin fSub (mVar 0) (mVar 2))) (mBin fMul (mTup (mCons (mC (.int 1)) mNil)) (mVar 2)))))
  (mRet (mBin fAdd (mVar 1) (mLc [2] (gN 2) (mRng1 (mVar 0)) mYes (mBin fAdd (mBin fMul (mTup (mCons (mC (.int 1)) mNil)) (mBin fSub (mVar 0) (mVar 2))) (mBin fMul (mTup (mCons (mC (.int 0)) mNil)) (mVar 2)))))))
def f__law_twisted : Fn := mkFn 1 3 m__law_twisted
theorem b__law_twisted {g : Gs}  : ∀ (E : XK) (w0 : Wd) (H0 : Hp) (X : Cx), OkC g E 0 X → PassesOwn (model X.prog X.w) X.A X.env X.xe → L2N.Takes X (fun cls d _ H => E cls d H) → X.N = n__law_twisted → X.env.scope = defScope (t__law_twisted) → X.fn = (fun _ => true) → SndB g E w0 H0 X (defBody (t__law_twisted)) m__law_twisted := by
  intro E w0 H0 X c po tk hN hs hf
  obtain ⟨prog, w', K, mg, base, A, N, s_0, H_0, ⟨e1, e2, e3, e4, e5, e6, e7, e8, e9⟩, outer, stack, ex, fn, calm, pn, xe⟩ := X
  simp only at hN hs hf
  subst hN hs hf
  have nd : (n__law_twisted).Nodup := by decide +kernel
  exact (b_cons (z_setLc (i := 1) (own := [("_law_at", 2)]) c.toOk nd rfl rfl (sw_true rfl rfl rfl (by decide +kernel)) (i_rng1 c.toOk (nbg c.toOk "range") (s_var (i := 0))) (by first | exact L2.blkOk_by (by decide +kernel) | exact L2.blkOk_by (by kernel_rfl)) (by decide) (fun _ _ _ _ _ => (g_name (i := 2) nd)) (fun _ _ _ _ _ => ts_nil) (fun _ _ _ _ _ => (fun (cb : OkC g E0 0 _) => (s_add cb.toOk (s_mul cb.toOk (s_tup (a_cons s_int a_nil)) (s_sub (s_var (i := 0)) (s_var (i := 2)))) (s_mul cb.toOk (s_tup (a_cons s_int a_nil)) (s_var (i := 2))))) (c.blk _ _ _ _ _)))
  (b_one (z_ret (s_add c.toOk (s_var (i := 1)) (f_val (f_lc (own := [("_law_at", 2)]) c.toOk nd (i_rng1 c.toOk (nbg c.toOk "range") (s_var (i := 0))) (by first | exact L2.blkOk_by (by decide +kernel) | exact L2.blkOk_by (by kernel_rfl)) (by decide) (fun _ _ _ _ _ => (g_name (i := 2) nd)) (fun _ _ _ _ _ => ts_nil) (fun _ _ _ _ _ => (fun (cb : OkC g E0 0 _) => (s_add cb.toOk (s_mul cb.toOk (s_tup (a_cons s_int a_nil)) (s_sub (s_var (i := 0)) (s_var (i := 2)))) (s_mul cb.toOk (s_tup (a_cons s_int a_nil)) (s_var (i := 2))))) (c.blk _ _ _ _ _))))))))
/-! ### _law_mixed -/
abbrev n__law_mixed : List Str := ["_law_pen_here", "_law_some", "_law_left", "_law_one"]
def m__law_mixed : Ms := (mSeq (mSet 2 (mBox (m1 fLstO (mVar 1))))
  (mRet (mLc [3] (gN 3) (mItems (mVar 1)) mYes (mPopB 2 (mCall f__law_draw [] (mCons (mVar 0) (mCons (m1 fLen (mVar 2)) mNil)))))))
def f__law_mixed : Fn := mkFn 2 4 m__law_mixed
theorem b__law_mixed {g : Gs}  (d__law_draw : Def g 1 "_law_draw" [] f__law_draw) : ∀ (E : XK) (w0 : Wd) (H0 : Hp) (X : Cx), OkC g E 1 X → PassesOwn (model X.prog X.w) X.A X.env X.xe → L2N.Takes X (fun cls d _ H => E cls d H) → X.N = n__law_mixed → X.env.scope = defScope (t__law_mixed) → X.fn = (fun _ => true) → SndB g E w0 H0 X (defBody (t__law_mixed)) m__law_mixed := by
  intro E w0 H0 X c po tk hN hs hf
  obtain ⟨prog, w', K, mg, base, A, N, s_0, H_0, ⟨e1, e2, e3, e4, e5, e6, e7, e8, e9⟩, outer, stack, ex, fn, calm, pn, xe⟩ := X
  simp only at hN hs hf
  subst hN hs hf
  have nd : (n__law_mixed).Nodup := by decide +kernel
  exact (b_cons (z_set (i := 2) nd (s_box (q_list c.toOk (s_var (i := 1)))))
  (b_one (z_ret (f_val (f_lc (own := [("_law_one", 3)]) c.toOk nd (i_seq c.toOk (s_var (i := 1))) (by first | exact L2.blkOk_by (by decide +kernel) | exact L2.blkOk_by (by kernel_rfl)) (by decide) (fun _ _ _ _ _ => (g_name (i := 3) nd)) (fun _ _ _ _ _ => ts_nil) (fun _ _ _ _ _ => (fun (cb : OkC g E0 1 _) => (s_popB (i := 2) (s_call cb d__law_draw (by decide) (a_cons (s_var (i := 0)) (a_cons (q_len cb.toOk (s_var (i := 2))) a_nil))))) (c.blk _ _ _ _ _)))))))
/-! ### _law_mirror -/
abbrev n__law_mirror : List Str := ["_law_many", "_law_found", "_law_turn", "_law_row"]
def m__law_mirror : Ms := (mSeq (mSet 1 (mLst (mCons (mTup (mCons (mC (.int 0)) mNil)) (mCons (mTup (mCons (mC (.int 1)) mNil)) mNil))))
  (mSeq (mFor (gN 2) (mRng1 (mBin fSub (mVar 0) (mC (.int 1)))) (mSet 1 (mBin fAdd (mLc [3] (gN 3) (mItems (mVar 1)) mYes (mBin fAdd (mTup (mCons (mC (.int 0)) mNil)) (mVar 3))) (mLc [3] (gN 3) (mItems (m1 fRev (mVar 1))) mYes (mBin fAdd (mTup (mCons (mC (.int 1)) mNil)) (mVar 3))))))
  (mRet (mVar 1))))
def f__law_mirror : Fn := mkFn 1 4 m__law_mirror
theorem b__law_mirror {g : Gs}  : ∀ (E : XK) (w0 : Wd) (H0 : Hp) (X : Cx), OkC g E 0 X → PassesOwn (model X.prog X.w) X.A X.env X.xe → L2N.Takes X (fun cls d _ H => E cls d H) → X.N = n__law_mirror → X.env.scope = defScope (t__law_mirror) → X.fn = (fun _ => true) → SndB g E w0 H0 X (defBody (t__law_mirror)) m__law_mirror := by
  intro E w0 H0 X c po tk hN hs hf
  obtain ⟨prog, w', K, mg, base, A, N, s_0, H_0, ⟨e1, e2, e3, e4, e5, e6, e7, e8, e9⟩, outer, stack, ex, fn, calm, pn, xe⟩ := X
  simp only at hN hs hf
  subst hN hs hf
  have nd : (n__law_mirror).Nodup := by decide +kernel
  exact (b_cons (z_set (i := 1) nd (f_val (f_lst (a_cons (s_tup (a_cons s_int a_nil)) (a_cons (s_tup (a_cons s_int a_nil)) a_nil)))))
  (b_cons (z_for c.toOk po (i_rng1 c.toOk (nbg c.toOk "range") (s_sub (s_var (i := 0)) s_int)) (g_name (i := 2) nd) (b_one (z_set (i := 1) nd (s_add c.toOk (f_val (f_lc (own := [("_law_row", 3)]) c.toOk nd (i_seq c.toOk (s_var (i := 1))) (by first | exact L2.blkOk_by (by decide +kernel) | exact L2.blkOk_by (by kernel_rfl)) (by decide) (fun _ _ _ _ _ => (g_name (i := 3) nd)) (fun _ _ _ _ _ => ts_nil) (fun _ _ _ _ _ => (fun (cb : OkC g E0 0 _) => (s_add cb.toOk (s_tup (a_cons s_int a_nil)) (s_var (i := 3)))) (c.blk _ _ _ _ _)))) (f_val (f_lc (own := [("_law_row", 3)]) c.toOk nd (i_seq c.toOk (s_rev c.toOk (s_var (i := 1)))) (by first | exact L2.blkOk_by (by decide +kernel) | exact L2.blkOk_by (by kernel_rfl)) (by decide) (fun _ _ _ _ _ => (g_name (i := 3) nd)) (fun _ _ _ _ _ => ts_nil) (fun _ _ _ _ _ => (fun (cb : OkC g E0 0 _) => (s_add cb.toOk (s_tup (a_cons s_int a_nil)) (s_var (i := 3)))) (c.blk _ _ _ _ _))))))))
  (b_one (z_ret (s_var (i := 1))))))
/-! ### _law_lone -/
abbrev n__law_lone : List Str := ["_law_many", "_law_at"]
def m__law_lone : Ms := (mRet (mLc [1] (gN 1) (mRng1 (mVar 0)) mYes (mBin fAdd (mBin fAdd (mBin fMul (mTup (mCons (mC (.int 0)) mNil)) (mVar 1)) (mTup (mCons (mC (.int 1)) mNil))) (mBin fMul (mTup (mCons (mC (.int 0)) mNil)) (mBin fSub (mBin fSub (mVar 0) (mC (.int 1))) (mVar 1))))))
def f__law_lone : Fn := mkFn 1 2 m__law_lone
theorem b__law_lone {g : Gs}  : ∀ (E : XK) (w0 : Wd) (H0 : Hp) (X : Cx), OkC g E 0 X → PassesOwn (model X.prog X.w) X.A X.env X.xe → L2N.Takes X (fun cls d _ H => E cls d H) → X.N = n__law_lone → X.env.scope = defScope (t__law_lone) → X.fn = (fun _ => true) → SndB g E w0 H0 X (defBody (t__law_lone)) m__law_lone := by
  intro E w0 H0 X c po tk hN hs hf
  obtain ⟨prog, w', K, mg, base, A, N, s_0, H_0, ⟨e1, e2, e3, e4, e5, e6, e7, e8, e9⟩, outer, stack, ex, fn, calm, pn, xe⟩ := X
  simp only at hN hs hf
  subst hN hs hf
  have nd : (n__law_lone).Nodup := by decide +kernel
  exact (b_one (z_ret (f_val (f_lc (own := [("_law_at", 1)]) c.toOk nd (i_rng1 c.toOk (nbg c.toOk "range") (s_var (i := 0))) (by first | exact L2.blkOk_by (by decide +kernel) | exact L2.blkOk_by (by kernel_rfl)) (by decide) (fun _ _ _ _ _ => (g_name (i := 1) nd)) (fun _ _ _ _ _ => ts_nil) (fun _ _ _ _ _ => (fun (cb : OkC g E0 0 _) => (s_add cb.toOk (s_add cb.toOk (s_mul cb.toOk (s_tup (a_cons s_int a_nil)) (s_var (i := 1))) (s_tup (a_cons s_int a_nil))) (s_mul cb.toOk (s_tup (a_cons s_int a_nil)) (s_sub (s_sub (s_var (i := 0)) s_int) (s_var (i := 1)))))) (c.blk _ _ _ _ _))))))
/-! ### _law_all -/
abbrev n__law_all : List Str := ["_law_many", "_law_found", "_law_turn", "_law_longer", "_law_row"]
def m__law_all : Ms := (mSeq (mSet 1 (mLst (mCons (mTup mNil) mNil)))
  (mSeq (mFor (gN 2) (mRng1 (mVar 0)) (mSeq (mSetO 3 (mLst mNil))
  (mSeq (mFor (gN 4) (mItems (mVar 1)) (mExt 3 (mLst (mCons (mBin fAdd (mVar 4) (mTup (mCons (mC (.int 0)) mNil))) (mCons (mBin fAdd (mVar 4) (mTup (mCons (mC (.int 1)) mNil))) mNil)))))
  (mFrz 3 (mSet 1 (mVar 3))))))
  (mRet (mVar 1))))
def f__law_all : Fn := mkFn 1 5 m__law_all
theorem b__law_all {g : Gs}  : ∀ (E : XK) (w0 : Wd) (H0 : Hp) (X : Cx), OkC g E 0 X → PassesOwn (model X.prog X.w) X.A X.env X.xe → L2N.Takes X (fun cls d _ H => E cls d H) → X.N = n__law_all → X.env.scope = defScope (t__law_all) → X.fn = (fun _ => true) → SndB g E w0 H0 X (defBody (t__law_all)) m__law_all := by
  intro E w0 H0 X c po tk hN hs hf
  obtain ⟨prog, w', K, mg, base, A, N, s_0, H_0, ⟨e1, e2, e3, e4, e5, e6, e7, e8, e9⟩, outer, stack, ex, fn, calm, pn, xe⟩ := X
  simp only at hN hs hf
  subst hN hs hf
  have nd : (n__law_all).Nodup := by decide +kernel
  exact (b_cons (z_set (i := 1) nd (f_val (f_lst (a_cons (s_tup a_nil) a_nil))))
  (b_cons (z_for c.toOk po (i_rng1 c.toOk (nbg c.toOk "range") (s_var (i := 0))) (g_name (i := 2) nd) (b_cons (z_setO (i := 3) nd (f_lst a_nil))
  (b_cons (z_for c.toOk po (i_seq c.toOk (s_var (i := 1))) (g_name (i := 4) nd) (b_one (z_ext (i := 3) (f_val (f_lst (a_cons (s_add c.toOk (s_var (i := 4)) (s_tup (a_cons s_int a_nil))) (a_cons (s_add c.toOk (s_var (i := 4)) (s_tup (a_cons s_int a_nil))) a_nil)))))))
  (b_one (s_frz (i := 3) (z_set (i := 1) nd (s_var (i := 3))))))))
  (b_one (z_ret (s_var (i := 1))))))
/-! ### _law_words -/
abbrev n__law_words : List Str := ["_law_pen_here", "_law_most", "_law_many", "_law_sort", "_law_found", "_law_every", "_law_wide", "_law_order", "_law_flips", "_law_by", "_law_at", "_law_row"]
def m__law_words : Ms := (mSeq (mAsg (gT (gsC (gN 2) (gsC (gN 3) gs0))) (mTup (mCons (mBin fAdd (mC (.int 1)) (mCall f__law_draw [] (mCons (mVar 0) (mCons (mVar 1) mNil)))) (mCons (mCall f__law_draw [] (mCons (mVar 0) (mCons (mC (.int 6)) mNil))) mNil))))
  (mSeq (mIf (mCmpT fEq (mVar 3) (mC (.int 0))) (mSet 4 (mCall f__law_twisted [] (mCons (mVar 2) mNil))) (mIf (mCmpT fEq (mVar 3) (mC (.int 1))) (mSet 4 (mCall f__law_mirror [] (mCons (mBin fMin2 (mC (.int 4)) (mVar 2)) mNil))) (mIf (mCmpT fEq (mVar 3) (mC (.int 2))) (mSet 4 (mCall f__law_lone [] (mCons (mBin fMax2 (mC (.int 2)) (mVar 2)) mNil))) (mSeq (mSet 5 (mCall f__law_mixed [] (mCons (mVar 0) (mCons (mCall f__law_all [] (mCons (mVar 2) mNil)) mNil))))
  (mSet 4 (mSl01 (mVar 5) (mBin fAdd (mC (.int 2)) (mCall f__law_draw [] (mCons (mVar 0) (mCons (mBin fSub (mBin fMin2 (mC (.int 16)) (m1 fLen (mVar 5))) (mC (.int 1))) mNil))))))))))
  (mSeq (mSet 6 (m1 fLen (mBin fIx (mVar 4) (mC (.int 0)))))
  (mSeq (mAsg (gT (gsC (gN 7) (gsC (gN 8) (gsC (gN 9) gs0)))) (mTup (mCons (mCall f__law_mixed [] (mCons (mVar 0) (mCons (m1 (fRg1 D.lst) (mVar 6)) mNil))) (mCons (mLc [10] (gN 10) (mRng1 (mVar 6)) mYes (mCall f__law_draw [] (mCons (mVar 0) (mCons (mC (.int 2)) mNil)))) (mCons (mCall f__law_draw [] (mCons (mVar 0) (mCons (mC (.int 16)) mNil))) mNil)))))
  (mSeq (mSet 4 (mLc [11] (gN 11) (mItems (mVar 4)) mYes (m1 fTupO (mLc [10] (gN 10) (mRng1 (mVar 6)) mYes (mBin fMod (mBin fAdd (mBin fIx (mVar 11) (mBin fIx (mVar 7) (mVar 10))) (mBin fIx (mVar 8) (mVar 10))) (mC (.int 2)))))))
  (mSeq (mSet 9 (mBin fMod (mVar 9) (m1 fLen (mVar 4))))
  (mRet (m1 fTupO (mBin fAdd (mSl10 (mVar 4) (mVar 9)) (mSl01 (mVar 4) (mVar 9)))))))))))
def f__law_words : Fn := mkFn 2 12 m__law_words
theorem b__law_words {g : Gs}  (d__law_draw : Def g 1 "_law_draw" [] f__law_draw) (d__law_twisted : Def g 1 "_law_twisted" [] f__law_twisted) (d__law_mirror : Def g 1 "_law_mirror" [] f__law_mirror) (d__law_lone : Def g 1 "_law_lone" [] f__law_lone) (d__law_mixed : Def g 2 "_law_mixed" [] f__law_mixed) (d__law_all : Def g 1 "_law_all" [] f__law_all) : ∀ (E : XK) (w0 : Wd) (H0 : Hp) (X : Cx), OkC g E 2 X → PassesOwn (model X.prog X.w) X.A X.env X.xe → L2N.Takes X (fun cls d _ H => E cls d H) → X.N = n__law_words → X.env.scope = defScope (t__law_words) → X.fn = (fun _ => true) → SndB g E w0 H0 X (defBody (t__law_words)) m__law_words := by
  intro E w0 H0 X c po tk hN hs hf
  obtain ⟨prog, w', K, mg, base, A, N, s_0, H_0, ⟨e1, e2, e3, e4, e5, e6, e7, e8, e9⟩, outer, stack, ex, fn, calm, pn, xe⟩ := X
  simp only at hN hs hf
  subst hN hs hf
  have nd : (n__law_words).Nodup := by decide +kernel
  exact (b_cons (z_par2 (i := 2) (j := 3) c.toOk nd (s_add c.toOk s_int (s_call c d__law_draw (by decide) (a_cons (s_var (i := 0)) (a_cons (s_var (i := 1)) a_nil)))) (s_call c d__law_draw (by decide) (a_cons (s_var (i := 0)) (a_cons s_int a_nil))))
  (b_cons (z_if (t_cmp (c_eq c.toOk) (s_var (i := 3)) s_int) (b_one (z_set (i := 4) nd (s_call c d__law_twisted (by decide) (a_cons (s_var (i := 2)) a_nil)))) (b_one (z_if (t_cmp (c_eq c.toOk) (s_var (i := 3)) s_int) (b_one (z_set (i := 4) nd (s_call c d__law_mirror (by decide) (a_cons (q_min2 c.toOk s_int (s_var (i := 2))) a_nil)))) (b_one (z_if (t_cmp (c_eq c.toOk) (s_var (i := 3)) s_int) (b_one (z_set (i := 4) nd (s_call c d__law_lone (by decide) (a_cons (q_max2 c.toOk s_int (s_var (i := 2))) a_nil)))) (b_cons (z_set (i := 5) nd (s_call c d__law_mixed (by decide) (a_cons (s_var (i := 0)) (a_cons (s_call c d__law_all (by decide) (a_cons (s_var (i := 2)) a_nil)) a_nil))))
  (b_one (z_set (i := 4) nd (s_sl01 c.toOk (s_var (i := 5)) (s_add c.toOk s_int (s_call c d__law_draw (by decide) (a_cons (s_var (i := 0)) (a_cons (s_sub (q_min2 c.toOk s_int (q_len c.toOk (s_var (i := 5)))) s_int) a_nil)))))))))))))
  (b_cons (z_set (i := 6) nd (q_len c.toOk (s_ix c.toOk (s_var (i := 4)) s_int)))
  (b_cons (z_asg (s_tup (a_cons (s_call c d__law_mixed (by decide) (a_cons (s_var (i := 0)) (a_cons (f_val (f_lstRg1 c.toOk (s_var (i := 6)))) a_nil))) (a_cons (f_val (f_lc (own := [("_law_at", 10)]) c.toOk nd (i_rng1 c.toOk (nbg c.toOk "range") (s_var (i := 6))) (by first | exact L2.blkOk_by (by decide +kernel) | exact L2.blkOk_by (by kernel_rfl)) (by decide) (fun _ _ _ _ _ => (g_name (i := 10) nd)) (fun _ _ _ _ _ => ts_nil) (fun _ _ _ _ _ => (fun (cb : OkC g E0 2 _) => (s_call cb d__law_draw (by decide) (a_cons (s_var (i := 0)) (a_cons s_int a_nil)))) (c.blk _ _ _ _ _)))) (a_cons (s_call c d__law_draw (by decide) (a_cons (s_var (i := 0)) (a_cons s_int a_nil))) a_nil)))) (g_tup c.toOk (gs_cons (g_name (i := 7) nd) (gs_cons (g_name (i := 8) nd) (gs_cons (g_name (i := 9) nd) gs_nil))) (n_cons (n_cons (n_cons n_nil)))))
  (b_cons (z_setLc (i := 4) (own := [("_law_row", 11)]) c.toOk nd rfl rfl (sw_true rfl rfl rfl (by decide +kernel)) (i_seq c.toOk (s_var (i := 4))) (by first | exact L2.blkOk_by (by decide +kernel) | exact L2.blkOk_by (by kernel_rfl)) (by decide) (fun _ _ _ _ _ => (g_name (i := 11) nd)) (fun _ _ _ _ _ => ts_nil) (fun _ _ _ _ _ => (fun (cb : OkC g E0 2 _) => (q_tuple cb.toOk (f_val (f_lc (own := [("_law_at", 10)]) cb.toOk nd (i_rng1 cb.toOk (nbg cb.toOk "range") (s_var (i := 6))) (by first | exact L2.blkOk_by (by decide +kernel) | exact L2.blkOk_by (by kernel_rfl)) (by decide) (fun _ _ _ _ _ => (g_name (i := 10) nd)) (fun _ _ _ _ _ => ts_nil) (fun _ _ _ _ _ => (fun (cbb : OkC g E0 2 _) => (s_mod (s_add cbb.toOk (s_ix cbb.toOk (s_var (i := 11)) (s_ix cbb.toOk (s_var (i := 7)) (s_var (i := 10)))) (s_ix cbb.toOk (s_var (i := 8)) (s_var (i := 10)))) s_int)) (cb.blk _ _ _ _ _)))))) (c.blk _ _ _ _ _)))
  (b_cons (z_set (i := 9) nd (s_mod (s_var (i := 9)) (q_len c.toOk (s_var (i := 4)))))
  (b_one (z_ret (q_tuple c.toOk (s_add c.toOk (s_sl10 c.toOk (s_var (i := 4)) (s_var (i := 9))) (s_sl01 c.toOk (s_var (i := 4)) (s_var (i := 9)))))))))))))
/-! ### _law_turned_words -/
abbrev n__law_turned_words : List Str := ["_law_words_here", "_law_by"]
def m__law_turned_words : Ms := (mRet (mBin fAdd (mSl10 (mVar 0) (mVar 1)) (mSl01 (mVar 0) (mVar 1))))
def f__law_turned_words : Fn := mkFn 2 2 m__law_turned_words
theorem b__law_turned_words {g : Gs}  : ∀ (E : XK) (w0 : Wd) (H0 : Hp) (X : Cx), OkC g E 0 X → PassesOwn (model X.prog X.w) X.A X.env X.xe → L2N.Takes X (fun cls d _ H => E cls d H) → X.N = n__law_turned_words → X.env.scope = defScope (t__law_turned_words) → X.fn = (fun _ => true) → SndB g E w0 H0 X (defBody (t__law_turned_words)) m__law_turned_words := by
  intro E w0 H0 X c po tk hN hs hf
  obtain ⟨prog, w', K, mg, base, A, N, s_0, H_0, ⟨e1, e2, e3, e4, e5, e6, e7, e8, e9⟩, outer, stack, ex, fn, calm, pn, xe⟩ := X
  simp only at hN hs hf
  subst hN hs hf
  have nd : (n__law_turned_words).Nodup := by decide +kernel
  exact (b_one (z_ret (s_add c.toOk (s_sl10 c.toOk (s_var (i := 0)) (s_var (i := 1))) (s_sl01 c.toOk (s_var (i := 0)) (s_var (i := 1))))))
/-! ### _law_renamed_words -/
abbrev n__law_renamed_words : List Str := ["_law_words_here", "_law_order", "_law_found", "_law_row", "_law_bits", "_law_at"]
def m__law_renamed_words : Ms := (mSeq (mSetO 2 (mLst mNil))
  (mSeq (mFor (gN 3) (mItems (mVar 0)) (mSeq (mSetO 4 (mBin fMulL (mLst (mCons (mC (.int 0)) mNil)) (m1 fLen (mVar 3))))
  (mSeq (mFor (gN 5) (mRng1 (m1 fLen (mVar 3))) (mSetOwn 4 (mBin fIx (mVar 1) (mVar 5)) (mBin fIx (mVar 3) (mVar 5))))
  (mApp 2 (m1 fTupO (mBor 4))))))
  (mRet (m1 fTupO (mBor 2)))))
def f__law_renamed_words : Fn := mkFn 2 6 m__law_renamed_words
theorem b__law_renamed_words {g : Gs}  : ∀ (E : XK) (w0 : Wd) (H0 : Hp) (X : Cx), OkC g E 0 X → PassesOwn (model X.prog X.w) X.A X.env X.xe → L2N.Takes X (fun cls d _ H => E cls d H) → X.N = n__law_renamed_words → X.env.scope = defScope (t__law_renamed_words) → X.fn = (fun _ => true) → SndB g E w0 H0 X (defBody (t__law_renamed_words)) m__law_renamed_words := by
  intro E w0 H0 X c po tk hN hs hf
  obtain ⟨prog, w', K, mg, base, A, N, s_0, H_0, ⟨e1, e2, e3, e4, e5, e6, e7, e8, e9⟩, outer, stack, ex, fn, calm, pn, xe⟩ := X
  simp only at hN hs hf
  subst hN hs hf
  have nd : (n__law_renamed_words).Nodup := by decide +kernel
  exact (b_cons (z_setO (i := 2) nd (f_lst a_nil))
  (b_cons (z_for c.toOk po (i_seq c.toOk (s_var (i := 0))) (g_name (i := 3) nd) (b_cons (z_setO (i := 4) nd (f_mul (f_val (f_lst (a_cons s_int a_nil))) (q_len c.toOk (s_var (i := 3)))))
  (b_cons (z_for c.toOk po (i_rng1 c.toOk (nbg c.toOk "range") (q_len c.toOk (s_var (i := 3)))) (g_name (i := 5) nd) (b_one (z_setOwn (i := 4) (s_ix c.toOk (s_var (i := 3)) (s_var (i := 5))) (s_ix c.toOk (s_var (i := 1)) (s_var (i := 5))))))
  (b_one (z_app (i := 2) (q_tuple c.toOk (s_bor (i := 4))))))))
  (b_one (z_ret (q_tuple c.toOk (s_bor (i := 2)))))))
/-! ### _law_flipped_words -/
abbrev n__law_flipped_words : List Str := ["_law_words_here", "_law_spots", "_law_row", "_law_at"]
def m__law_flipped_words : Ms := (mRet (m1 fTupO (mLc [2] (gN 2) (mItems (mVar 0)) mYes (m1 fTupO (mLc [3] (gN 3) (mRng1 (m1 fLen (mVar 2))) mYes (mIte (mCmpT (fInD fun b => b) (mVar 3) (mVar 1)) (mBin fSub (mC (.int 1)) (mBin fIx (mVar 2) (mVar 3))) (mBin fIx (mVar 2) (mVar 3))))))))
def f__law_flipped_words : Fn := mkFn 2 4 m__law_flipped_words
theorem b__law_flipped_words {g : Gs}  : ∀ (E : XK) (w0 : Wd) (H0 : Hp) (X : Cx), OkC g E 0 X → PassesOwn (model X.prog X.w) X.A X.env X.xe → L2N.Takes X (fun cls d _ H => E cls d H) → X.N = n__law_flipped_words → X.env.scope = defScope (t__law_flipped_words) → X.fn = (fun _ => true) → SndB g E w0 H0 X (defBody (t__law_flipped_words)) m__law_flipped_words := by
  intro E w0 H0 X c po tk hN hs hf
  obtain ⟨prog, w', K, mg, base, A, N, s_0, H_0, ⟨e1, e2, e3, e4, e5, e6, e7, e8, e9⟩, outer, stack, ex, fn, calm, pn, xe⟩ := X
  simp only at hN hs hf
  subst hN hs hf
  have nd : (n__law_flipped_words).Nodup := by decide +kernel
  exact (b_one (z_ret (q_tuple c.toOk (f_val (f_lc (own := [("_law_row", 2)]) c.toOk nd (i_seq c.toOk (s_var (i := 0))) (by first | exact L2.blkOk_by (by decide +kernel) | exact L2.blkOk_by (by kernel_rfl)) (by decide) (fun _ _ _ _ _ => (g_name (i := 2) nd)) (fun _ _ _ _ _ => ts_nil) (fun _ _ _ _ _ => (fun (cb : OkC g E0 0 _) => (q_tuple cb.toOk (f_val (f_lc (own := [("_law_at", 3)]) cb.toOk nd (i_rng1 cb.toOk (nbg cb.toOk "range") (q_len cb.toOk (s_var (i := 2)))) (by first | exact L2.blkOk_by (by decide +kernel) | exact L2.blkOk_by (by kernel_rfl)) (by decide) (fun _ _ _ _ _ => (g_name (i := 3) nd)) (fun _ _ _ _ _ => ts_nil) (fun _ _ _ _ _ => (fun (cbb : OkC g E0 0 _) => (s_ite (t_cmp (c_inA cbb.toOk) (s_var (i := 3)) (s_var (i := 1))) (s_sub s_int (s_ix cbb.toOk (s_var (i := 2)) (s_var (i := 3)))) (s_ix cbb.toOk (s_var (i := 2)) (s_var (i := 3))))) (cb.blk _ _ _ _ _)))))) (c.blk _ _ _ _ _)))))))
/-! ### _law_back_words -/
abbrev n__law_back_words : List Str := ["_law_words_here"]
def m__law_back_words : Ms := (mRet (mBin fAdd (mSl01 (mVar 0) (mC (.int 1))) (m1 fRev (mSl10 (mVar 0) (mC (.int 1))))))
def f__law_back_words : Fn := mkFn 1 1 m__law_back_words
theorem b__law_back_words {g : Gs}  : ∀ (E : XK) (w0 : Wd) (H0 : Hp) (X : Cx), OkC g E 0 X → PassesOwn (model X.prog X.w) X.A X.env X.xe → L2N.Takes X (fun cls d _ H => E cls d H) → X.N = n__law_back_words → X.env.scope = defScope (t__law_back_words) → X.fn = (fun _ => true) → SndB g E w0 H0 X (defBody (t__law_back_words)) m__law_back_words := by
  intro E w0 H0 X c po tk hN hs hf
  obtain ⟨prog, w', K, mg, base, A, N, s_0, H_0, ⟨e1, e2, e3, e4, e5, e6, e7, e8, e9⟩, outer, stack, ex, fn, calm, pn, xe⟩ := X
  simp only at hN hs hf
  subst hN hs hf
  have nd : (n__law_back_words).Nodup := by decide +kernel
  exact (b_one (z_ret (s_add c.toOk (s_sl01 c.toOk (s_var (i := 0)) s_int) (s_rev c.toOk (s_sl10 c.toOk (s_var (i := 0)) s_int)))))
/-! ### _law_rest -/
abbrev n__law_rest : List Str := ["_law_words_here", "_law_order", "_law_spots", "_law_way", "_law_some"]
def m__law_rest : Ms := (mSeq (mSet 4 (mCall f__law_renamed_words [] (mCons (mCall f__law_flipped_words [] (mCons (mVar 0) (mCons (mVar 2) mNil))) (mCons (mVar 1) mNil))))
  (mRet (mIte (mCmpT fEq (mVar 3) (mNeg (mC (.int 1)))) (mCall f__law_back_words [] (mCons (mVar 4) mNil)) (mVar 4))))
def f__law_rest : Fn := mkFn 4 5 m__law_rest
theorem b__law_rest {g : Gs}  (d__law_renamed_words : Def g 1 "_law_renamed_words" [] f__law_renamed_words) (d__law_flipped_words : Def g 1 "_law_flipped_words" [] f__law_flipped_words) (d__law_back_words : Def g 1 "_law_back_words" [] f__law_back_words) : ∀ (E : XK) (w0 : Wd) (H0 : Hp) (X : Cx), OkC g E 1 X → PassesOwn (model X.prog X.w) X.A X.env X.xe → L2N.Takes X (fun cls d _ H => E cls d H) → X.N = n__law_rest → X.env.scope = defScope (t__law_rest) → X.fn = (fun _ => true) → SndB g E w0 H0 X (defBody (t__law_rest)) m__law_rest := by
  intro E w0 H0 X c po tk hN hs hf
  obtain ⟨prog, w', K, mg, base, A, N, s_0, H_0, ⟨e1, e2, e3, e4, e5, e6, e7, e8, e9⟩, outer, stack, ex, fn, calm, pn, xe⟩ := X
  simp only at hN hs hf
  subst hN hs hf
  have nd : (n__law_rest).Nodup := by decide +kernel
  exact (b_cons (z_set (i := 4) nd (s_call c d__law_renamed_words (by decide) (a_cons (s_call c d__law_flipped_words (by decide) (a_cons (s_var (i := 0)) (a_cons (s_var (i := 2)) a_nil))) (a_cons (s_var (i := 1)) a_nil))))
  (b_one (z_ret (s_ite (t_cmp (c_eq c.toOk) (s_var (i := 3)) (s_neg s_int)) (s_call c d__law_back_words (by decide) (a_cons (s_var (i := 4)) a_nil)) (s_var (i := 4))))))
/-! ### _law_near -/
abbrev n__law_near : List Str := ["_law_pen_here", "_law_words_here", "_law_wide", "_law_by", "_law_order", "_law_way", "_law_spots", "_law_at", "_law_found"]
def m__law_near : Ms := (mSeq (mAsg (gT (gsC (gN 2) (gsC (gN 3) gs0))) (mTup (mCons (m1 fLen (mBin fIx (mVar 1) (mC (.int 0)))) (mCons (mCall f__law_draw [] (mCons (mVar 0) (mCons (m1 fLen (mVar 1)) mNil))) mNil))))
  (mSeq (mAsg (gT (gsC (gN 4) (gsC (gN 5) gs0))) (mTup (mCons (m1 fTupO (mCall f__law_mixed [] (mCons (mVar 0) (mCons (m1 (fRg1 D.lst) (mVar 2)) mNil)))) (mCons (mBin fIx (mLst (mCons (mNeg (mC (.int 1))) (mCons (mC (.int 1)) mNil))) (mCall f__law_draw [] (mCons (mVar 0) (mCons (mC (.int 2)) mNil)))) mNil))))
  (mSeq (mSet 6 (m1 fTupO (mLc [7] (gN 7) (mRng1 (mVar 2)) (mCmpT fEq (mCall f__law_draw [] (mCons (mVar 0) (mCons (mC (.int 2)) mNil))) (mC (.int 0))) (mVar 7))))
  (mSeq (mSet 8 (mCall f__law_turned_words [] (mCons (mCall f__law_rest [] (mCons (mVar 1) (mCons (mVar 4) (mCons (mVar 6) (mCons (mVar 5) mNil))))) (mCons (mVar 3) mNil))))
  (mSeq (mIf (mCmpT fGt (mCall f__law_draw [] (mCons (mVar 0) (mCons (mC (.int 3)) mNil))) (mC (.int 0))) (mRet (mVar 8)) mSkip)
  (mRet (mBin fAdd (mBin fAdd (mSl11 (mVar 8) (mC (.int 1)) (mC (.int 2))) (mSl01 (mVar 8) (mC (.int 1)))) (mSl10 (mVar 8) (mC (.int 2))))))))))
def f__law_near : Fn := mkFn 2 9 m__law_near
theorem b__law_near {g : Gs}  (d__law_draw : Def g 1 "_law_draw" [] f__law_draw) (d__law_mixed : Def g 2 "_law_mixed" [] f__law_mixed) (d__law_turned_words : Def g 1 "_law_turned_words" [] f__law_turned_words) (d__law_rest : Def g 2 "_law_rest" [] f__law_rest) : ∀ (E : XK) (w0 : Wd) (H0 : Hp) (X : Cx), OkC g E 2 X → PassesOwn (model X.prog X.w) X.A X.env X.xe → L2N.Takes X (fun cls d _ H => E cls d H) → X.N = n__law_near → X.env.scope = defScope (t__law_near) → X.fn = (fun _ => true) → SndB g E w0 H0 X (defBody (t__law_near)) m__law_near := by
  intro E w0 H0 X c po tk hN hs hf
  obtain ⟨prog, w', K, mg, base, A, N, s_0, H_0, ⟨e1, e2, e3, e4, e5, e6, e7, e8, e9⟩, outer, stack, ex, fn, calm, pn, xe⟩ := X
  simp only at hN hs hf
  subst hN hs hf
  have nd : (n__law_near).Nodup := by decide +kernel
  exact (b_cons (z_par2 (i := 2) (j := 3) c.toOk nd (q_len c.toOk (s_ix c.toOk (s_var (i := 1)) s_int)) (s_call c d__law_draw (by decide) (a_cons (s_var (i := 0)) (a_cons (q_len c.toOk (s_var (i := 1))) a_nil))))
  (b_cons (z_par2 (i := 4) (j := 5) c.toOk nd (q_tuple c.toOk (s_call c d__law_mixed (by decide) (a_cons (s_var (i := 0)) (a_cons (f_val (f_lstRg1 c.toOk (s_var (i := 2)))) a_nil)))) (s_ix c.toOk (f_val (f_lst (a_cons (s_neg s_int) (a_cons s_int a_nil)))) (s_call c d__law_draw (by decide) (a_cons (s_var (i := 0)) (a_cons s_int a_nil)))))
  (b_cons (z_set (i := 6) nd (q_tuple c.toOk (f_val (f_lc (own := [("_law_at", 7)]) c.toOk nd (i_rng1 c.toOk (nbg c.toOk "range") (s_var (i := 2))) (by first | exact L2.blkOk_by (by decide +kernel) | exact L2.blkOk_by (by kernel_rfl)) (by decide) (fun _ _ _ _ _ => (g_name (i := 7) nd)) (fun _ _ _ _ _ => (fun (cb : OkC g E0 2 _) => (ts_one (t_cmp (c_eq cb.toOk) (s_call cb d__law_draw (by decide) (a_cons (s_var (i := 0)) (a_cons s_int a_nil))) s_int))) (c.blk _ _ _ _ _)) (fun _ _ _ _ _ => (s_var (i := 7)))))))
  (b_cons (z_set (i := 8) nd (s_call c d__law_turned_words (by decide) (a_cons (s_call c d__law_rest (by decide) (a_cons (s_var (i := 1)) (a_cons (s_var (i := 4)) (a_cons (s_var (i := 6)) (a_cons (s_var (i := 5)) a_nil))))) (a_cons (s_var (i := 3)) a_nil))))
  (b_cons (z_if (t_cmp c_gt (s_call c d__law_draw (by decide) (a_cons (s_var (i := 0)) (a_cons s_int a_nil))) s_int) (b_one (z_ret (s_var (i := 8)))) b_nil)
  (b_one (z_ret (s_add c.toOk (s_add c.toOk (s_sl11 c.toOk (s_var (i := 8)) s_int s_int) (s_sl01 c.toOk (s_var (i := 8)) s_int)) (s_sl10 c.toOk (s_var (i := 8)) s_int)))))))))
/-! ### _law_orders -/
abbrev n__law_orders : List Str := ["_law_many", "_law_found", "_law_turn", "_law_longer", "_law_order", "_law_one"]
def m__law_orders : Ms := (mSeq (mSet 1 (mLst (mCons (mTup mNil) mNil)))
  (mSeq (mFor (gN 2) (mRng1 (mVar 0)) (mSeq (mSetO 3 (mLst mNil))
  (mSeq (mFor (gN 4) (mItems (mVar 1)) (mExt 3 (mLc [5] (gN 5) (mRng1 (mVar 0)) (mCmpT (fInD fun b => !b) (mVar 5) (mVar 4)) (mBin fAdd (mVar 4) (mTup (mCons (mVar 5) mNil))))))
  (mFrz 3 (mSet 1 (mVar 3))))))
  (mRet (mVar 1))))
def f__law_orders : Fn := mkFn 1 6 m__law_orders
theorem b__law_orders {g : Gs}  : ∀ (E : XK) (w0 : Wd) (H0 : Hp) (X : Cx), OkC g E 0 X → PassesOwn (model X.prog X.w) X.A X.env X.xe → L2N.Takes X (fun cls d _ H => E cls d H) → X.N = n__law_orders → X.env.scope = defScope (t__law_orders) → X.fn = (fun _ => true) → SndB g E w0 H0 X (defBody (t__law_orders)) m__law_orders := by
  intro E w0 H0 X c po tk hN hs hf
  obtain ⟨prog, w', K, mg, base, A, N, s_0, H_0, ⟨e1, e2, e3, e4, e5, e6, e7, e8, e9⟩, outer, stack, ex, fn, calm, pn, xe⟩ := X
  simp only at hN hs hf
  subst hN hs hf
  have nd : (n__law_orders).Nodup := by decide +kernel
  exact (b_cons (z_set (i := 1) nd (f_val (f_lst (a_cons (s_tup a_nil) a_nil))))
  (b_cons (z_for c.toOk po (i_rng1 c.toOk (nbg c.toOk "range") (s_var (i := 0))) (g_name (i := 2) nd) (b_cons (z_setO (i := 3) nd (f_lst a_nil))
  (b_cons (z_for c.toOk po (i_seq c.toOk (s_var (i := 1))) (g_name (i := 4) nd) (b_one (z_ext (i := 3) (f_val (f_lc (own := [("_law_one", 5)]) c.toOk nd (i_rng1 c.toOk (nbg c.toOk "range") (s_var (i := 0))) (by first | exact L2.blkOk_by (by decide +kernel) | exact L2.blkOk_by (by kernel_rfl)) (by decide) (fun _ _ _ _ _ => (g_name (i := 5) nd)) (fun _ _ _ _ _ => (fun (cb : OkC g E0 0 _) => (ts_one (t_cmp (c_notinA cb.toOk) (s_var (i := 5)) (s_var (i := 4))))) (c.blk _ _ _ _ _)) (fun _ _ _ _ _ => (fun (cb : OkC g E0 0 _) => (s_add cb.toOk (s_var (i := 4)) (s_tup (a_cons (s_var (i := 5)) a_nil)))) (c.blk _ _ _ _ _)))))))
  (b_one (s_frz (i := 3) (z_set (i := 1) nd (s_var (i := 3))))))))
  (b_one (z_ret (s_var (i := 1))))))
/-! ### _law_due -/
abbrev n__law_due : List Str := ["_law_words_here", "_law_other", "_law_begin", "_law_way", "_law_order", "_law_some", "_law_spots", "_law_at"]
def m__law_due : Ms := (mSeq (mIf (mOrT (mCmpT fNe (m1 fLen (mVar 0)) (m1 fLen (mVar 1))) (mCmpT fNe (m1 fLen (mBin fIx (mVar 0) (mC (.int 0)))) (m1 fLen (mBin fIx (mVar 1) (mC (.int 0)))))) (mRet (mC .none)) mSkip)
  (mSeq (mFor (gN 2) (mRng1 (m1 fLen (mVar 0))) (mFor (gN 3) (mItems (mTup (mCons (mNeg (mC (.int 1))) (mCons (mC (.int 1)) mNil)))) (mFor (gN 4) (mItems (mCall f__law_orders [] (mCons (m1 fLen (mBin fIx (mVar 0) (mC (.int 0)))) mNil))) (mSeq (mSet 5 (mCall f__law_turned_words [] (mCons (mCall f__law_rest [] (mCons (mVar 0) (mCons (mVar 4) (mCons (mTup mNil) (mCons (mVar 3) mNil))))) (mCons (mVar 2) mNil))))
  (mSeq (mSet 6 (m1 fTupO (mLc [7] (gN 7) (mRng1 (m1 fLen (mVar 4))) (mCmpT fNe (mBin fIx (mBin fIx (mVar 5) (mC (.int 0))) (mBin fIx (mVar 4) (mVar 7))) (mBin fIx (mBin fIx (mVar 1) (mC (.int 0))) (mBin fIx (mVar 4) (mVar 7)))) (mVar 7))))
  (mIf (mCmpT fEq (mCall f__law_turned_words [] (mCons (mCall f__law_rest [] (mCons (mVar 0) (mCons (mVar 4) (mCons (mVar 6) (mCons (mVar 3) mNil))))) (mCons (mVar 2) mNil))) (mVar 1)) (mRet (mTup (mCons (mVar 2) (mCons (mVar 3) (mCons (mVar 4) (mCons (mVar 6) mNil)))))) mSkip))))))
  (mRet (mC .none))))
def f__law_due : Fn := mkFn 2 8 m__law_due
theorem b__law_due {g : Gs}  (d__law_orders : Def g 1 "_law_orders" [] f__law_orders) (d__law_turned_words : Def g 1 "_law_turned_words" [] f__law_turned_words) (d__law_rest : Def g 2 "_law_rest" [] f__law_rest) : ∀ (E : XK) (w0 : Wd) (H0 : Hp) (X : Cx), OkC g E 2 X → PassesOwn (model X.prog X.w) X.A X.env X.xe → L2N.Takes X (fun cls d _ H => E cls d H) → X.N = n__law_due → X.env.scope = defScope (t__law_due) → X.fn = (fun _ => true) → SndB g E w0 H0 X (defBody (t__law_due)) m__law_due := by
  intro E w0 H0 X c po tk hN hs hf
  obtain ⟨prog, w', K, mg, base, A, N, s_0, H_0, ⟨e1, e2, e3, e4, e5, e6, e7, e8, e9⟩, outer, stack, ex, fn, calm, pn, xe⟩ := X
  simp only at hN hs hf
  subst hN hs hf
  have nd : (n__law_due).Nodup := by decide +kernel
  exact (b_cons (z_if (t_w (w_or (t_cmp (c_ne c.toOk) (q_len c.toOk (s_var (i := 0))) (q_len c.toOk (s_var (i := 1)))) (w_or1 (t_cmp (c_ne c.toOk) (q_len c.toOk (s_ix c.toOk (s_var (i := 0)) s_int)) (q_len c.toOk (s_ix c.toOk (s_var (i := 1)) s_int)))))) (b_one (z_ret s_none)) b_nil)
  (b_cons (z_for c.toOk po (i_rng1 c.toOk (nbg c.toOk "range") (q_len c.toOk (s_var (i := 0)))) (g_name (i := 2) nd) (b_one (z_for c.toOk po (i_seq c.toOk (s_tup (a_cons (s_neg s_int) (a_cons s_int a_nil)))) (g_name (i := 3) nd) (b_one (z_for c.toOk po (i_seq c.toOk (s_call c d__law_orders (by decide) (a_cons (q_len c.toOk (s_ix c.toOk (s_var (i := 0)) s_int)) a_nil))) (g_name (i := 4) nd) (b_cons (z_set (i := 5) nd (s_call c d__law_turned_words (by decide) (a_cons (s_call c d__law_rest (by decide) (a_cons (s_var (i := 0)) (a_cons (s_var (i := 4)) (a_cons (s_tup a_nil) (a_cons (s_var (i := 3)) a_nil))))) (a_cons (s_var (i := 2)) a_nil))))
  (b_cons (z_set (i := 6) nd (q_tuple c.toOk (f_val (f_lc (own := [("_law_at", 7)]) c.toOk nd (i_rng1 c.toOk (nbg c.toOk "range") (q_len c.toOk (s_var (i := 4)))) (by first | exact L2.blkOk_by (by decide +kernel) | exact L2.blkOk_by (by kernel_rfl)) (by decide) (fun _ _ _ _ _ => (g_name (i := 7) nd)) (fun _ _ _ _ _ => (fun (cb : OkC g E0 2 _) => (ts_one (t_cmp (c_ne cb.toOk) (s_ix cb.toOk (s_ix cb.toOk (s_var (i := 5)) s_int) (s_ix cb.toOk (s_var (i := 4)) (s_var (i := 7)))) (s_ix cb.toOk (s_ix cb.toOk (s_var (i := 1)) s_int) (s_ix cb.toOk (s_var (i := 4)) (s_var (i := 7))))))) (c.blk _ _ _ _ _)) (fun _ _ _ _ _ => (s_var (i := 7)))))))
  (b_one (z_if (t_cmp (c_eq c.toOk) (s_call c d__law_turned_words (by decide) (a_cons (s_call c d__law_rest (by decide) (a_cons (s_var (i := 0)) (a_cons (s_var (i := 4)) (a_cons (s_var (i := 6)) (a_cons (s_var (i := 3)) a_nil))))) (a_cons (s_var (i := 2)) a_nil))) (s_var (i := 1))) (b_one (z_ret (s_tup (a_cons (s_var (i := 2)) (a_cons (s_var (i := 3)) (a_cons (s_var (i := 4)) (a_cons (s_var (i := 6)) a_nil))))))) b_nil)))))))))
  (b_one (z_ret s_none))))
/-! ### word_in -/
abbrev n_word_in : List Str := ["line", "sign"]
def m_word_in : Ms := (mRet (m1 fTupO (mLc [1] (gN 1) (mItems (mVar 0)) mYes (mIte (mCmpT (fInD fun b => b) (mVar 1) (mC (.tup [(.str (Str.ofString "0")), (.str (Str.ofString "1"))]))) (m1 (fIxS [Str.ofString "0", Str.ofString "1"]) (mVar 1)) (mC (.int (-1)))))))
def f_word_in : Fn := mkFn 1 2 m_word_in
theorem b_word_in {g : Gs} (G_SIGNS : GlobC g "SIGNS" (.tup [(.str (Str.ofString "0")), (.str (Str.ofString "1"))])) (T_SIGNS : GlobT g "SIGNS" [Str.ofString "0", Str.ofString "1"]) (G_NO_WORD : GlobC g "NO_WORD" (.int (-1))) : ∀ (E : XK) (w0 : Wd) (H0 : Hp) (X : Cx), OkC g E 0 X → PassesOwn (model X.prog X.w) X.A X.env X.xe → L2N.Takes X (fun cls d _ H => E cls d H) → X.N = n_word_in → X.env.scope = defScope (t_word_in) → X.fn = (fun _ => true) → SndB g E w0 H0 X (defBody (t_word_in)) m_word_in := by
  intro E w0 H0 X c po tk hN hs hf
  obtain ⟨prog, w', K, mg, base, A, N, s_0, H_0, ⟨e1, e2, e3, e4, e5, e6, e7, e8, e9⟩, outer, stack, ex, fn, calm, pn, xe⟩ := X
  simp only at hN hs hf
  subst hN hs hf
  have nd : (n_word_in).Nodup := by decide +kernel
  exact (b_one (z_ret (q_tuple c.toOk (f_val (f_lc (own := [("sign", 1)]) c.toOk nd (i_seq c.toOk (s_var (i := 0))) (by first | exact L2.blkOk_by (by decide +kernel) | exact L2.blkOk_by (by kernel_rfl)) (by decide) (fun _ _ _ _ _ => (g_name (i := 1) nd)) (fun _ _ _ _ _ => ts_nil) (fun _ _ _ _ _ => (fun (cb : OkC g E0 0 _) => (s_ite (t_cmp (c_inA cb.toOk) (s_var (i := 1)) (s_glob cb.toOk G_SIGNS)) (s_gIx cb.toOk T_SIGNS (s_var (i := 1))) (s_glob cb.toOk G_NO_WORD))) (c.blk _ _ _ _ _)))))))
/-! ### is_between -/
abbrev n_is_between : List Str := ["thing", "low", "high"]
def m_is_between : Ms := (mRet (mAnd (mIsB .int (mVar 0)) (mAnd (mNot (mIsB .bool (mVar 0))) (mChain fLe fLe (mVar 1) (mVar 0) (mVar 2)))))
def f_is_between : Fn := mkFn 3 3 m_is_between
theorem b_is_between {g : Gs}  : ∀ (E : XK) (w0 : Wd) (H0 : Hp) (X : Cx), OkC g E 0 X → PassesOwn (model X.prog X.w) X.A X.env X.xe → L2N.Takes X (fun cls d _ H => E cls d H) → X.N = n_is_between → X.env.scope = defScope (t_is_between) → X.fn = (fun _ => true) → SndB g E w0 H0 X (defBody (t_is_between)) m_is_between := by
  intro E w0 H0 X c po tk hN hs hf
  obtain ⟨prog, w', K, mg, base, A, N, s_0, H_0, ⟨e1, e2, e3, e4, e5, e6, e7, e8, e9⟩, outer, stack, ex, fn, calm, pn, xe⟩ := X
  simp only at hN hs hf
  subst hN hs hf
  have nd : (n_is_between).Nodup := by decide +kernel
  exact (b_one (z_ret (s_and c.toOk (s_isB c.toOk .int rfl (s_var (i := 0))) (s_and c.toOk (s_not c.toOk (s_isB c.toOk .bool rfl (s_var (i := 0)))) (s_one (s_chain c_le c_le (s_var (i := 1)) (s_var (i := 0)) (s_var (i := 2))))))))
/-! ### are_bits -/
abbrev n_are_bits : List Str := ["thing", "one"]
def m_are_bits : Ms := (mRet (mAnd (mIsB .tuple (mVar 0)) (m1 fAll (mLc [1] (gN 1) (mItems (mVar 0)) mYes (mCall f_is_between [] (mCons (mVar 1) (mCons (mC (.int 0)) (mCons (mC (.int 1)) mNil))))))))
def f_are_bits : Fn := mkFn 1 2 m_are_bits
theorem b_are_bits {g : Gs}  (d_is_between : Def g 1 "is_between" [] f_is_between) : ∀ (E : XK) (w0 : Wd) (H0 : Hp) (X : Cx), OkC g E 1 X → PassesOwn (model X.prog X.w) X.A X.env X.xe → L2N.Takes X (fun cls d _ H => E cls d H) → X.N = n_are_bits → X.env.scope = defScope (t_are_bits) → X.fn = (fun _ => true) → SndB g E w0 H0 X (defBody (t_are_bits)) m_are_bits := by
  intro E w0 H0 X c po tk hN hs hf
  obtain ⟨prog, w', K, mg, base, A, N, s_0, H_0, ⟨e1, e2, e3, e4, e5, e6, e7, e8, e9⟩, outer, stack, ex, fn, calm, pn, xe⟩ := X
  simp only at hN hs hf
  subst hN hs hf
  have nd : (n_are_bits).Nodup := by decide +kernel
  exact (b_one (z_ret (s_and c.toOk (s_isB c.toOk .tuple rfl (s_var (i := 0))) (s_one (q_all c.toOk (f_val (f_lc (own := [("one", 1)]) c.toOk nd (i_seq c.toOk (s_var (i := 0))) (by first | exact L2.blkOk_by (by decide +kernel) | exact L2.blkOk_by (by kernel_rfl)) (by decide) (fun _ _ _ _ _ => (g_name (i := 1) nd)) (fun _ _ _ _ _ => ts_nil) (fun _ _ _ _ _ => (fun (cb : OkC g E0 1 _) => (s_call cb d_is_between (by decide) (a_cons (s_var (i := 1)) (a_cons s_int (a_cons s_int a_nil))))) (c.blk _ _ _ _ _)))))))))
/-! ### are_words -/
abbrev n_are_words : List Str := ["thing", "word"]
def m_are_words : Ms := (mSeq (mIf (mOrT (mNotT (mChainT fLe fLe (mC (.int (2))) (m1 fLen (mVar 0)) (mC (.int (16))))) (mNotT (mT (m1 fAll (mLc [1] (gN 1) (mItems (mVar 0)) mYes (mCall f_are_bits [] (mCons (mVar 1) mNil))))))) (mRet (mC (.bool false))) mSkip)
  (mSeq (mIf (mOrT (mNotT (mChainT fLe fLe (mC (.int 1)) (m1 fLen (mBin fIx (mVar 0) (mC (.int 0)))) (mC (.int (5))))) (mNotT (mT (m1 fAll (mLc [1] (gN 1) (mItems (mVar 0)) mYes (mBin fEq (m1 fLen (mVar 1)) (m1 fLen (mBin fIx (mVar 0) (mC (.int 0)))))))))) (mRet (mC (.bool false))) mSkip)
  (mRet (mBin fEq (m1 fLenSet (mVar 0)) (m1 fLen (mVar 0))))))
def f_are_words : Fn := mkFn 1 2 m_are_words
theorem b_are_words {g : Gs} (G_FEWEST_VALUES : GlobC g "FEWEST_VALUES" (.int (2))) (G_MOST_VALUES : GlobC g "MOST_VALUES" (.int (16))) (G_MOST_BITS : GlobC g "MOST_BITS" (.int (5))) (d_are_bits : Def g 2 "are_bits" [] f_are_bits) : ∀ (E : XK) (w0 : Wd) (H0 : Hp) (X : Cx), OkC g E 2 X → PassesOwn (model X.prog X.w) X.A X.env X.xe → L2N.Takes X (fun cls d _ H => E cls d H) → X.N = n_are_words → X.env.scope = defScope (t_are_words) → X.fn = (fun _ => true) → SndB g E w0 H0 X (defBody (t_are_words)) m_are_words := by
  intro E w0 H0 X c po tk hN hs hf
  obtain ⟨prog, w', K, mg, base, A, N, s_0, H_0, ⟨e1, e2, e3, e4, e5, e6, e7, e8, e9⟩, outer, stack, ex, fn, calm, pn, xe⟩ := X
  simp only at hN hs hf
  subst hN hs hf
  have nd : (n_are_words).Nodup := by decide +kernel
  exact (b_cons (z_if (t_w (w_or (t_not (t_chain c_le c_le (s_glob c.toOk G_FEWEST_VALUES) (q_len c.toOk (s_var (i := 0))) (s_glob c.toOk G_MOST_VALUES))) (w_or1 (t_not (t_val c.toOk (q_all c.toOk (f_val (f_lc (own := [("word", 1)]) c.toOk nd (i_seq c.toOk (s_var (i := 0))) (by first | exact L2.blkOk_by (by decide +kernel) | exact L2.blkOk_by (by kernel_rfl)) (by decide) (fun _ _ _ _ _ => (g_name (i := 1) nd)) (fun _ _ _ _ _ => ts_nil) (fun _ _ _ _ _ => (fun (cb : OkC g E0 2 _) => (s_call cb d_are_bits (by decide) (a_cons (s_var (i := 1)) a_nil))) (c.blk _ _ _ _ _)))))))))) (b_one (z_ret s_bool)) b_nil)
  (b_cons (z_if (t_w (w_or (t_not (t_chain c_le c_le s_int (q_len c.toOk (s_ix c.toOk (s_var (i := 0)) s_int)) (s_glob c.toOk G_MOST_BITS))) (w_or1 (t_not (t_val c.toOk (q_all c.toOk (f_val (f_lc (own := [("word", 1)]) c.toOk nd (i_seq c.toOk (s_var (i := 0))) (by first | exact L2.blkOk_by (by decide +kernel) | exact L2.blkOk_by (by kernel_rfl)) (by decide) (fun _ _ _ _ _ => (g_name (i := 1) nd)) (fun _ _ _ _ _ => ts_nil) (fun _ _ _ _ _ => (fun (cb : OkC g E0 2 _) => (s_cmp (c_eq cb.toOk) (q_len cb.toOk (s_var (i := 1))) (q_len cb.toOk (s_ix cb.toOk (s_var (i := 0)) s_int)))) (c.blk _ _ _ _ _)))))))))) (b_one (z_ret s_bool)) b_nil)
  (b_one (z_ret (s_cmp (c_eq c.toOk) (s_lenSet c.toOk (s_var (i := 0))) (q_len c.toOk (s_var (i := 0))))))))
/-! ### Code.__init__ -/
abbrev n_CodeX_initX : List Str := ["self", "words", "value", "word"]
def m_CodeX_initX : Ms := (mSeq (mIf (mNotT (mT (mCall f_are_words [] (mCons (mVar 1) mNil)))) mBad mSkip)
  (mSeq (mFldJ 0 0 (mVar 1))
  (mFldJ 0 1 (mDc [2, 3] (gT (gsC (gN 2) (gsC (gN 3) gs0))) (mEnum (mVar 1)) mYes (mVar 3) (mVar 2)))))
def f_CodeX_initX : Fn := mkIniS 0 4 m_CodeX_initX
theorem b_CodeX_initX {g : Gs}  (d_are_words : Def g 3 "are_words" [] f_are_words) : ∀ (E : XK) (w0 : Wd) (H0 : Hp) (X : Cx), OkC g E 3 X → PassesOwn (model X.prog X.w) X.A X.env X.xe → L2N.Takes X (fun cls d _ H => E cls d H) → X.N = n_CodeX_initX → X.env.scope = defScope (t_CodeX_initX) → X.fn = (fun _ => true) → SndB g E w0 H0 X (defBody (t_CodeX_initX)) m_CodeX_initX := by
  intro E w0 H0 X c po tk hN hs hf
  obtain ⟨prog, w', K, mg, base, A, N, s_0, H_0, ⟨e1, e2, e3, e4, e5, e6, e7, e8, e9⟩, outer, stack, ex, fn, calm, pn, xe⟩ := X
  simp only at hN hs hf
  subst hN hs hf
  have nd : (n_CodeX_initX).Nodup := by decide +kernel
  exact (b_cons (z_if (t_not (t_val c.toOk (s_call c d_are_words (by decide) (a_cons (s_var (i := 1)) a_nil)))) (b_one z_bad) b_nil)
  (b_cons (z_fldSet (c := 0) (j := 0) c.toOk rfl (s_var (i := 1)))
  (b_one (z_fldSet (c := 0) (j := 1) c.toOk rfl (s_dc (own := [("value", 2), ("word", 3)]) c.toOk nd (i_enum c.toOk (s_var (i := 1))) (by first | exact L2.blkOk_by (by decide +kernel) | exact L2.blkOk_by (by kernel_rfl)) (by decide) (fun _ _ _ _ _ => (fun (cb : OkC g E0 3 _) => (g_tup cb.toOk (gs_cons (g_name (i := 2) nd) (gs_cons (g_name (i := 3) nd) gs_nil)) (n_cons (n_cons n_nil)))) (c.blk _ _ _ _ _)) (fun _ _ _ _ _ => ts_nil) (fun _ _ _ _ _ => (s_var (i := 3))) (fun _ _ _ _ _ => (s_var (i := 2))))))))
/-! ### Code.read -/
abbrev n_Code_read : List Str := ["cls", "text", "lines", "words", "line"]
def m_Code_read : Ms := (mSeq (mSet 2 (mIte (mT (mIsB .str (mVar 1))) (mSl01 (mMeth fSplit (mVar 1) (mC (.str (Str.ofString "\n")))) (mNeg (mC (.int 1)))) (mLst mNil)))
  (mSeq (mSet 3 (m1 fTupO (mLc [4] (gN 4) (mItems (mVar 2)) mYes (mCall f_word_in [] (mCons (mVar 4) mNil)))))
  (mSeq (mIf (mOrT (mNotT (mT (mCall f_are_words [] (mCons (mVar 3) mNil)))) (mCmpT fNe (mMeth fJoin (mC (.str (Str.ofString ""))) (mLc [4] (gN 4) (mItems (mVar 2)) mYes (mBin fAdd (mVar 4) (mC (.str (Str.ofString "\n")))))) (mVar 1))) mBad mSkip)
  (mRet (mMakeV 0 0 f_CodeX_initX (mVar 3))))))
def f_Code_read : Fn := mkFn 2 5 m_Code_read
theorem b_Code_read {g : Gs}  (d_word_in : Def g 1 "word_in" [] f_word_in) (d_are_words : Def g 3 "are_words" [] f_are_words) (d_CodeX_initX : Ini g 4 0 f_CodeX_initX) : ∀ (E : XK) (w0 : Wd) (H0 : Hp) (X : Cx), OkC g E 5 X → PassesOwn (model X.prog X.w) X.A X.env X.xe → L2N.Takes X (fun cls d _ H => E cls d H) → X.N = n_Code_read → X.env.scope = defScope (t_Code_read) → X.fn = (fun _ => true) → SndB g E w0 H0 X (defBody (t_Code_read)) m_Code_read := by
  intro E w0 H0 X c po tk hN hs hf
  obtain ⟨prog, w', K, mg, base, A, N, s_0, H_0, ⟨e1, e2, e3, e4, e5, e6, e7, e8, e9⟩, outer, stack, ex, fn, calm, pn, xe⟩ := X
  simp only at hN hs hf
  subst hN hs hf
  have nd : (n_Code_read).Nodup := by decide +kernel
  exact (b_cons (z_set (i := 2) nd (s_ite (t_val c.toOk (s_isB c.toOk .str rfl (s_var (i := 1)))) (s_sl01 c.toOk (f_split (s_var (i := 1)) s_str) (s_neg s_int)) (f_val (f_lst a_nil))))
  (b_cons (z_set (i := 3) nd (q_tuple c.toOk (f_val (f_lc (own := [("line", 4)]) c.toOk nd (i_seq c.toOk (s_var (i := 2))) (by first | exact L2.blkOk_by (by decide +kernel) | exact L2.blkOk_by (by kernel_rfl)) (by decide) (fun _ _ _ _ _ => (g_name (i := 4) nd)) (fun _ _ _ _ _ => ts_nil) (fun _ _ _ _ _ => (fun (cb : OkC g E0 5 _) => (s_call cb d_word_in (by decide) (a_cons (s_var (i := 4)) a_nil))) (c.blk _ _ _ _ _))))))
  (b_cons (z_if (t_w (w_or (t_not (t_val c.toOk (s_call c d_are_words (by decide) (a_cons (s_var (i := 3)) a_nil)))) (w_or1 (t_cmp (c_ne c.toOk) (s_join c.toOk s_str (f_val (f_lc (own := [("line", 4)]) c.toOk nd (i_seq c.toOk (s_var (i := 2))) (by first | exact L2.blkOk_by (by decide +kernel) | exact L2.blkOk_by (by kernel_rfl)) (by decide) (fun _ _ _ _ _ => (g_name (i := 4) nd)) (fun _ _ _ _ _ => ts_nil) (fun _ _ _ _ _ => (fun (cb : OkC g E0 5 _) => (s_add cb.toOk (s_var (i := 4)) s_str)) (c.blk _ _ _ _ _))))) (s_var (i := 1)))))) (b_one z_bad) b_nil)
  (b_one (z_ret (s_makeV (i := 0) c d_CodeX_initX (by decide) (s_var (i := 3))))))))
/-! ### _law_made -/
abbrev n__law_made : List Str := ["_law_words_here", "_law_row", "_law_bit"]
def m__law_made : Ms := (mRet (mCMth 0 f_Code_read (mCons (mMeth fJoin (mC (.str (Str.ofString ""))) (mLc [1] (gN 1) (mItems (mVar 0)) mYes (mBin fAdd (mMeth fJoin (mC (.str (Str.ofString ""))) (mLc [2] (gN 2) (mItems (mVar 1)) mYes (m1 fStrI (mVar 2)))) (mC (.str (Str.ofString "\n")))))) mNil)))
def f__law_made : Fn := mkFn 1 3 m__law_made
theorem b__law_made {g : Gs} (C_Code : ClsN g 0 "Code") (d_Code_read : CMt g 6 0 "read" f_Code_read) : ∀ (E : XK) (w0 : Wd) (H0 : Hp) (X : Cx), OkC g E 6 X → PassesOwn (model X.prog X.w) X.A X.env X.xe → L2N.Takes X (fun cls d _ H => E cls d H) → X.N = n__law_made → X.env.scope = defScope (t__law_made) → X.fn = (fun _ => true) → SndB g E w0 H0 X (defBody (t__law_made)) m__law_made := by
  intro E w0 H0 X c po tk hN hs hf
  obtain ⟨prog, w', K, mg, base, A, N, s_0, H_0, ⟨e1, e2, e3, e4, e5, e6, e7, e8, e9⟩, outer, stack, ex, fn, calm, pn, xe⟩ := X
  simp only at hN hs hf
  subst hN hs hf
  have nd : (n__law_made).Nodup := by decide +kernel
  exact (b_one (z_ret (s_cmth c d_Code_read C_Code (by decide) (a_cons (s_join c.toOk s_str (f_val (f_lc (own := [("_law_row", 1)]) c.toOk nd (i_seq c.toOk (s_var (i := 0))) (by first | exact L2.blkOk_by (by decide +kernel) | exact L2.blkOk_by (by kernel_rfl)) (by decide) (fun _ _ _ _ _ => (g_name (i := 1) nd)) (fun _ _ _ _ _ => ts_nil) (fun _ _ _ _ _ => (fun (cb : OkC g E0 6 _) => (s_add cb.toOk (s_join cb.toOk s_str (f_val (f_lc (own := [("_law_bit", 2)]) cb.toOk nd (i_seq cb.toOk (s_var (i := 1))) (by first | exact L2.blkOk_by (by decide +kernel) | exact L2.blkOk_by (by kernel_rfl)) (by decide) (fun _ _ _ _ _ => (g_name (i := 2) nd)) (fun _ _ _ _ _ => ts_nil) (fun _ _ _ _ _ => (fun (cbb : OkC g E0 6 _) => (q_str cbb.toOk (s_var (i := 2)))) (cb.blk _ _ _ _ _))))) s_str)) (c.blk _ _ _ _ _))))) a_nil))))
/-! ### _law_same -/
abbrev n__law_same : List Str := ["_law_found", "_law_due_here"]
def m__law_same : Ms := (mRet (mBin fEq (m1 fRepr (mVar 0)) (m1 fRepr (mVar 1))))
def f__law_same : Fn := mkFn 2 2 m__law_same
theorem b__law_same {g : Gs}  : ∀ (E : XK) (w0 : Wd) (H0 : Hp) (X : Cx), OkG g E 0 X → PassesOwn (model X.prog X.w) X.A X.env X.xe → L2N.Takes X (fun cls d _ H => E cls d H) → X.N = n__law_same → X.env.scope = defScope (t__law_same) → X.fn = (fun _ => true) → SndB g E w0 H0 X (defBody (t__law_same)) m__law_same := by
  intro E w0 H0 X cg po tk hN hs hf
  obtain ⟨prog, w', K, mg, base, A, N, s_0, H_0, ⟨e1, e2, e3, e4, e5, e6, e7, e8, e9⟩, outer, stack, ex, fn, calm, pn, xe⟩ := X
  simp only at hN hs hf
  subst hN hs hf
  have c := cg.toOkC
  have nd : (n__law_same).Nodup := by decide +kernel
  exact (b_one (z_ret (s_cmp (c_eq c.toOk) (q_repr cg (s_var (i := 0))) (q_repr cg (s_var (i := 1))))))
/-! ### need_code -/
abbrev n_need_code : List Str := ["thing"]
def m_need_code : Ms := (mIf (mNotT (mT (mIsC 0 (mVar 0)))) mBad mSkip)
def f_need_code : Fn := mkFn 1 1 m_need_code
theorem b_need_code {g : Gs} (C_Code : ClsN g 0 "Code") : ∀ (E : XK) (w0 : Wd) (H0 : Hp) (X : Cx), OkC g E 0 X → PassesOwn (model X.prog X.w) X.A X.env X.xe → L2N.Takes X (fun cls d _ H => E cls d H) → X.N = n_need_code → X.env.scope = defScope (t_need_code) → X.fn = (fun _ => true) → SndB g E w0 H0 X (defBody (t_need_code)) m_need_code := by
  intro E w0 H0 X c po tk hN hs hf
  obtain ⟨prog, w', K, mg, base, A, N, s_0, H_0, ⟨e1, e2, e3, e4, e5, e6, e7, e8, e9⟩, outer, stack, ex, fn, calm, pn, xe⟩ := X
  simp only at hN hs hf
  subst hN hs hf
  have nd : (n_need_code).Nodup := by decide +kernel
  exact (b_one (z_if (t_not (t_val c.toOk (s_isC c.toOk C_Code (s_var (i := 0))))) (b_one z_bad) b_nil))
/-! ### begun -/
abbrev n_begun : List Str := ["words", "by"]
def m_begun : Ms := (mRet (mBin fAdd (mSl10 (mVar 0) (mVar 1)) (mSl01 (mVar 0) (mVar 1))))
def f_begun : Fn := mkFn 2 2 m_begun
theorem b_begun {g : Gs}  : ∀ (E : XK) (w0 : Wd) (H0 : Hp) (X : Cx), OkC g E 0 X → PassesOwn (model X.prog X.w) X.A X.env X.xe → L2N.Takes X (fun cls d _ H => E cls d H) → X.N = n_begun → X.env.scope = defScope (t_begun) → X.fn = (fun _ => true) → SndB g E w0 H0 X (defBody (t_begun)) m_begun := by
  intro E w0 H0 X c po tk hN hs hf
  obtain ⟨prog, w', K, mg, base, A, N, s_0, H_0, ⟨e1, e2, e3, e4, e5, e6, e7, e8, e9⟩, outer, stack, ex, fn, calm, pn, xe⟩ := X
  simp only at hN hs hf
  subst hN hs hf
  have nd : (n_begun).Nodup := by decide +kernel
  exact (b_one (z_ret (s_add c.toOk (s_sl10 c.toOk (s_var (i := 0)) (s_var (i := 1))) (s_sl01 c.toOk (s_var (i := 0)) (s_var (i := 1))))))
/-! ### orders_of -/
abbrev n_orders_of : List Str := ["many", "found", "turn", "longer", "order", "number"]
def m_orders_of : Ms := (mSeq (mSet 1 (mLst (mCons (mTup mNil) mNil)))
  (mSeq (mFor (gN 2) (mRng1 (mVar 0)) (mSeq (mSetO 3 (mLst mNil))
  (mSeq (mFor (gN 4) (mItems (mVar 1)) (mExt 3 (mLc [5] (gN 5) (mRng1 (mVar 0)) (mCmpT (fInD fun b => !b) (mVar 5) (mVar 4)) (mTup (mStar (mVar 4) (mCons (mVar 5) mNil))))))
  (mFrz 3 (mSet 1 (mVar 3))))))
  (mRet (mVar 1))))
def f_orders_of : Fn := mkFn 1 6 m_orders_of
theorem b_orders_of {g : Gs}  : ∀ (E : XK) (w0 : Wd) (H0 : Hp) (X : Cx), OkC g E 0 X → PassesOwn (model X.prog X.w) X.A X.env X.xe → L2N.Takes X (fun cls d _ H => E cls d H) → X.N = n_orders_of → X.env.scope = defScope (t_orders_of) → X.fn = (fun _ => true) → SndB g E w0 H0 X (defBody (t_orders_of)) m_orders_of := by
  intro E w0 H0 X c po tk hN hs hf
  obtain ⟨prog, w', K, mg, base, A, N, s_0, H_0, ⟨e1, e2, e3, e4, e5, e6, e7, e8, e9⟩, outer, stack, ex, fn, calm, pn, xe⟩ := X
  simp only at hN hs hf
  subst hN hs hf
  have nd : (n_orders_of).Nodup := by decide +kernel
  exact (b_cons (z_set (i := 1) nd (f_val (f_lst (a_cons (s_tup a_nil) a_nil))))
  (b_cons (z_for c.toOk po (i_rng1 c.toOk (nbg c.toOk "range") (s_var (i := 0))) (g_name (i := 2) nd) (b_cons (z_setO (i := 3) nd (f_lst a_nil))
  (b_cons (z_for c.toOk po (i_seq c.toOk (s_var (i := 1))) (g_name (i := 4) nd) (b_one (z_ext (i := 3) (f_val (f_lc (own := [("number", 5)]) c.toOk nd (i_rng1 c.toOk (nbg c.toOk "range") (s_var (i := 0))) (by first | exact L2.blkOk_by (by decide +kernel) | exact L2.blkOk_by (by kernel_rfl)) (by decide) (fun _ _ _ _ _ => (g_name (i := 5) nd)) (fun _ _ _ _ _ => (fun (cb : OkC g E0 0 _) => (ts_one (t_cmp (c_notinA cb.toOk) (s_var (i := 5)) (s_var (i := 4))))) (c.blk _ _ _ _ _)) (fun _ _ _ _ _ => (fun (cb : OkC g E0 0 _) => (s_tup (a_star cb.toOk (s_var (i := 4)) (a_cons (s_var (i := 5)) a_nil)))) (c.blk _ _ _ _ _)))))))
  (b_one (s_frz (i := 3) (z_set (i := 1) nd (s_var (i := 3))))))))
  (b_one (z_ret (s_var (i := 1))))))
/-! ### backwards -/
abbrev n_backwards : List Str := ["words"]
def m_backwards : Ms := (mRet (mTup (mCons (mBin fIx (mVar 0) (mC (.int 0))) (mStar (m1 fBk1 (mVar 0)) mNil))))
def f_backwards : Fn := mkFn 1 1 m_backwards
theorem b_backwards {g : Gs}  : ∀ (E : XK) (w0 : Wd) (H0 : Hp) (X : Cx), OkC g E 0 X → PassesOwn (model X.prog X.w) X.A X.env X.xe → L2N.Takes X (fun cls d _ H => E cls d H) → X.N = n_backwards → X.env.scope = defScope (t_backwards) → X.fn = (fun _ => true) → SndB g E w0 H0 X (defBody (t_backwards)) m_backwards := by
  intro E w0 H0 X c po tk hN hs hf
  obtain ⟨prog, w', K, mg, base, A, N, s_0, H_0, ⟨e1, e2, e3, e4, e5, e6, e7, e8, e9⟩, outer, stack, ex, fn, calm, pn, xe⟩ := X
  simp only at hN hs hf
  subst hN hs hf
  have nd : (n_backwards).Nodup := by decide +kernel
  exact (b_one (z_ret (s_tup (a_cons (s_ix c.toOk (s_var (i := 0)) s_int) (a_star c.toOk (s_bk1 c.toOk (s_var (i := 0))) a_nil)))))
/-! ### placed -/
abbrev n_placed : List Str := ["word", "order", "bits", "bit", "place"]
def m_placed : Ms := (mSeq (mSetO 2 (mBin fMulL (mLst (mCons (mC (.int 0)) mNil)) (m1 fLen (mVar 0))))
  (mSeq (mFor (gT (gsC (gN 3) (gsC (gN 4) gs0))) (mZip2 (mVar 0) (mVar 1)) (mSetOwn 2 (mVar 4) (mVar 3)))
  (mRet (m1 fTupO (mBor 2)))))
def f_placed : Fn := mkFn 2 5 m_placed
theorem b_placed {g : Gs}  : ∀ (E : XK) (w0 : Wd) (H0 : Hp) (X : Cx), OkC g E 0 X → PassesOwn (model X.prog X.w) X.A X.env X.xe → L2N.Takes X (fun cls d _ H => E cls d H) → X.N = n_placed → X.env.scope = defScope (t_placed) → X.fn = (fun _ => true) → SndB g E w0 H0 X (defBody (t_placed)) m_placed := by
  intro E w0 H0 X c po tk hN hs hf
  obtain ⟨prog, w', K, mg, base, A, N, s_0, H_0, ⟨e1, e2, e3, e4, e5, e6, e7, e8, e9⟩, outer, stack, ex, fn, calm, pn, xe⟩ := X
  simp only at hN hs hf
  subst hN hs hf
  have nd : (n_placed).Nodup := by decide +kernel
  exact (b_cons (z_setO (i := 2) nd (f_mul (f_val (f_lst (a_cons s_int a_nil))) (q_len c.toOk (s_var (i := 0)))))
  (b_cons (z_for c.toOk po (i_zip2 c.toOk (s_var (i := 0)) (s_var (i := 1))) (g_tup c.toOk (gs_cons (g_name (i := 3) nd) (gs_cons (g_name (i := 4) nd) gs_nil)) (n_cons (n_cons n_nil))) (b_one (z_setOwn (i := 2) (s_var (i := 3)) (s_var (i := 4)))))
  (b_one (z_ret (q_tuple c.toOk (s_bor (i := 2)))))))
/-! ### exchanged -/
abbrev n_exchanged : List Str := ["words", "others", "order", "back", "place", "mine", "word", "places", "other"]
def m_exchanged : Ms := (mSeq (mSet 3 (mLc [4] (gN 4) (mRng1 (m1 fLen (mVar 2))) mYes (mIdxT (mVar 2) (mVar 4))))
  (mSeq (mSet 5 (mLc [6] (gN 6) (mItems (mVar 1)) mYes (mCall f_placed [] (mCons (mVar 6) (mCons (mVar 3) mNil)))))
  (mSeq (mSet 7 (m1 fTupO (mLc [4] (gN 4) (mRng1 (m1 fLen (mVar 2))) (mCmpT fNe (mBin fIx (mBin fIx (mVar 5) (mC (.int 0))) (mVar 4)) (mBin fIx (mBin fIx (mVar 0) (mC (.int 0))) (mVar 4))) (mVar 4))))
  (mSeq (mFor (gT (gsC (gN 6) (gsC (gN 8) gs0))) (mZip2 (mVar 0) (mVar 5)) (mIf (mCmpT fNe (m1 fTupO (mLc [4] (gN 4) (mRng1 (m1 fLen (mVar 2))) (mCmpT fNe (mBin fIx (mVar 8) (mVar 4)) (mBin fIx (mVar 6) (mVar 4))) (mVar 4))) (mVar 7)) (mRet (mC .none)) mSkip))
  (mRet (mVar 7))))))
def f_exchanged : Fn := mkFn 3 9 m_exchanged
theorem b_exchanged {g : Gs}  (d_placed : Def g 1 "placed" [] f_placed) : ∀ (E : XK) (w0 : Wd) (H0 : Hp) (X : Cx), OkC g E 1 X → PassesOwn (model X.prog X.w) X.A X.env X.xe → L2N.Takes X (fun cls d _ H => E cls d H) → X.N = n_exchanged → X.env.scope = defScope (t_exchanged) → X.fn = (fun _ => true) → SndB g E w0 H0 X (defBody (t_exchanged)) m_exchanged := by
  intro E w0 H0 X c po tk hN hs hf
  obtain ⟨prog, w', K, mg, base, A, N, s_0, H_0, ⟨e1, e2, e3, e4, e5, e6, e7, e8, e9⟩, outer, stack, ex, fn, calm, pn, xe⟩ := X
  simp only at hN hs hf
  subst hN hs hf
  have nd : (n_exchanged).Nodup := by decide +kernel
  exact (b_cons (z_set (i := 3) nd (f_val (f_lc (own := [("place", 4)]) c.toOk nd (i_rng1 c.toOk (nbg c.toOk "range") (q_len c.toOk (s_var (i := 2)))) (by first | exact L2.blkOk_by (by decide +kernel) | exact L2.blkOk_by (by kernel_rfl)) (by decide) (fun _ _ _ _ _ => (g_name (i := 4) nd)) (fun _ _ _ _ _ => ts_nil) (fun _ _ _ _ _ => (fun (cb : OkC g E0 1 _) => (s_idxT cb.toOk (s_var (i := 2)) (s_var (i := 4)))) (c.blk _ _ _ _ _)))))
  (b_cons (z_set (i := 5) nd (f_val (f_lc (own := [("word", 6)]) c.toOk nd (i_seq c.toOk (s_var (i := 1))) (by first | exact L2.blkOk_by (by decide +kernel) | exact L2.blkOk_by (by kernel_rfl)) (by decide) (fun _ _ _ _ _ => (g_name (i := 6) nd)) (fun _ _ _ _ _ => ts_nil) (fun _ _ _ _ _ => (fun (cb : OkC g E0 1 _) => (s_call cb d_placed (by decide) (a_cons (s_var (i := 6)) (a_cons (s_var (i := 3)) a_nil)))) (c.blk _ _ _ _ _)))))
  (b_cons (z_set (i := 7) nd (q_tuple c.toOk (f_val (f_lc (own := [("place", 4)]) c.toOk nd (i_rng1 c.toOk (nbg c.toOk "range") (q_len c.toOk (s_var (i := 2)))) (by first | exact L2.blkOk_by (by decide +kernel) | exact L2.blkOk_by (by kernel_rfl)) (by decide) (fun _ _ _ _ _ => (g_name (i := 4) nd)) (fun _ _ _ _ _ => (fun (cb : OkC g E0 1 _) => (ts_one (t_cmp (c_ne cb.toOk) (s_ix cb.toOk (s_ix cb.toOk (s_var (i := 5)) s_int) (s_var (i := 4))) (s_ix cb.toOk (s_ix cb.toOk (s_var (i := 0)) s_int) (s_var (i := 4)))))) (c.blk _ _ _ _ _)) (fun _ _ _ _ _ => (s_var (i := 4)))))))
  (b_cons (z_for c.toOk po (i_zip2 c.toOk (s_var (i := 0)) (s_var (i := 5))) (g_tup c.toOk (gs_cons (g_name (i := 6) nd) (gs_cons (g_name (i := 8) nd) gs_nil)) (n_cons (n_cons n_nil))) (b_one (z_if (t_cmp (c_ne c.toOk) (q_tuple c.toOk (f_val (f_lc (own := [("place", 4)]) c.toOk nd (i_rng1 c.toOk (nbg c.toOk "range") (q_len c.toOk (s_var (i := 2)))) (by first | exact L2.blkOk_by (by decide +kernel) | exact L2.blkOk_by (by kernel_rfl)) (by decide) (fun _ _ _ _ _ => (g_name (i := 4) nd)) (fun _ _ _ _ _ => (fun (cb : OkC g E0 1 _) => (ts_one (t_cmp (c_ne cb.toOk) (s_ix cb.toOk (s_var (i := 8)) (s_var (i := 4))) (s_ix cb.toOk (s_var (i := 6)) (s_var (i := 4)))))) (c.blk _ _ _ _ _)) (fun _ _ _ _ _ => (s_var (i := 4)))))) (s_var (i := 7))) (b_one (z_ret s_none)) b_nil)))
  (b_one (z_ret (s_var (i := 7))))))))
/-! ### Code.__len__ -/
abbrev n_CodeX_lenX : List Str := ["self"]
def m_CodeX_lenX : Ms := (mRet (m1 fLen (mFld 0 0 (mVar 0))))
def f_CodeX_lenX : Fn := mkFn 1 1 m_CodeX_lenX
theorem b_CodeX_lenX {g : Gs}  : ∀ (E : XK) (w0 : Wd) (H0 : Hp) (X : Cx), OkC g E 0 X → PassesOwn (model X.prog X.w) X.A X.env X.xe → L2N.Takes X (fun cls d _ H => E cls d H) → X.N = n_CodeX_lenX → X.env.scope = defScope (t_CodeX_lenX) → X.fn = (fun _ => true) → SndB g E w0 H0 X (defBody (t_CodeX_lenX)) m_CodeX_lenX := by
  intro E w0 H0 X c po tk hN hs hf
  obtain ⟨prog, w', K, mg, base, A, N, s_0, H_0, ⟨e1, e2, e3, e4, e5, e6, e7, e8, e9⟩, outer, stack, ex, fn, calm, pn, xe⟩ := X
  simp only at hN hs hf
  subst hN hs hf
  have nd : (n_CodeX_lenX).Nodup := by decide +kernel
  exact (b_one (z_ret (q_len c.toOk (s_fld (c := 0) (j := 0) c.toOk rfl (s_var (i := 0))))))
/-! ### Code.bits -/
abbrev n_Code_bits : List Str := ["self"]
def m_Code_bits : Ms := (mRet (m1 fLen (mBin fIx (mFld 0 0 (mVar 0)) (mC (.int 0)))))
def f_Code_bits : Fn := mkFn 1 1 m_Code_bits
theorem b_Code_bits {g : Gs}  : ∀ (E : XK) (w0 : Wd) (H0 : Hp) (X : Cx), OkC g E 0 X → PassesOwn (model X.prog X.w) X.A X.env X.xe → L2N.Takes X (fun cls d _ H => E cls d H) → X.N = n_Code_bits → X.env.scope = defScope (t_Code_bits) → X.fn = (fun _ => true) → SndB g E w0 H0 X (defBody (t_Code_bits)) m_Code_bits := by
  intro E w0 H0 X c po tk hN hs hf
  obtain ⟨prog, w', K, mg, base, A, N, s_0, H_0, ⟨e1, e2, e3, e4, e5, e6, e7, e8, e9⟩, outer, stack, ex, fn, calm, pn, xe⟩ := X
  simp only at hN hs hf
  subst hN hs hf
  have nd : (n_Code_bits).Nodup := by decide +kernel
  exact (b_one (z_ret (q_len c.toOk (s_ix c.toOk (s_fld (c := 0) (j := 0) c.toOk rfl (s_var (i := 0))) s_int))))
/-! ### Code.words -/
abbrev n_Code_words : List Str := ["self"]
def m_Code_words : Ms := (mRet (mFld 0 0 (mVar 0)))
def f_Code_words : Fn := mkFn 1 1 m_Code_words
theorem b_Code_words {g : Gs}  : ∀ (E : XK) (w0 : Wd) (H0 : Hp) (X : Cx), OkC g E 0 X → PassesOwn (model X.prog X.w) X.A X.env X.xe → L2N.Takes X (fun cls d _ H => E cls d H) → X.N = n_Code_words → X.env.scope = defScope (t_Code_words) → X.fn = (fun _ => true) → SndB g E w0 H0 X (defBody (t_Code_words)) m_Code_words := by
  intro E w0 H0 X c po tk hN hs hf
  obtain ⟨prog, w', K, mg, base, A, N, s_0, H_0, ⟨e1, e2, e3, e4, e5, e6, e7, e8, e9⟩, outer, stack, ex, fn, calm, pn, xe⟩ := X
  simp only at hN hs hf
  subst hN hs hf
  have nd : (n_Code_words).Nodup := by decide +kernel
  exact (b_one (z_ret (s_fld (c := 0) (j := 0) c.toOk rfl (s_var (i := 0)))))
/-! ### alike -/
abbrev n_alike : List Str := ["one", "other", "begin", "ahead", "way", "others", "order", "places"]
def m_alike : Ms := (mSeq (mDo (mCall f_need_code [] (mCons (mVar 0) mNil)))
  (mSeq (mDo (mCall f_need_code [] (mCons (mVar 1) mNil)))
  (mSeq (mIf (mCmpT fNe (mTup (mCons (m1 (fLenA 0 f_CodeX_lenX) (mVar 0)) (mCons (mPrp 0 f_Code_bits (mVar 0)) mNil))) (mTup (mCons (m1 (fLenA 0 f_CodeX_lenX) (mVar 1)) (mCons (mPrp 0 f_Code_bits (mVar 1)) mNil)))) (mRet (mC .none)) mSkip)
  (mSeq (mFor (gN 2) (mRng1 (m1 (fLenA 0 f_CodeX_lenX) (mVar 0))) (mSeq (mSet 3 (mCall f_begun [] (mCons (mPrp 0 f_Code_words (mVar 1)) (mCons (mBin fMod (mBin fSub (m1 (fLenA 0 f_CodeX_lenX) (mVar 0)) (mVar 2)) (m1 (fLenA 0 f_CodeX_lenX) (mVar 0))) mNil))))
  (mFor (gN 4) (mItems (mTup (mCons (mNeg (mC (.int 1))) (mCons (mC (.int 1)) mNil)))) (mSeq (mSet 5 (mIte (mCmpT fEq (mVar 4) (mC (.int 1))) (mVar 3) (mCall f_backwards [] (mCons (mVar 3) mNil))))
  (mFor (gN 6) (mItems (mCall f_orders_of [] (mCons (mPrp 0 f_Code_bits (mVar 0)) mNil))) (mSeq (mSet 7 (mCall f_exchanged [] (mCons (mPrp 0 f_Code_words (mVar 0)) (mCons (mVar 5) (mCons (mVar 6) mNil)))))
  (mIf (mCmpT fIsNot (mVar 7) (mC .none)) (mRet (mTup (mCons (mVar 2) (mCons (mVar 4) (mCons (mVar 6) (mCons (mVar 7) mNil)))))) mSkip)))))))
  (mRet (mC .none))))))
def f_alike : Fn := mkFn 2 8 m_alike
theorem b_alike {g : Gs}  (d_need_code : Def g 1 "need_code" [] f_need_code) (d_CodeX_lenX : Dun g 1 0 "__len__" f_CodeX_lenX) (d_Code_bits : Prp g 1 0 "bits" f_Code_bits) (d_begun : Def g 1 "begun" [] f_begun) (d_Code_words : Prp g 1 0 "words" f_Code_words) (d_backwards : Def g 1 "backwards" [] f_backwards) (d_orders_of : Def g 1 "orders_of" [] f_orders_of) (d_exchanged : Def g 2 "exchanged" [] f_exchanged) : ∀ (E : XK) (w0 : Wd) (H0 : Hp) (X : Cx), OkC g E 2 X → PassesOwn (model X.prog X.w) X.A X.env X.xe → L2N.Takes X (fun cls d _ H => E cls d H) → X.N = n_alike → X.env.scope = defScope (t_alike) → X.fn = (fun _ => true) → SndB g E w0 H0 X (defBody (t_alike)) m_alike := by
  intro E w0 H0 X c po tk hN hs hf
  obtain ⟨prog, w', K, mg, base, A, N, s_0, H_0, ⟨e1, e2, e3, e4, e5, e6, e7, e8, e9⟩, outer, stack, ex, fn, calm, pn, xe⟩ := X
  simp only at hN hs hf
  subst hN hs hf
  have nd : (n_alike).Nodup := by decide +kernel
  exact (b_cons (z_expr (s_call c d_need_code (by decide) (a_cons (s_var (i := 0)) a_nil)))
  (b_cons (z_expr (s_call c d_need_code (by decide) (a_cons (s_var (i := 1)) a_nil)))
  (b_cons (z_if (t_cmp (c_ne c.toOk) (s_tup (a_cons (s_lenA c d_CodeX_lenX (by decide) (s_var (i := 0))) (a_cons (s_prp c d_Code_bits (by decide) (s_var (i := 0))) a_nil))) (s_tup (a_cons (s_lenA c d_CodeX_lenX (by decide) (s_var (i := 1))) (a_cons (s_prp c d_Code_bits (by decide) (s_var (i := 1))) a_nil)))) (b_one (z_ret s_none)) b_nil)
  (b_cons (z_for c.toOk po (i_rng1 c.toOk (nbg c.toOk "range") (s_lenA c d_CodeX_lenX (by decide) (s_var (i := 0)))) (g_name (i := 2) nd) (b_cons (z_set (i := 3) nd (s_call c d_begun (by decide) (a_cons (s_prp c d_Code_words (by decide) (s_var (i := 1))) (a_cons (s_mod (s_sub (s_lenA c d_CodeX_lenX (by decide) (s_var (i := 0))) (s_var (i := 2))) (s_lenA c d_CodeX_lenX (by decide) (s_var (i := 0)))) a_nil))))
  (b_one (z_for c.toOk po (i_seq c.toOk (s_tup (a_cons (s_neg s_int) (a_cons s_int a_nil)))) (g_name (i := 4) nd) (b_cons (z_set (i := 5) nd (s_ite (t_cmp (c_eq c.toOk) (s_var (i := 4)) s_int) (s_var (i := 3)) (s_call c d_backwards (by decide) (a_cons (s_var (i := 3)) a_nil))))
  (b_one (z_for c.toOk po (i_seq c.toOk (s_call c d_orders_of (by decide) (a_cons (s_prp c d_Code_bits (by decide) (s_var (i := 0))) a_nil))) (g_name (i := 6) nd) (b_cons (z_set (i := 7) nd (s_call c d_exchanged (by decide) (a_cons (s_prp c d_Code_words (by decide) (s_var (i := 0))) (a_cons (s_var (i := 5)) (a_cons (s_var (i := 6)) a_nil)))))
  (b_one (z_if (t_cmp c_isnot (s_var (i := 7)) s_none) (b_one (z_ret (s_tup (a_cons (s_var (i := 2)) (a_cons (s_var (i := 4)) (a_cons (s_var (i := 6)) (a_cons (s_var (i := 7)) a_nil))))))) b_nil))))))))))
  (b_one (z_ret s_none))))))
/-! ### law -/
abbrev n_law : List Str := ["_law_script", "_law_k", "_law_pen_here", "_law_turn", "_law_words_here", "_law_other", "_law_due_here", "_law_made_here", "_law_its"]
def m_law : Ms := (mSeq (mFor (gN 1) (mRng1 (mBin fMax2 (mC (.int 1)) (mBin fMin2 (m1 fLen (mVar 0)) (mC (.int 2))))) (mSeq (mSet 2 (mCall f__law_pen [] (mCons (mCall f__law_cell_at [] (mCons (mVar 0) (mCons (mVar 1) mNil))) mNil)))
  (mFor (gN 3) (mRng1 (mC (.int 5))) (mSeq (mSet 4 (mSl01 (mCall f__law_words [] (mCons (mVar 2) (mCons (mBin fIx (mLst (mCons (mC (.int 3)) (mCons (mC (.int 4)) (mCons (mC (.int 3)) (mCons (mC (.int 5)) (mCons (mC (.int 2)) mNil)))))) (mVar 3)) mNil))) (mBin fIx (mLst (mCons (mC (.int 8)) (mCons (mC (.int 9)) (mCons (mC (.int 8)) (mCons (mC (.int 6)) (mCons (mC (.int 8)) mNil)))))) (mVar 3))))
  (mFor (gN 5) (mItems (mLst (mCons (mVar 4) (mCons (mCall f__law_near [] (mCons (mVar 2) (mCons (mVar 4) mNil))) (mCons (mCall f__law_near [] (mCons (mVar 2) (mCons (mVar 4) mNil))) (mCons (mCall f__law_words [] (mCons (mVar 2) (mCons (mC (.int 3)) mNil))) mNil)))))) (mSeq (mAsg (gT (gsC (gN 6) (gsC (gN 7) (gsC (gN 8) gs0)))) (mTup (mCons (mCall f__law_due [] (mCons (mVar 4) (mCons (mVar 5) mNil))) (mCons (mCall f__law_made [] (mCons (mVar 4) mNil)) (mCons (mCall f__law_made [] (mCons (mVar 5) mNil)) mNil)))))
  (mIf (mNotT (mT (mCall f__law_same [] (mCons (mLst (mCons (mCall f_alike [] (mCons (mVar 7) (mCons (mVar 8) mNil))) (mCons (mCall f_alike [] (mCons (mVar 7) (mCons (mVar 8) mNil))) mNil))) (mCons (mLst (mCons (mVar 6) (mCons (mVar 6) mNil))) mNil))))) (mRet (mC (.bool false))) mSkip)))))))
  (mRet (mC (.bool true))))
def f_law : Fn := mkFn 1 9 m_law
theorem b_law {g : Gs}  (d__law_pen : Def g 1 "_law_pen" [] f__law_pen) (d__law_cell_at : Def g 1 "_law_cell_at" [] f__law_cell_at) (d__law_words : Def g 3 "_law_words" [] f__law_words) (d__law_near : Def g 3 "_law_near" [] f__law_near) (d__law_due : Def g 3 "_law_due" [] f__law_due) (d__law_made : Def g 7 "_law_made" [] f__law_made) (d__law_same : DefG g 1 "_law_same" [] f__law_same) (d_alike : Def g 3 "alike" [] f_alike) : ∀ (E : XK) (w0 : Wd) (H0 : Hp) (X : Cx), OkG g E 7 X → PassesOwn (model X.prog X.w) X.A X.env X.xe → L2N.Takes X (fun cls d _ H => E cls d H) → X.N = n_law → X.env.scope = defScope (t_law) → X.fn = (fun _ => true) → SndB g E w0 H0 X (defBody (t_law)) m_law := by
  intro E w0 H0 X cg po tk hN hs hf
  obtain ⟨prog, w', K, mg, base, A, N, s_0, H_0, ⟨e1, e2, e3, e4, e5, e6, e7, e8, e9⟩, outer, stack, ex, fn, calm, pn, xe⟩ := X
  simp only at hN hs hf
  subst hN hs hf
  have c := cg.toOkC
  have nd : (n_law).Nodup := by decide +kernel
  exact (b_cons (z_for c.toOk po (i_rng1 c.toOk (nbg c.toOk "range") (q_max2 c.toOk s_int (q_min2 c.toOk (q_len c.toOk (s_var (i := 0))) s_int))) (g_name (i := 1) nd) (b_cons (z_set (i := 2) nd (s_call c d__law_pen (by decide) (a_cons (s_call c d__law_cell_at (by decide) (a_cons (s_var (i := 0)) (a_cons (s_var (i := 1)) a_nil))) a_nil)))
  (b_one (z_for c.toOk po (i_rng1 c.toOk (nbg c.toOk "range") s_int) (g_name (i := 3) nd) (b_cons (z_set (i := 4) nd (s_sl01 c.toOk (s_call c d__law_words (by decide) (a_cons (s_var (i := 2)) (a_cons (s_ix c.toOk (f_val (f_lst (a_cons s_int (a_cons s_int (a_cons s_int (a_cons s_int (a_cons s_int a_nil))))))) (s_var (i := 3))) a_nil))) (s_ix c.toOk (f_val (f_lst (a_cons s_int (a_cons s_int (a_cons s_int (a_cons s_int (a_cons s_int a_nil))))))) (s_var (i := 3)))))
  (b_one (z_for c.toOk po (i_seq c.toOk (f_val (f_lst (a_cons (s_var (i := 4)) (a_cons (s_call c d__law_near (by decide) (a_cons (s_var (i := 2)) (a_cons (s_var (i := 4)) a_nil))) (a_cons (s_call c d__law_near (by decide) (a_cons (s_var (i := 2)) (a_cons (s_var (i := 4)) a_nil))) (a_cons (s_call c d__law_words (by decide) (a_cons (s_var (i := 2)) (a_cons s_int a_nil))) a_nil))))))) (g_name (i := 5) nd) (b_cons (z_par3 (i := 6) (j := 7) (l := 8) c.toOk nd (s_call c d__law_due (by decide) (a_cons (s_var (i := 4)) (a_cons (s_var (i := 5)) a_nil))) (s_call c d__law_made (by decide) (a_cons (s_var (i := 4)) a_nil)) (s_call c d__law_made (by decide) (a_cons (s_var (i := 5)) a_nil)))
  (b_one (z_if (t_not (t_val c.toOk (s_callG cg d__law_same (by decide) (a_cons (f_val (f_lst (a_cons (s_call c d_alike (by decide) (a_cons (s_var (i := 7)) (a_cons (s_var (i := 8)) a_nil))) (a_cons (s_call c d_alike (by decide) (a_cons (s_var (i := 7)) (a_cons (s_var (i := 8)) a_nil))) a_nil)))) (a_cons (f_val (f_lst (a_cons (s_var (i := 6)) (a_cons (s_var (i := 6)) a_nil)))) a_nil))))) (b_one (z_ret s_bool)) b_nil))))))))))
  (b_one (z_ret s_bool)))
set_option maxHeartbeats 0 in
theorem all_mk {l : PySem.W.OpenLaw} {w : World} {K : PySem.W.Frag} {h : Heap} {mg : Str → Option Value} {fa : Addr} {C0 : Addr} {ad_SIGNS : Addr} {u0_SIGNS : Tok} {u1_SIGNS : Tok} {ep_SIGNS : Nat} {sl_SIGNS : Array (Option Value)} {uG_NO_WORD : Tok} {uG_FEWEST_VALUES : Tok} {uG_MOST_VALUES : Tok} {uG_MOST_BITS : Tok} {f__law_pen_ : Addr} {od_law_pen an_law_pen : Option Addr} {sl_law_pen : Array (Option Value)} {oc_law_pen kV_law_pen dc_law_pen pm_law_pen cd_law_pen ct_law_pen : Value} {f__law_cell_at_ : Addr} {od_law_cell_at an_law_cell_at : Option Addr} {sl_law_cell_at : Array (Option Value)} {oc_law_cell_at kV_law_cell_at dc_law_cell_at pm_law_cell_at cd_law_cell_at ct_law_cell_at : Value} {f__law_draw_ : Addr} {od_law_draw an_law_draw : Option Addr} {sl_law_draw : Array (Option Value)} {oc_law_draw kV_law_draw dc_law_draw pm_law_draw cd_law_draw ct_law_draw : Value} {f__law_twisted_ : Addr} {od_law_twisted an_law_twisted : Option Addr} {sl_law_twisted : Array (Option Value)} {oc_law_twisted kV_law_twisted dc_law_twisted pm_law_twisted cd_law_twisted ct_law_twisted : Value} {f__law_mixed_ : Addr} {od_law_mixed an_law_mixed : Option Addr} {sl_law_mixed : Array (Option Value)} {oc_law_mixed kV_law_mixed dc_law_mixed pm_law_mixed cd_law_mixed ct_law_mixed : Value} {f__law_mirror_ : Addr} {od_law_mirror an_law_mirror : Option Addr} {sl_law_mirror : Array (Option Value)} {oc_law_mirror kV_law_mirror dc_law_mirror pm_law_mirror cd_law_mirror ct_law_mirror : Value} {f__law_lone_ : Addr} {od_law_lone an_law_lone : Option Addr} {sl_law_lone : Array (Option Value)} {oc_law_lone kV_law_lone dc_law_lone pm_law_lone cd_law_lone ct_law_lone : Value} {f__law_all_ : Addr} {od_law_all an_law_all : Option Addr} {sl_law_all : Array (Option Value)} {oc_law_all kV_law_all dc_law_all pm_law_all cd_law_all ct_law_all : Value} {f__law_words_ : Addr} {od_law_words an_law_words : Option Addr} {sl_law_words : Array (Option Value)} {oc_law_words kV_law_words dc_law_words pm_law_words cd_law_words ct_law_words : Value} {f__law_turned_words_ : Addr} {od_law_turned_words an_law_turned_words : Option Addr} {sl_law_turned_words : Array (Option Value)} {oc_law_turned_words kV_law_turned_words dc_law_turned_words pm_law_turned_words cd_law_turned_words ct_law_turned_words : Value} {f__law_renamed_words_ : Addr} {od_law_renamed_words an_law_renamed_words : Option Addr} {sl_law_renamed_words : Array (Option Value)} {oc_law_renamed_words kV_law_renamed_words dc_law_renamed_words pm_law_renamed_words cd_law_renamed_words ct_law_renamed_words : Value} {f__law_flipped_words_ : Addr} {od_law_flipped_words an_law_flipped_words : Option Addr} {sl_law_flipped_words : Array (Option Value)} {oc_law_flipped_words kV_law_flipped_words dc_law_flipped_words pm_law_flipped_words cd_law_flipped_words ct_law_flipped_words : Value} {f__law_back_words_ : Addr} {od_law_back_words an_law_back_words : Option Addr} {sl_law_back_words : Array (Option Value)} {oc_law_back_words kV_law_back_words dc_law_back_words pm_law_back_words cd_law_back_words ct_law_back_words : Value} {f__law_rest_ : Addr} {od_law_rest an_law_rest : Option Addr} {sl_law_rest : Array (Option Value)} {oc_law_rest kV_law_rest dc_law_rest pm_law_rest cd_law_rest ct_law_rest : Value} {f__law_near_ : Addr} {od_law_near an_law_near : Option Addr} {sl_law_near : Array (Option Value)} {oc_law_near kV_law_near dc_law_near pm_law_near cd_law_near ct_law_near : Value} {f__law_orders_ : Addr} {od_law_orders an_law_orders : Option Addr} {sl_law_orders : Array (Option Value)} {oc_law_orders kV_law_orders dc_law_orders pm_law_orders cd_law_orders ct_law_orders : Value} {f__law_due_ : Addr} {od_law_due an_law_due : Option Addr} {sl_law_due : Array (Option Value)} {oc_law_due kV_law_due dc_law_due pm_law_due cd_law_due ct_law_due : Value} {f_word_in_ : Addr} {odword_in anword_in : Option Addr} {slword_in : Array (Option Value)} {ocword_in kVword_in dcword_in pmword_in cdword_in ctword_in : Value} {f_is_between_ : Addr} {odis_between anis_between : Option Addr} {slis_between : Array (Option Value)} {ocis_between kVis_between dcis_between pmis_between cdis_between ctis_between : Value} {f_are_bits_ : Addr} {odare_bits anare_bits : Option Addr} {slare_bits : Array (Option Value)} {ocare_bits kVare_bits dcare_bits pmare_bits cdare_bits ctare_bits : Value} {f_are_words_ : Addr} {odare_words anare_words : Option Addr} {slare_words : Array (Option Value)} {ocare_words kVare_words dcare_words pmare_words cdare_words ctare_words : Value} {f_CodeX_initX_ : Addr} {odCodeX_initX anCodeX_initX : Option Addr} {slCodeX_initX : Array (Option Value)} {ocCodeX_initX kVCodeX_initX dcCodeX_initX pmCodeX_initX cdCodeX_initX ctCodeX_initX : Value} {f_Code_read_ : Addr} {odCode_read anCode_read : Option Addr} {slCode_read : Array (Option Value)} {ocCode_read kVCode_read dcCode_read pmCode_read cdCode_read ctCode_read : Value} {pCode_read : Addr} {rsCode_read : List Value} {f__law_made_ : Addr} {od_law_made an_law_made : Option Addr} {sl_law_made : Array (Option Value)} {oc_law_made kV_law_made dc_law_made pm_law_made cd_law_made ct_law_made : Value} {f__law_same_ : Addr} {od_law_same an_law_same : Option Addr} {sl_law_same : Array (Option Value)} {oc_law_same kV_law_same dc_law_same pm_law_same cd_law_same ct_law_same : Value} {f_need_code_ : Addr} {odneed_code anneed_code : Option Addr} {slneed_code : Array (Option Value)} {ocneed_code kVneed_code dcneed_code pmneed_code cdneed_code ctneed_code : Value} {f_begun_ : Addr} {odbegun anbegun : Option Addr} {slbegun : Array (Option Value)} {ocbegun kVbegun dcbegun pmbegun cdbegun ctbegun : Value} {f_orders_of_ : Addr} {odorders_of anorders_of : Option Addr} {slorders_of : Array (Option Value)} {ocorders_of kVorders_of dcorders_of pmorders_of cdorders_of ctorders_of : Value} {f_backwards_ : Addr} {odbackwards anbackwards : Option Addr} {slbackwards : Array (Option Value)} {ocbackwards kVbackwards dcbackwards pmbackwards cdbackwards ctbackwards : Value} {f_placed_ : Addr} {odplaced anplaced : Option Addr} {slplaced : Array (Option Value)} {ocplaced kVplaced dcplaced pmplaced cdplaced ctplaced : Value} {f_exchanged_ : Addr} {odexchanged anexchanged : Option Addr} {slexchanged : Array (Option Value)} {ocexchanged kVexchanged dcexchanged pmexchanged cdexchanged ctexchanged : Value} {f_CodeX_lenX_ : Addr} {odCodeX_lenX anCodeX_lenX : Option Addr} {slCodeX_lenX : Array (Option Value)} {ocCodeX_lenX kVCodeX_lenX dcCodeX_lenX pmCodeX_lenX cdCodeX_lenX ctCodeX_lenX : Value} {f_Code_bits_ : Addr} {odCode_bits anCode_bits : Option Addr} {slCode_bits : Array (Option Value)} {ocCode_bits kVCode_bits dcCode_bits pmCode_bits cdCode_bits ctCode_bits : Value} {pCode_bits : Addr} {rsCode_bits : List Value} {f_Code_words_ : Addr} {odCode_words anCode_words : Option Addr} {slCode_words : Array (Option Value)} {ocCode_words kVCode_words dcCode_words pmCode_words cdCode_words ctCode_words : Value} {pCode_words : Addr} {rsCode_words : List Value} {f_alike_ : Addr} {odalike analike : Option Addr} {slalike : Array (Option Value)} {ocalike kValike dcalike pmalike cdalike ctalike : Value} {f_law_ : Addr} {odlaw anlaw : Option Addr} {sllaw : Array (Option Value)} {oclaw kVlaw dclaw pmlaw cdlaw ctlaw : Value} (X : K.In h) (G : h.Ns mainGlobals mg) (hfa : mg "law" = some (.ref fa))
    (aC0 : PySem.W.nsIn K mainGlobals "Code" = some (some (.ref C0)))
    (pgC0 : PySem.W.plainGet K C0 Str.empty = true)
    (hdC0 : PySem.W.hasDictIn K C0 = true)
    (poC0 : PySem.W.plainOver K C0 = true)
    (saC0 : PySem.W.findIn K (.ref C0) "__setattr__" = some (some (.builtin "object.__setattr__")))
    (mkC0 : PySem.W.makesIn K C0 = true)
    (kcC0 : PySem.W.keepIn K (.ref C0) = true)
    (n0C0 : PySem.W.findIn K (.ref C0) "row" = some none)
    (n1C0 : PySem.W.findIn K (.ref C0) "known" = some none)
    (dcC0 : PySem.W.findIn K (.ref C0) "__class__" = some (some (.builtin "object.__class__")))
    (moC0 : PySem.W.mroIn K C0 (.type "object") = some true)
    (bintC0 : PySem.W.mroIn K C0 (.type "int") = some false)
    (bboolC0 : PySem.W.mroIn K C0 (.type "bool") = some false)
    (btupleC0 : PySem.W.mroIn K C0 (.type "tuple") = some false)
    (bstrC0 : PySem.W.mroIn K C0 (.type "str") = some false)
    (blistC0 : PySem.W.mroIn K C0 (.type "list") = some false)
    (icC0 : PySem.W.isClsIn K C0 = true)
    (tyC0 : PySem.W.typeIn K (.ref C0) = some (.type "type"))
    (hn : PySem.W.specialIn K (.builtin "object.__class__") "__get__" = some (some (.builtin "getset_descriptor.__get__")))
    (htk : PySem.W.takesIn K (.builtin "object.__class__") = some true)
    (zlen : PySem.W.nsIn K mainGlobals "len" = some none)
    (zrange : PySem.W.nsIn K mainGlobals "range" = some none)
    (zisinstance : PySem.W.nsIn K mainGlobals "isinstance" = some none)
    (ztuple : PySem.W.nsIn K mainGlobals "tuple" = some none)
    (zlist : PySem.W.nsIn K mainGlobals "list" = some none)
    (zall : PySem.W.nsIn K mainGlobals "all" = some none)
    (zany : PySem.W.nsIn K mainGlobals "any" = some none)
    (zmax : PySem.W.nsIn K mainGlobals "max" = some none)
    (zmin : PySem.W.nsIn K mainGlobals "min" = some none)
    (zset : PySem.W.nsIn K mainGlobals "set" = some none)
    (zsorted : PySem.W.nsIn K mainGlobals "sorted" = some none)
    (zenumerate : PySem.W.nsIn K mainGlobals "enumerate" = some none)
    (zzip : PySem.W.nsIn K mainGlobals "zip" = some none)
    (zrepr : PySem.W.nsIn K mainGlobals "repr" = some none)
    (zstr : PySem.W.nsIn K mainGlobals "str" = some none)
    (zint : PySem.W.nsIn K mainGlobals "int" = some none)
    (zsum : PySem.W.nsIn K mainGlobals "sum" = some none)
    (zdict : PySem.W.nsIn K mainGlobals "dict" = some none)
    (zbool : PySem.W.nsIn K mainGlobals "bool" = some none)
    (v_SIGNS : PySem.W.nsIn K mainGlobals "SIGNS" = some (some (.ref ad_SIGNS)))
    (w_SIGNS : K.lookup ad_SIGNS = some ⟨.type "tuple", none, .seq #[.str (Str.ofString "0") u0_SIGNS, .str (Str.ofString "1") u1_SIGNS] ep_SIGNS, sl_SIGNS⟩)
    (vG_NO_WORD : PySem.W.nsIn K mainGlobals "NO_WORD" = some (some (.int (-1) uG_NO_WORD)))
    (vG_FEWEST_VALUES : PySem.W.nsIn K mainGlobals "FEWEST_VALUES" = some (some (.int (2) uG_FEWEST_VALUES)))
    (vG_MOST_VALUES : PySem.W.nsIn K mainGlobals "MOST_VALUES" = some (some (.int (16) uG_MOST_VALUES)))
    (vG_MOST_BITS : PySem.W.nsIn K mainGlobals "MOST_BITS" = some (some (.int (5) uG_MOST_BITS)))
    (a_law_pen : PySem.W.nsIn K mainGlobals "_law_pen" = some (some (.ref f__law_pen_)))
    (l_law_pen : K.lookup f__law_pen_ = some ⟨oc_law_pen, od_law_pen, .func (PySem.W.fnOf "_law_pen" "_law_pen" (defArgs t__law_pen) (defBody t__law_pen) (defScope t__law_pen) .none kV_law_pen dc_law_pen pm_law_pen an_law_pen cd_law_pen ct_law_pen), sl_law_pen⟩)
    (c_law_pen : PySem.W.codeIn K cd_law_pen "_law_pen" = true)
    (k_law_pen : PySem.W.keepIn K (.ref f__law_pen_) = true)
    (a_law_cell_at : PySem.W.nsIn K mainGlobals "_law_cell_at" = some (some (.ref f__law_cell_at_)))
    (l_law_cell_at : K.lookup f__law_cell_at_ = some ⟨oc_law_cell_at, od_law_cell_at, .func (PySem.W.fnOf "_law_cell_at" "_law_cell_at" (defArgs t__law_cell_at) (defBody t__law_cell_at) (defScope t__law_cell_at) .none kV_law_cell_at dc_law_cell_at pm_law_cell_at an_law_cell_at cd_law_cell_at ct_law_cell_at), sl_law_cell_at⟩)
    (c_law_cell_at : PySem.W.codeIn K cd_law_cell_at "_law_cell_at" = true)
    (k_law_cell_at : PySem.W.keepIn K (.ref f__law_cell_at_) = true)
    (a_law_draw : PySem.W.nsIn K mainGlobals "_law_draw" = some (some (.ref f__law_draw_)))
    (l_law_draw : K.lookup f__law_draw_ = some ⟨oc_law_draw, od_law_draw, .func (PySem.W.fnOf "_law_draw" "_law_draw" (defArgs t__law_draw) (defBody t__law_draw) (defScope t__law_draw) .none kV_law_draw dc_law_draw pm_law_draw an_law_draw cd_law_draw ct_law_draw), sl_law_draw⟩)
    (c_law_draw : PySem.W.codeIn K cd_law_draw "_law_draw" = true)
    (k_law_draw : PySem.W.keepIn K (.ref f__law_draw_) = true)
    (a_law_twisted : PySem.W.nsIn K mainGlobals "_law_twisted" = some (some (.ref f__law_twisted_)))
    (l_law_twisted : K.lookup f__law_twisted_ = some ⟨oc_law_twisted, od_law_twisted, .func (PySem.W.fnOf "_law_twisted" "_law_twisted" (defArgs t__law_twisted) (defBody t__law_twisted) (defScope t__law_twisted) .none kV_law_twisted dc_law_twisted pm_law_twisted an_law_twisted cd_law_twisted ct_law_twisted), sl_law_twisted⟩)
    (c_law_twisted : PySem.W.codeIn K cd_law_twisted "_law_twisted" = true)
    (k_law_twisted : PySem.W.keepIn K (.ref f__law_twisted_) = true)
    (a_law_mixed : PySem.W.nsIn K mainGlobals "_law_mixed" = some (some (.ref f__law_mixed_)))
    (l_law_mixed : K.lookup f__law_mixed_ = some ⟨oc_law_mixed, od_law_mixed, .func (PySem.W.fnOf "_law_mixed" "_law_mixed" (defArgs t__law_mixed) (defBody t__law_mixed) (defScope t__law_mixed) .none kV_law_mixed dc_law_mixed pm_law_mixed an_law_mixed cd_law_mixed ct_law_mixed), sl_law_mixed⟩)
    (c_law_mixed : PySem.W.codeIn K cd_law_mixed "_law_mixed" = true)
    (k_law_mixed : PySem.W.keepIn K (.ref f__law_mixed_) = true)
    (a_law_mirror : PySem.W.nsIn K mainGlobals "_law_mirror" = some (some (.ref f__law_mirror_)))
    (l_law_mirror : K.lookup f__law_mirror_ = some ⟨oc_law_mirror, od_law_mirror, .func (PySem.W.fnOf "_law_mirror" "_law_mirror" (defArgs t__law_mirror) (defBody t__law_mirror) (defScope t__law_mirror) .none kV_law_mirror dc_law_mirror pm_law_mirror an_law_mirror cd_law_mirror ct_law_mirror), sl_law_mirror⟩)
    (c_law_mirror : PySem.W.codeIn K cd_law_mirror "_law_mirror" = true)
    (k_law_mirror : PySem.W.keepIn K (.ref f__law_mirror_) = true)
    (a_law_lone : PySem.W.nsIn K mainGlobals "_law_lone" = some (some (.ref f__law_lone_)))
    (l_law_lone : K.lookup f__law_lone_ = some ⟨oc_law_lone, od_law_lone, .func (PySem.W.fnOf "_law_lone" "_law_lone" (defArgs t__law_lone) (defBody t__law_lone) (defScope t__law_lone) .none kV_law_lone dc_law_lone pm_law_lone an_law_lone cd_law_lone ct_law_lone), sl_law_lone⟩)
    (c_law_lone : PySem.W.codeIn K cd_law_lone "_law_lone" = true)
    (k_law_lone : PySem.W.keepIn K (.ref f__law_lone_) = true)
    (a_law_all : PySem.W.nsIn K mainGlobals "_law_all" = some (some (.ref f__law_all_)))
    (l_law_all : K.lookup f__law_all_ = some ⟨oc_law_all, od_law_all, .func (PySem.W.fnOf "_law_all" "_law_all" (defArgs t__law_all) (defBody t__law_all) (defScope t__law_all) .none kV_law_all dc_law_all pm_law_all an_law_all cd_law_all ct_law_all), sl_law_all⟩)
    (c_law_all : PySem.W.codeIn K cd_law_all "_law_all" = true)
    (k_law_all : PySem.W.keepIn K (.ref f__law_all_) = true)
    (a_law_words : PySem.W.nsIn K mainGlobals "_law_words" = some (some (.ref f__law_words_)))
    (l_law_words : K.lookup f__law_words_ = some ⟨oc_law_words, od_law_words, .func (PySem.W.fnOf "_law_words" "_law_words" (defArgs t__law_words) (defBody t__law_words) (defScope t__law_words) .none kV_law_words dc_law_words pm_law_words an_law_words cd_law_words ct_law_words), sl_law_words⟩)
    (c_law_words : PySem.W.codeIn K cd_law_words "_law_words" = true)
    (k_law_words : PySem.W.keepIn K (.ref f__law_words_) = true)
    (a_law_turned_words : PySem.W.nsIn K mainGlobals "_law_turned_words" = some (some (.ref f__law_turned_words_)))
    (l_law_turned_words : K.lookup f__law_turned_words_ = some ⟨oc_law_turned_words, od_law_turned_words, .func (PySem.W.fnOf "_law_turned_words" "_law_turned_words" (defArgs t__law_turned_words) (defBody t__law_turned_words) (defScope t__law_turned_words) .none kV_law_turned_words dc_law_turned_words pm_law_turned_words an_law_turned_words cd_law_turned_words ct_law_turned_words), sl_law_turned_words⟩)
    (c_law_turned_words : PySem.W.codeIn K cd_law_turned_words "_law_turned_words" = true)
    (k_law_turned_words : PySem.W.keepIn K (.ref f__law_turned_words_) = true)
    (a_law_renamed_words : PySem.W.nsIn K mainGlobals "_law_renamed_words" = some (some (.ref f__law_renamed_words_)))
    (l_law_renamed_words : K.lookup f__law_renamed_words_ = some ⟨oc_law_renamed_words, od_law_renamed_words, .func (PySem.W.fnOf "_law_renamed_words" "_law_renamed_words" (defArgs t__law_renamed_words) (defBody t__law_renamed_words) (defScope t__law_renamed_words) .none kV_law_renamed_words dc_law_renamed_words pm_law_renamed_words an_law_renamed_words cd_law_renamed_words ct_law_renamed_words), sl_law_renamed_words⟩)
    (c_law_renamed_words : PySem.W.codeIn K cd_law_renamed_words "_law_renamed_words" = true)
    (k_law_renamed_words : PySem.W.keepIn K (.ref f__law_renamed_words_) = true)
    (a_law_flipped_words : PySem.W.nsIn K mainGlobals "_law_flipped_words" = some (some (.ref f__law_flipped_words_)))
    (l_law_flipped_words : K.lookup f__law_flipped_words_ = some ⟨oc_law_flipped_words, od_law_flipped_words, .func (PySem.W.fnOf "_law_flipped_words" "_law_flipped_words" (defArgs t__law_flipped_words) (defBody t__law_flipped_words) (defScope t__law_flipped_words) .none kV_law_flipped_words dc_law_flipped_words pm_law_flipped_words an_law_flipped_words cd_law_flipped_words ct_law_flipped_words), sl_law_flipped_words⟩)
    (c_law_flipped_words : PySem.W.codeIn K cd_law_flipped_words "_law_flipped_words" = true)
    (k_law_flipped_words : PySem.W.keepIn K (.ref f__law_flipped_words_) = true)
    (a_law_back_words : PySem.W.nsIn K mainGlobals "_law_back_words" = some (some (.ref f__law_back_words_)))
    (l_law_back_words : K.lookup f__law_back_words_ = some ⟨oc_law_back_words, od_law_back_words, .func (PySem.W.fnOf "_law_back_words" "_law_back_words" (defArgs t__law_back_words) (defBody t__law_back_words) (defScope t__law_back_words) .none kV_law_back_words dc_law_back_words pm_law_back_words an_law_back_words cd_law_back_words ct_law_back_words), sl_law_back_words⟩)
    (c_law_back_words : PySem.W.codeIn K cd_law_back_words "_law_back_words" = true)
    (k_law_back_words : PySem.W.keepIn K (.ref f__law_back_words_) = true)
    (a_law_rest : PySem.W.nsIn K mainGlobals "_law_rest" = some (some (.ref f__law_rest_)))
    (l_law_rest : K.lookup f__law_rest_ = some ⟨oc_law_rest, od_law_rest, .func (PySem.W.fnOf "_law_rest" "_law_rest" (defArgs t__law_rest) (defBody t__law_rest) (defScope t__law_rest) .none kV_law_rest dc_law_rest pm_law_rest an_law_rest cd_law_rest ct_law_rest), sl_law_rest⟩)
    (c_law_rest : PySem.W.codeIn K cd_law_rest "_law_rest" = true)
    (k_law_rest : PySem.W.keepIn K (.ref f__law_rest_) = true)
    (a_law_near : PySem.W.nsIn K mainGlobals "_law_near" = some (some (.ref f__law_near_)))
    (l_law_near : K.lookup f__law_near_ = some ⟨oc_law_near, od_law_near, .func (PySem.W.fnOf "_law_near" "_law_near" (defArgs t__law_near) (defBody t__law_near) (defScope t__law_near) .none kV_law_near dc_law_near pm_law_near an_law_near cd_law_near ct_law_near), sl_law_near⟩)
    (c_law_near : PySem.W.codeIn K cd_law_near "_law_near" = true)
    (k_law_near : PySem.W.keepIn K (.ref f__law_near_) = true)
    (a_law_orders : PySem.W.nsIn K mainGlobals "_law_orders" = some (some (.ref f__law_orders_)))
    (l_law_orders : K.lookup f__law_orders_ = some ⟨oc_law_orders, od_law_orders, .func (PySem.W.fnOf "_law_orders" "_law_orders" (defArgs t__law_orders) (defBody t__law_orders) (defScope t__law_orders) .none kV_law_orders dc_law_orders pm_law_orders an_law_orders cd_law_orders ct_law_orders), sl_law_orders⟩)
    (c_law_orders : PySem.W.codeIn K cd_law_orders "_law_orders" = true)
    (k_law_orders : PySem.W.keepIn K (.ref f__law_orders_) = true)
    (a_law_due : PySem.W.nsIn K mainGlobals "_law_due" = some (some (.ref f__law_due_)))
    (l_law_due : K.lookup f__law_due_ = some ⟨oc_law_due, od_law_due, .func (PySem.W.fnOf "_law_due" "_law_due" (defArgs t__law_due) (defBody t__law_due) (defScope t__law_due) .none kV_law_due dc_law_due pm_law_due an_law_due cd_law_due ct_law_due), sl_law_due⟩)
    (c_law_due : PySem.W.codeIn K cd_law_due "_law_due" = true)
    (k_law_due : PySem.W.keepIn K (.ref f__law_due_) = true)
    (aword_in : PySem.W.nsIn K mainGlobals "word_in" = some (some (.ref f_word_in_)))
    (lword_in : K.lookup f_word_in_ = some ⟨ocword_in, odword_in, .func (PySem.W.fnOf "word_in" "word_in" (defArgs t_word_in) (defBody t_word_in) (defScope t_word_in) .none kVword_in dcword_in pmword_in anword_in cdword_in ctword_in), slword_in⟩)
    (cword_in : PySem.W.codeIn K cdword_in "word_in" = true)
    (kword_in : PySem.W.keepIn K (.ref f_word_in_) = true)
    (ais_between : PySem.W.nsIn K mainGlobals "is_between" = some (some (.ref f_is_between_)))
    (lis_between : K.lookup f_is_between_ = some ⟨ocis_between, odis_between, .func (PySem.W.fnOf "is_between" "is_between" (defArgs t_is_between) (defBody t_is_between) (defScope t_is_between) .none kVis_between dcis_between pmis_between anis_between cdis_between ctis_between), slis_between⟩)
    (cis_between : PySem.W.codeIn K cdis_between "is_between" = true)
    (kis_between : PySem.W.keepIn K (.ref f_is_between_) = true)
    (aare_bits : PySem.W.nsIn K mainGlobals "are_bits" = some (some (.ref f_are_bits_)))
    (lare_bits : K.lookup f_are_bits_ = some ⟨ocare_bits, odare_bits, .func (PySem.W.fnOf "are_bits" "are_bits" (defArgs t_are_bits) (defBody t_are_bits) (defScope t_are_bits) .none kVare_bits dcare_bits pmare_bits anare_bits cdare_bits ctare_bits), slare_bits⟩)
    (care_bits : PySem.W.codeIn K cdare_bits "are_bits" = true)
    (kare_bits : PySem.W.keepIn K (.ref f_are_bits_) = true)
    (aare_words : PySem.W.nsIn K mainGlobals "are_words" = some (some (.ref f_are_words_)))
    (lare_words : K.lookup f_are_words_ = some ⟨ocare_words, odare_words, .func (PySem.W.fnOf "are_words" "are_words" (defArgs t_are_words) (defBody t_are_words) (defScope t_are_words) .none kVare_words dcare_words pmare_words anare_words cdare_words ctare_words), slare_words⟩)
    (care_words : PySem.W.codeIn K cdare_words "are_words" = true)
    (kare_words : PySem.W.keepIn K (.ref f_are_words_) = true)
    (aCodeX_initX : PySem.W.findIn K (.ref C0) "__init__" = some (some (.ref f_CodeX_initX_)))
    (iCodeX_initX : PySem.W.isFn K (.ref f_CodeX_initX_) = true)
    (lCodeX_initX : K.lookup f_CodeX_initX_ = some ⟨ocCodeX_initX, odCodeX_initX, .func (PySem.W.fnOf "__init__" "Code.__init__" (defArgs t_CodeX_initX) (defBody t_CodeX_initX) (defScope t_CodeX_initX) .none kVCodeX_initX dcCodeX_initX pmCodeX_initX anCodeX_initX cdCodeX_initX ctCodeX_initX), slCodeX_initX⟩)
    (cCodeX_initX : PySem.W.codeIn K cdCodeX_initX "Code.__init__" = true)
    (kCodeX_initX : PySem.W.keepIn K (.ref f_CodeX_initX_) = true)
    (rdCode_read : PySem.W.readsIn K C0 (.type "type") = true)
    (gaCode_read : PySem.W.specialIn K (.ref C0) "__getattribute__" = some (some (.builtin "type.__getattribute__")))
    (aCode_read : PySem.W.findCls K (.ref C0) (.type "type") "read" = some (.get (.builtin "classmethod.__get__") (.ref pCode_read) .none (.ref C0)))
    (rCode_read : PySem.W.recIn K pCode_read "classmethod" = some (.ref f_Code_read_ :: rsCode_read))
    (iCode_read : PySem.W.fnIn K f_Code_read_ = true)
    (lCode_read : K.lookup f_Code_read_ = some ⟨ocCode_read, odCode_read, .func (PySem.W.fnOf "read" "Code.read" (defArgs t_Code_read) (defBody t_Code_read) (defScope t_Code_read) .none kVCode_read dcCode_read pmCode_read anCode_read cdCode_read ctCode_read), slCode_read⟩)
    (cCode_read : PySem.W.codeIn K cdCode_read "Code.read" = true)
    (kCode_read : PySem.W.keepIn K (.ref f_Code_read_) = true)
    (a_law_made : PySem.W.nsIn K mainGlobals "_law_made" = some (some (.ref f__law_made_)))
    (l_law_made : K.lookup f__law_made_ = some ⟨oc_law_made, od_law_made, .func (PySem.W.fnOf "_law_made" "_law_made" (defArgs t__law_made) (defBody t__law_made) (defScope t__law_made) .none kV_law_made dc_law_made pm_law_made an_law_made cd_law_made ct_law_made), sl_law_made⟩)
    (c_law_made : PySem.W.codeIn K cd_law_made "_law_made" = true)
    (k_law_made : PySem.W.keepIn K (.ref f__law_made_) = true)
    (a_law_same : PySem.W.nsIn K mainGlobals "_law_same" = some (some (.ref f__law_same_)))
    (l_law_same : K.lookup f__law_same_ = some ⟨oc_law_same, od_law_same, .func (PySem.W.fnOf "_law_same" "_law_same" (defArgs t__law_same) (defBody t__law_same) (defScope t__law_same) .none kV_law_same dc_law_same pm_law_same an_law_same cd_law_same ct_law_same), sl_law_same⟩)
    (c_law_same : PySem.W.codeIn K cd_law_same "_law_same" = true)
    (k_law_same : PySem.W.keepIn K (.ref f__law_same_) = true)
    (aneed_code : PySem.W.nsIn K mainGlobals "need_code" = some (some (.ref f_need_code_)))
    (lneed_code : K.lookup f_need_code_ = some ⟨ocneed_code, odneed_code, .func (PySem.W.fnOf "need_code" "need_code" (defArgs t_need_code) (defBody t_need_code) (defScope t_need_code) .none kVneed_code dcneed_code pmneed_code anneed_code cdneed_code ctneed_code), slneed_code⟩)
    (cneed_code : PySem.W.codeIn K cdneed_code "need_code" = true)
    (kneed_code : PySem.W.keepIn K (.ref f_need_code_) = true)
    (abegun : PySem.W.nsIn K mainGlobals "begun" = some (some (.ref f_begun_)))
    (lbegun : K.lookup f_begun_ = some ⟨ocbegun, odbegun, .func (PySem.W.fnOf "begun" "begun" (defArgs t_begun) (defBody t_begun) (defScope t_begun) .none kVbegun dcbegun pmbegun anbegun cdbegun ctbegun), slbegun⟩)
    (cbegun : PySem.W.codeIn K cdbegun "begun" = true)
    (kbegun : PySem.W.keepIn K (.ref f_begun_) = true)
    (aorders_of : PySem.W.nsIn K mainGlobals "orders_of" = some (some (.ref f_orders_of_)))
    (lorders_of : K.lookup f_orders_of_ = some ⟨ocorders_of, odorders_of, .func (PySem.W.fnOf "orders_of" "orders_of" (defArgs t_orders_of) (defBody t_orders_of) (defScope t_orders_of) .none kVorders_of dcorders_of pmorders_of anorders_of cdorders_of ctorders_of), slorders_of⟩)
    (corders_of : PySem.W.codeIn K cdorders_of "orders_of" = true)
    (korders_of : PySem.W.keepIn K (.ref f_orders_of_) = true)
    (abackwards : PySem.W.nsIn K mainGlobals "backwards" = some (some (.ref f_backwards_)))
    (lbackwards : K.lookup f_backwards_ = some ⟨ocbackwards, odbackwards, .func (PySem.W.fnOf "backwards" "backwards" (defArgs t_backwards) (defBody t_backwards) (defScope t_backwards) .none kVbackwards dcbackwards pmbackwards anbackwards cdbackwards ctbackwards), slbackwards⟩)
    (cbackwards : PySem.W.codeIn K cdbackwards "backwards" = true)
    (kbackwards : PySem.W.keepIn K (.ref f_backwards_) = true)
    (aplaced : PySem.W.nsIn K mainGlobals "placed" = some (some (.ref f_placed_)))
    (lplaced : K.lookup f_placed_ = some ⟨ocplaced, odplaced, .func (PySem.W.fnOf "placed" "placed" (defArgs t_placed) (defBody t_placed) (defScope t_placed) .none kVplaced dcplaced pmplaced anplaced cdplaced ctplaced), slplaced⟩)
    (cplaced : PySem.W.codeIn K cdplaced "placed" = true)
    (kplaced : PySem.W.keepIn K (.ref f_placed_) = true)
    (aexchanged : PySem.W.nsIn K mainGlobals "exchanged" = some (some (.ref f_exchanged_)))
    (lexchanged : K.lookup f_exchanged_ = some ⟨ocexchanged, odexchanged, .func (PySem.W.fnOf "exchanged" "exchanged" (defArgs t_exchanged) (defBody t_exchanged) (defScope t_exchanged) .none kVexchanged dcexchanged pmexchanged anexchanged cdexchanged ctexchanged), slexchanged⟩)
    (cexchanged : PySem.W.codeIn K cdexchanged "exchanged" = true)
    (kexchanged : PySem.W.keepIn K (.ref f_exchanged_) = true)
    (aCodeX_lenX : PySem.W.findIn K (.ref C0) "__len__" = some (some (.ref f_CodeX_lenX_)))
    (iCodeX_lenX : PySem.W.isFn K (.ref f_CodeX_lenX_) = true)
    (lCodeX_lenX : K.lookup f_CodeX_lenX_ = some ⟨ocCodeX_lenX, odCodeX_lenX, .func (PySem.W.fnOf "__len__" "Code.__len__" (defArgs t_CodeX_lenX) (defBody t_CodeX_lenX) (defScope t_CodeX_lenX) .none kVCodeX_lenX dcCodeX_lenX pmCodeX_lenX anCodeX_lenX cdCodeX_lenX ctCodeX_lenX), slCodeX_lenX⟩)
    (cCodeX_lenX : PySem.W.codeIn K cdCodeX_lenX "Code.__len__" = true)
    (kCodeX_lenX : PySem.W.keepIn K (.ref f_CodeX_lenX_) = true)
    (aCode_bits : PySem.W.findIn K (.ref C0) "bits" = some (some (.ref pCode_bits)))
    (gCode_bits : PySem.W.specialIn K (.ref pCode_bits) "__get__" = some (some (.builtin "property.__get__")))
    (tCode_bits : PySem.W.takesIn K (.ref pCode_bits) = some true)
    (rCode_bits : PySem.W.recIn K pCode_bits "property" = some (.ref f_Code_bits_ :: rsCode_bits))
    (lCode_bits : K.lookup f_Code_bits_ = some ⟨ocCode_bits, odCode_bits, .func (PySem.W.fnOf "bits" "Code.bits" (defArgs t_Code_bits) (defBody t_Code_bits) (defScope t_Code_bits) .none kVCode_bits dcCode_bits pmCode_bits anCode_bits cdCode_bits ctCode_bits), slCode_bits⟩)
    (cCode_bits : PySem.W.codeIn K cdCode_bits "Code.bits" = true)
    (kCode_bits : PySem.W.keepIn K (.ref f_Code_bits_) = true)
    (aCode_words : PySem.W.findIn K (.ref C0) "words" = some (some (.ref pCode_words)))
    (gCode_words : PySem.W.specialIn K (.ref pCode_words) "__get__" = some (some (.builtin "property.__get__")))
    (tCode_words : PySem.W.takesIn K (.ref pCode_words) = some true)
    (rCode_words : PySem.W.recIn K pCode_words "property" = some (.ref f_Code_words_ :: rsCode_words))
    (lCode_words : K.lookup f_Code_words_ = some ⟨ocCode_words, odCode_words, .func (PySem.W.fnOf "words" "Code.words" (defArgs t_Code_words) (defBody t_Code_words) (defScope t_Code_words) .none kVCode_words dcCode_words pmCode_words anCode_words cdCode_words ctCode_words), slCode_words⟩)
    (cCode_words : PySem.W.codeIn K cdCode_words "Code.words" = true)
    (kCode_words : PySem.W.keepIn K (.ref f_Code_words_) = true)
    (aalike : PySem.W.nsIn K mainGlobals "alike" = some (some (.ref f_alike_)))
    (lalike : K.lookup f_alike_ = some ⟨ocalike, odalike, .func (PySem.W.fnOf "alike" "alike" (defArgs t_alike) (defBody t_alike) (defScope t_alike) .none kValike dcalike pmalike analike cdalike ctalike), slalike⟩)
    (calike : PySem.W.codeIn K cdalike "alike" = true)
    (kalike : PySem.W.keepIn K (.ref f_alike_) = true)
    (alaw : PySem.W.nsIn K mainGlobals "law" = some (some (.ref f_law_)))
    (llaw : K.lookup f_law_ = some ⟨oclaw, odlaw, .func (PySem.W.fnOf "law" "law" (defArgs t_law) (defBody t_law) (defScope t_law) .none kVlaw dclaw pmlaw anlaw cdlaw ctlaw), sllaw⟩)
    (claw : PySem.W.codeIn K cdlaw "law" = true)
    (klaw : PySem.W.keepIn K (.ref f_law_) = true)
    : ∃ fd : FuncData, (∀ (s : Shared) (v : Value), BindsTo s fd ⟨[v], []⟩ [("_law_script", v)]) ∧ ∀ base : Heap, K.In base → base.Ns mainGlobals mg → ∃ g : Gs, g.K = K ∧ g.tabs = [] ∧ FnG l.prog w K mg base (L2N.CX l.prog w) 8 fa fd ["_law_script"] (spF g f_law) := by
  have e := hfa.symm.trans (PySem.W.mg_of X G alaw)
  cases e
  have F__law_pen := fun_mk (st := t__law_pen) l_law_pen c_law_pen k_law_pen
  have F__law_cell_at := fun_mk (st := t__law_cell_at) l_law_cell_at c_law_cell_at k_law_cell_at
  have F__law_draw := fun_mk (st := t__law_draw) l_law_draw c_law_draw k_law_draw
  have F__law_twisted := fun_mk (st := t__law_twisted) l_law_twisted c_law_twisted k_law_twisted
  have F__law_mixed := fun_mk (st := t__law_mixed) l_law_mixed c_law_mixed k_law_mixed
  have F__law_mirror := fun_mk (st := t__law_mirror) l_law_mirror c_law_mirror k_law_mirror
  have F__law_lone := fun_mk (st := t__law_lone) l_law_lone c_law_lone k_law_lone
  have F__law_all := fun_mk (st := t__law_all) l_law_all c_law_all k_law_all
  have F__law_words := fun_mk (st := t__law_words) l_law_words c_law_words k_law_words
  have F__law_turned_words := fun_mk (st := t__law_turned_words) l_law_turned_words c_law_turned_words k_law_turned_words
  have F__law_renamed_words := fun_mk (st := t__law_renamed_words) l_law_renamed_words c_law_renamed_words k_law_renamed_words
  have F__law_flipped_words := fun_mk (st := t__law_flipped_words) l_law_flipped_words c_law_flipped_words k_law_flipped_words
  have F__law_back_words := fun_mk (st := t__law_back_words) l_law_back_words c_law_back_words k_law_back_words
  have F__law_rest := fun_mk (st := t__law_rest) l_law_rest c_law_rest k_law_rest
  have F__law_near := fun_mk (st := t__law_near) l_law_near c_law_near k_law_near
  have F__law_orders := fun_mk (st := t__law_orders) l_law_orders c_law_orders k_law_orders
  have F__law_due := fun_mk (st := t__law_due) l_law_due c_law_due k_law_due
  have F_word_in := fun_mk (st := t_word_in) lword_in cword_in kword_in
  have F_is_between := fun_mk (st := t_is_between) lis_between cis_between kis_between
  have F_are_bits := fun_mk (st := t_are_bits) lare_bits care_bits kare_bits
  have F_are_words := fun_mk (st := t_are_words) lare_words care_words kare_words
  have F_CodeX_initX := fun_mk (st := t_CodeX_initX) lCodeX_initX cCodeX_initX kCodeX_initX
  have F_Code_read := fun_mk (st := t_Code_read) lCode_read cCode_read kCode_read
  have F__law_made := fun_mk (st := t__law_made) l_law_made c_law_made k_law_made
  have F__law_same := fun_mk (st := t__law_same) l_law_same c_law_same k_law_same
  have F_need_code := fun_mk (st := t_need_code) lneed_code cneed_code kneed_code
  have F_begun := fun_mk (st := t_begun) lbegun cbegun kbegun
  have F_orders_of := fun_mk (st := t_orders_of) lorders_of corders_of korders_of
  have F_backwards := fun_mk (st := t_backwards) lbackwards cbackwards kbackwards
  have F_placed := fun_mk (st := t_placed) lplaced cplaced kplaced
  have F_exchanged := fun_mk (st := t_exchanged) lexchanged cexchanged kexchanged
  have F_CodeX_lenX := fun_mk (st := t_CodeX_lenX) lCodeX_lenX cCodeX_lenX kCodeX_lenX
  have F_Code_bits := fun_mk (st := t_Code_bits) lCode_bits cCode_bits kCode_bits
  have F_Code_words := fun_mk (st := t_Code_words) lCode_words cCode_words kCode_words
  have F_alike := fun_mk (st := t_alike) lalike calike kalike
  have F_law := fun_mk (st := t_law) llaw claw klaw
  refine ⟨PySem.W.fnOf "law" "law" (defArgs t_law) (defBody t_law) (defScope t_law) .none kVlaw dclaw pmlaw anlaw cdlaw ctlaw, fun s v => .of_eq rfl, fun base _ _ => ?_⟩
  let g : Gs := { prog := l.prog, w := w, base := base, K := K, mg := mg, cl := fun n => if n = 0 then C0 else 0, has := fun n => n == 0, lam := fun n => ⟨"", ⟨[], [], Option.none, [], [], Option.none, []⟩, noE, defScope t_law⟩ }
  refine ⟨g, rfl, rfl, ?_⟩
  have cC0 : ClsC g 0 := ⟨⟨pgC0, hdC0, poC0, saC0⟩, fun f hf => by
    have hf : f ∈ [("row" : Str), ("known" : Str)] := hf
    simp only [List.mem_cons, List.not_mem_nil, or_false] at hf
    rcases hf with rfl | rfl
    · exact n0C0
    · exact n1C0
    , by decide, dcC0, moC0, fun T => by
      cases T
      · exact kit_obj bintC0
      · exact kit_obj bboolC0
      · exact kit_obj btupleC0
      · exact kit_obj bstrC0
      · exact kit_obj blistC0
    , fun n hn => kit_own hn icC0 tyC0
    ⟩
  have hz : ∀ c, g.has c = true → c = 0 := fun c hc => by simpa [g] using hc
  have fx : Fx g := ⟨fun c hc => by rw [hz c hc]; exact cC0, fun c d hc hd => by rw [hz c hc, hz d hd]; exact kit_self, hn, htk, fun x hx => by
    simp only [List.mem_cons, List.not_mem_nil, or_false] at hx
    rcases hx with rfl | rfl | rfl | rfl | rfl | rfl | rfl | rfl | rfl | rfl | rfl | rfl | rfl | rfl | rfl | rfl | rfl | rfl | rfl
    · exact PySem.W.mg_none_of X G zlen
    · exact PySem.W.mg_none_of X G zrange
    · exact PySem.W.mg_none_of X G zisinstance
    · exact PySem.W.mg_none_of X G ztuple
    · exact PySem.W.mg_none_of X G zlist
    · exact PySem.W.mg_none_of X G zall
    · exact PySem.W.mg_none_of X G zany
    · exact PySem.W.mg_none_of X G zmax
    · exact PySem.W.mg_none_of X G zmin
    · exact PySem.W.mg_none_of X G zset
    · exact PySem.W.mg_none_of X G zsorted
    · exact PySem.W.mg_none_of X G zenumerate
    · exact PySem.W.mg_none_of X G zzip
    · exact PySem.W.mg_none_of X G zrepr
    · exact PySem.W.mg_none_of X G zstr
    · exact PySem.W.mg_none_of X G zint
    · exact PySem.W.mg_none_of X G zsum
    · exact PySem.W.mg_none_of X G zdict
    · exact PySem.W.mg_none_of X G zbool
    ⟩
  have C_Code : ClsN g 0 "Code" := ⟨rfl, PySem.W.mg_of X G aC0⟩
  have G_SIGNS : GlobC g "SIGNS" (.tup [(.str (Str.ofString "0")), (.str (Str.ofString "1"))]) := ⟨.ref ad_SIGNS, _, PySem.W.mg_of X G v_SIGNS, rfl, fun w => by simp only [Rep, Reps]; exact ⟨ad_SIGNS, [.str (Str.ofString "0"), .str (Str.ofString "1")], rfl, .inr ⟨_, _, _, w_SIGNS, rfl, rfl, rfl, by show 2 ≤ sizeLine; decide, .cons ⟨_, rfl⟩ (.cons ⟨_, rfl⟩ (.nil))⟩, ⟨_, _, rfl, rfl, ⟨_, _, rfl, rfl, rfl⟩⟩⟩⟩
  have T_SIGNS : GlobT g "SIGNS" [Str.ofString "0", Str.ofString "1"] := ⟨ad_SIGNS, PySem.W.mg_of X G v_SIGNS, ⟨_, w_SIGNS, rfl, rfl⟩, fun w => by simp only [Rep, Reps]; exact ⟨ad_SIGNS, [.str (Str.ofString "0"), .str (Str.ofString "1")], rfl, .inr ⟨_, _, _, w_SIGNS, rfl, rfl, rfl, by show 2 ≤ sizeLine; decide, .cons ⟨_, rfl⟩ (.cons ⟨_, rfl⟩ (.nil))⟩, ⟨_, _, rfl, rfl, ⟨_, _, rfl, rfl, rfl⟩⟩⟩⟩
  have G_NO_WORD : GlobC g "NO_WORD" (.int (-1)) := ⟨.int (-1), _, PySem.W.mg_of X G vG_NO_WORD, ⟨_, rfl⟩, fun w => by simp only [Rep]⟩
  have G_FEWEST_VALUES : GlobC g "FEWEST_VALUES" (.int (2)) := ⟨.int (2), _, PySem.W.mg_of X G vG_FEWEST_VALUES, ⟨_, rfl⟩, fun w => by simp only [Rep]⟩
  have G_MOST_VALUES : GlobC g "MOST_VALUES" (.int (16)) := ⟨.int (16), _, PySem.W.mg_of X G vG_MOST_VALUES, ⟨_, rfl⟩, fun w => by simp only [Rep]⟩
  have G_MOST_BITS : GlobC g "MOST_BITS" (.int (5)) := ⟨.int (5), _, PySem.W.mg_of X G vG_MOST_BITS, ⟨_, rfl⟩, fun w => by simp only [Rep]⟩
  have S__law_pen : FnScope n__law_pen ["_law_cell"] (defScope t__law_pen) := ⟨rfl, rfl, rfl, by decide +kernel, rfl, by decide +kernel, by decide +kernel⟩
  have bi__law_pen := F__law_pen.binds (ps := ["_law_cell"]) fun _ _ _ _ _ _ us hl => match us, hl with | [_], _ => rfl
  have h__law_pen := def_ok (g := g) (n := 1) F__law_pen S__law_pen rfl (by decide) fx (b__law_pen (g := g) )
  have d__law_pen : Def g 1 "_law_pen" [] f__law_pen := ⟨_, _, _, [], [], h__law_pen, PySem.W.mg_of X G a_law_pen, k_law_pen, bi__law_pen, .nil, fun w => by simp only [Reps]⟩
  have S__law_cell_at : FnScope n__law_cell_at ["_law_script", "_law_k"] (defScope t__law_cell_at) := ⟨rfl, rfl, rfl, by decide +kernel, rfl, by decide +kernel, by decide +kernel⟩
  have bi__law_cell_at := F__law_cell_at.binds (ps := ["_law_script", "_law_k"]) fun _ _ _ _ _ _ us hl => match us, hl with | [_, _], _ => rfl
  have h__law_cell_at := def_ok (g := g) (n := 2) F__law_cell_at S__law_cell_at rfl (by decide) fx (b__law_cell_at (g := g) )
  have d__law_cell_at : Def g 1 "_law_cell_at" [] f__law_cell_at := ⟨_, _, _, [], [], h__law_cell_at, PySem.W.mg_of X G a_law_cell_at, k_law_cell_at, bi__law_cell_at, .nil, fun w => by simp only [Reps]⟩
  have S__law_draw : FnScope n__law_draw ["_law_pen_here", "_law_many"] (defScope t__law_draw) := ⟨rfl, rfl, rfl, by decide +kernel, rfl, by decide +kernel, by decide +kernel⟩
  have bi__law_draw := F__law_draw.binds (ps := ["_law_pen_here", "_law_many"]) fun _ _ _ _ _ _ us hl => match us, hl with | [_, _], _ => rfl
  have h__law_draw := def_ok (g := g) (n := 2) F__law_draw S__law_draw rfl (by decide) fx (b__law_draw (g := g) )
  have d__law_draw : Def g 1 "_law_draw" [] f__law_draw := ⟨_, _, _, [], [], h__law_draw, PySem.W.mg_of X G a_law_draw, k_law_draw, bi__law_draw, .nil, fun w => by simp only [Reps]⟩
  have S__law_twisted : FnScope n__law_twisted ["_law_many"] (defScope t__law_twisted) := ⟨rfl, rfl, rfl, by decide +kernel, rfl, by decide +kernel, by decide +kernel⟩
  have bi__law_twisted := F__law_twisted.binds (ps := ["_law_many"]) fun _ _ _ _ _ _ us hl => match us, hl with | [_], _ => rfl
  have h__law_twisted := def_ok (g := g) (n := 1) F__law_twisted S__law_twisted rfl (by decide) fx (b__law_twisted (g := g) )
  have d__law_twisted : Def g 1 "_law_twisted" [] f__law_twisted := ⟨_, _, _, [], [], h__law_twisted, PySem.W.mg_of X G a_law_twisted, k_law_twisted, bi__law_twisted, .nil, fun w => by simp only [Reps]⟩
  have S__law_mixed : FnScope n__law_mixed ["_law_pen_here", "_law_some"] (defScope t__law_mixed) := ⟨rfl, rfl, rfl, by decide +kernel, rfl, by decide +kernel, by decide +kernel⟩
  have bi__law_mixed := F__law_mixed.binds (ps := ["_law_pen_here", "_law_some"]) fun _ _ _ _ _ _ us hl => match us, hl with | [_, _], _ => rfl
  have h__law_mixed := def_ok (g := g) (n := 2) F__law_mixed S__law_mixed rfl (by decide) fx (b__law_mixed (g := g)  d__law_draw)
  have d__law_mixed : Def g 2 "_law_mixed" [] f__law_mixed := ⟨_, _, _, [], [], h__law_mixed, PySem.W.mg_of X G a_law_mixed, k_law_mixed, bi__law_mixed, .nil, fun w => by simp only [Reps]⟩
  have S__law_mirror : FnScope n__law_mirror ["_law_many"] (defScope t__law_mirror) := ⟨rfl, rfl, rfl, by decide +kernel, rfl, by decide +kernel, by decide +kernel⟩
  have bi__law_mirror := F__law_mirror.binds (ps := ["_law_many"]) fun _ _ _ _ _ _ us hl => match us, hl with | [_], _ => rfl
  have h__law_mirror := def_ok (g := g) (n := 1) F__law_mirror S__law_mirror rfl (by decide) fx (b__law_mirror (g := g) )
  have d__law_mirror : Def g 1 "_law_mirror" [] f__law_mirror := ⟨_, _, _, [], [], h__law_mirror, PySem.W.mg_of X G a_law_mirror, k_law_mirror, bi__law_mirror, .nil, fun w => by simp only [Reps]⟩
  have S__law_lone : FnScope n__law_lone ["_law_many"] (defScope t__law_lone) := ⟨rfl, rfl, rfl, by decide +kernel, rfl, by decide +kernel, by decide +kernel⟩
  have bi__law_lone := F__law_lone.binds (ps := ["_law_many"]) fun _ _ _ _ _ _ us hl => match us, hl with | [_], _ => rfl
  have h__law_lone := def_ok (g := g) (n := 1) F__law_lone S__law_lone rfl (by decide) fx (b__law_lone (g := g) )
  have d__law_lone : Def g 1 "_law_lone" [] f__law_lone := ⟨_, _, _, [], [], h__law_lone, PySem.W.mg_of X G a_law_lone, k_law_lone, bi__law_lone, .nil, fun w => by simp only [Reps]⟩
  have S__law_all : FnScope n__law_all ["_law_many"] (defScope t__law_all) := ⟨rfl, rfl, rfl, by decide +kernel, rfl, by decide +kernel, by decide +kernel⟩
  have bi__law_all := F__law_all.binds (ps := ["_law_many"]) fun _ _ _ _ _ _ us hl => match us, hl with | [_], _ => rfl
  have h__law_all := def_ok (g := g) (n := 1) F__law_all S__law_all rfl (by decide) fx (b__law_all (g := g) )
  have d__law_all : Def g 1 "_law_all" [] f__law_all := ⟨_, _, _, [], [], h__law_all, PySem.W.mg_of X G a_law_all, k_law_all, bi__law_all, .nil, fun w => by simp only [Reps]⟩
  have S__law_words : FnScope n__law_words ["_law_pen_here", "_law_most"] (defScope t__law_words) := ⟨rfl, rfl, rfl, by decide +kernel, rfl, by decide +kernel, by decide +kernel⟩
  have bi__law_words := F__law_words.binds (ps := ["_law_pen_here", "_law_most"]) fun _ _ _ _ _ _ us hl => match us, hl with | [_, _], _ => rfl
  have h__law_words := def_ok (g := g) (n := 2) F__law_words S__law_words rfl (by decide) fx (b__law_words (g := g)  d__law_draw d__law_twisted d__law_mirror d__law_lone d__law_mixed d__law_all)
  have d__law_words : Def g 3 "_law_words" [] f__law_words := ⟨_, _, _, [], [], h__law_words, PySem.W.mg_of X G a_law_words, k_law_words, bi__law_words, .nil, fun w => by simp only [Reps]⟩
  have S__law_turned_words : FnScope n__law_turned_words ["_law_words_here", "_law_by"] (defScope t__law_turned_words) := ⟨rfl, rfl, rfl, by decide +kernel, rfl, by decide +kernel, by decide +kernel⟩
  have bi__law_turned_words := F__law_turned_words.binds (ps := ["_law_words_here", "_law_by"]) fun _ _ _ _ _ _ us hl => match us, hl with | [_, _], _ => rfl
  have h__law_turned_words := def_ok (g := g) (n := 2) F__law_turned_words S__law_turned_words rfl (by decide) fx (b__law_turned_words (g := g) )
  have d__law_turned_words : Def g 1 "_law_turned_words" [] f__law_turned_words := ⟨_, _, _, [], [], h__law_turned_words, PySem.W.mg_of X G a_law_turned_words, k_law_turned_words, bi__law_turned_words, .nil, fun w => by simp only [Reps]⟩
  have S__law_renamed_words : FnScope n__law_renamed_words ["_law_words_here", "_law_order"] (defScope t__law_renamed_words) := ⟨rfl, rfl, rfl, by decide +kernel, rfl, by decide +kernel, by decide +kernel⟩
  have bi__law_renamed_words := F__law_renamed_words.binds (ps := ["_law_words_here", "_law_order"]) fun _ _ _ _ _ _ us hl => match us, hl with | [_, _], _ => rfl
  have h__law_renamed_words := def_ok (g := g) (n := 2) F__law_renamed_words S__law_renamed_words rfl (by decide) fx (b__law_renamed_words (g := g) )
  have d__law_renamed_words : Def g 1 "_law_renamed_words" [] f__law_renamed_words := ⟨_, _, _, [], [], h__law_renamed_words, PySem.W.mg_of X G a_law_renamed_words, k_law_renamed_words, bi__law_renamed_words, .nil, fun w => by simp only [Reps]⟩
  have S__law_flipped_words : FnScope n__law_flipped_words ["_law_words_here", "_law_spots"] (defScope t__law_flipped_words) := ⟨rfl, rfl, rfl, by decide +kernel, rfl, by decide +kernel, by decide +kernel⟩
  have bi__law_flipped_words := F__law_flipped_words.binds (ps := ["_law_words_here", "_law_spots"]) fun _ _ _ _ _ _ us hl => match us, hl with | [_, _], _ => rfl
  have h__law_flipped_words := def_ok (g := g) (n := 2) F__law_flipped_words S__law_flipped_words rfl (by decide) fx (b__law_flipped_words (g := g) )
  have d__law_flipped_words : Def g 1 "_law_flipped_words" [] f__law_flipped_words := ⟨_, _, _, [], [], h__law_flipped_words, PySem.W.mg_of X G a_law_flipped_words, k_law_flipped_words, bi__law_flipped_words, .nil, fun w => by simp only [Reps]⟩
  have S__law_back_words : FnScope n__law_back_words ["_law_words_here"] (defScope t__law_back_words) := ⟨rfl, rfl, rfl, by decide +kernel, rfl, by decide +kernel, by decide +kernel⟩
  have bi__law_back_words := F__law_back_words.binds (ps := ["_law_words_here"]) fun _ _ _ _ _ _ us hl => match us, hl with | [_], _ => rfl
  have h__law_back_words := def_ok (g := g) (n := 1) F__law_back_words S__law_back_words rfl (by decide) fx (b__law_back_words (g := g) )
  have d__law_back_words : Def g 1 "_law_back_words" [] f__law_back_words := ⟨_, _, _, [], [], h__law_back_words, PySem.W.mg_of X G a_law_back_words, k_law_back_words, bi__law_back_words, .nil, fun w => by simp only [Reps]⟩
  have S__law_rest : FnScope n__law_rest ["_law_words_here", "_law_order", "_law_spots", "_law_way"] (defScope t__law_rest) := ⟨rfl, rfl, rfl, by decide +kernel, rfl, by decide +kernel, by decide +kernel⟩
  have bi__law_rest := F__law_rest.binds (ps := ["_law_words_here", "_law_order", "_law_spots", "_law_way"]) fun _ _ _ _ _ _ us hl => match us, hl with | [_, _, _, _], _ => rfl
  have h__law_rest := def_ok (g := g) (n := 4) F__law_rest S__law_rest rfl (by decide) fx (b__law_rest (g := g)  d__law_renamed_words d__law_flipped_words d__law_back_words)
  have d__law_rest : Def g 2 "_law_rest" [] f__law_rest := ⟨_, _, _, [], [], h__law_rest, PySem.W.mg_of X G a_law_rest, k_law_rest, bi__law_rest, .nil, fun w => by simp only [Reps]⟩
  have S__law_near : FnScope n__law_near ["_law_pen_here", "_law_words_here"] (defScope t__law_near) := ⟨rfl, rfl, rfl, by decide +kernel, rfl, by decide +kernel, by decide +kernel⟩
  have bi__law_near := F__law_near.binds (ps := ["_law_pen_here", "_law_words_here"]) fun _ _ _ _ _ _ us hl => match us, hl with | [_, _], _ => rfl
  have h__law_near := def_ok (g := g) (n := 2) F__law_near S__law_near rfl (by decide) fx (b__law_near (g := g)  d__law_draw d__law_mixed d__law_turned_words d__law_rest)
  have d__law_near : Def g 3 "_law_near" [] f__law_near := ⟨_, _, _, [], [], h__law_near, PySem.W.mg_of X G a_law_near, k_law_near, bi__law_near, .nil, fun w => by simp only [Reps]⟩
  have S__law_orders : FnScope n__law_orders ["_law_many"] (defScope t__law_orders) := ⟨rfl, rfl, rfl, by decide +kernel, rfl, by decide +kernel, by decide +kernel⟩
  have bi__law_orders := F__law_orders.binds (ps := ["_law_many"]) fun _ _ _ _ _ _ us hl => match us, hl with | [_], _ => rfl
  have h__law_orders := def_ok (g := g) (n := 1) F__law_orders S__law_orders rfl (by decide) fx (b__law_orders (g := g) )
  have d__law_orders : Def g 1 "_law_orders" [] f__law_orders := ⟨_, _, _, [], [], h__law_orders, PySem.W.mg_of X G a_law_orders, k_law_orders, bi__law_orders, .nil, fun w => by simp only [Reps]⟩
  have S__law_due : FnScope n__law_due ["_law_words_here", "_law_other"] (defScope t__law_due) := ⟨rfl, rfl, rfl, by decide +kernel, rfl, by decide +kernel, by decide +kernel⟩
  have bi__law_due := F__law_due.binds (ps := ["_law_words_here", "_law_other"]) fun _ _ _ _ _ _ us hl => match us, hl with | [_, _], _ => rfl
  have h__law_due := def_ok (g := g) (n := 2) F__law_due S__law_due rfl (by decide) fx (b__law_due (g := g)  d__law_orders d__law_turned_words d__law_rest)
  have d__law_due : Def g 3 "_law_due" [] f__law_due := ⟨_, _, _, [], [], h__law_due, PySem.W.mg_of X G a_law_due, k_law_due, bi__law_due, .nil, fun w => by simp only [Reps]⟩
  have S_word_in : FnScope n_word_in ["line"] (defScope t_word_in) := ⟨rfl, rfl, rfl, by decide +kernel, rfl, by decide +kernel, by decide +kernel⟩
  have bi_word_in := F_word_in.binds (ps := ["line"]) fun _ _ _ _ _ _ us hl => match us, hl with | [_], _ => rfl
  have h_word_in := def_ok (g := g) (n := 1) F_word_in S_word_in rfl (by decide) fx (b_word_in (g := g) G_SIGNS T_SIGNS G_NO_WORD)
  have d_word_in : Def g 1 "word_in" [] f_word_in := ⟨_, _, _, [], [], h_word_in, PySem.W.mg_of X G aword_in, kword_in, bi_word_in, .nil, fun w => by simp only [Reps]⟩
  have S_is_between : FnScope n_is_between ["thing", "low", "high"] (defScope t_is_between) := ⟨rfl, rfl, rfl, by decide +kernel, rfl, by decide +kernel, by decide +kernel⟩
  have bi_is_between := F_is_between.binds (ps := ["thing", "low", "high"]) fun _ _ _ _ _ _ us hl => match us, hl with | [_, _, _], _ => rfl
  have h_is_between := def_ok (g := g) (n := 3) F_is_between S_is_between rfl (by decide) fx (b_is_between (g := g) )
  have d_is_between : Def g 1 "is_between" [] f_is_between := ⟨_, _, _, [], [], h_is_between, PySem.W.mg_of X G ais_between, kis_between, bi_is_between, .nil, fun w => by simp only [Reps]⟩
  have S_are_bits : FnScope n_are_bits ["thing"] (defScope t_are_bits) := ⟨rfl, rfl, rfl, by decide +kernel, rfl, by decide +kernel, by decide +kernel⟩
  have bi_are_bits := F_are_bits.binds (ps := ["thing"]) fun _ _ _ _ _ _ us hl => match us, hl with | [_], _ => rfl
  have h_are_bits := def_ok (g := g) (n := 1) F_are_bits S_are_bits rfl (by decide) fx (b_are_bits (g := g)  d_is_between)
  have d_are_bits : Def g 2 "are_bits" [] f_are_bits := ⟨_, _, _, [], [], h_are_bits, PySem.W.mg_of X G aare_bits, kare_bits, bi_are_bits, .nil, fun w => by simp only [Reps]⟩
  have S_are_words : FnScope n_are_words ["thing"] (defScope t_are_words) := ⟨rfl, rfl, rfl, by decide +kernel, rfl, by decide +kernel, by decide +kernel⟩
  have bi_are_words := F_are_words.binds (ps := ["thing"]) fun _ _ _ _ _ _ us hl => match us, hl with | [_], _ => rfl
  have h_are_words := def_ok (g := g) (n := 1) F_are_words S_are_words rfl (by decide) fx (b_are_words (g := g) G_FEWEST_VALUES G_MOST_VALUES G_MOST_BITS d_are_bits)
  have d_are_words : Def g 3 "are_words" [] f_are_words := ⟨_, _, _, [], [], h_are_words, PySem.W.mg_of X G aare_words, kare_words, bi_are_words, .nil, fun w => by simp only [Reps]⟩
  have S_CodeX_initX : FnScope n_CodeX_initX ["self", "words"] (defScope t_CodeX_initX) := ⟨rfl, rfl, rfl, by decide +kernel, rfl, by decide +kernel, by decide +kernel⟩
  have d_CodeX_initX : Ini g 4 0 f_CodeX_initX := ⟨f_CodeX_initX_, ⟨mkC0, aCodeX_initX, iCodeX_initX, kcC0⟩, init_star (g := g) (c := 0) F_CodeX_initX S_CodeX_initX (by decide) rfl (fun _ _ _ _ _ _ us rest hl => match us, rest, hl with | [_], [], _ => rfl | [_], _ :: _, _ => rfl) fx (b_CodeX_initX (g := g)  d_are_words), rfl⟩
  have S_Code_read : FnScope n_Code_read ["cls", "text"] (defScope t_Code_read) := ⟨rfl, rfl, rfl, by decide +kernel, rfl, by decide +kernel, by decide +kernel⟩
  have bi_Code_read := F_Code_read.binds (ps := ["cls", "text"]) fun _ _ _ _ _ _ us hl => match us, hl with | [_, _], _ => rfl
  have h_Code_read := def_ok (g := g) (n := 2) F_Code_read S_Code_read rfl (by decide) fx (b_Code_read (g := g)  d_word_in d_are_words d_CodeX_initX)
  have r_Code_read : FnR g.prog g.w g.K g.mg g.base (L2N.CX g.prog g.w) 6 f_Code_read_ (spF g f_Code_read) := (h_Code_read.raw bi_Code_read .nil).imp fun vs H Q E z => by rw [List.append_nil]; exact z
  have d_Code_read : CMt g 6 0 "read" f_Code_read := ⟨.type "type", pCode_read, f_Code_read_, r_Code_read, ⟨rdCode_read, gaCode_read⟩, ⟨aCode_read, ⟨_, rCode_read⟩, iCode_read⟩, rfl⟩
  have S__law_made : FnScope n__law_made ["_law_words_here"] (defScope t__law_made) := ⟨rfl, rfl, rfl, by decide +kernel, rfl, by decide +kernel, by decide +kernel⟩
  have bi__law_made := F__law_made.binds (ps := ["_law_words_here"]) fun _ _ _ _ _ _ us hl => match us, hl with | [_], _ => rfl
  have h__law_made := def_ok (g := g) (n := 1) F__law_made S__law_made rfl (by decide) fx (b__law_made (g := g) C_Code d_Code_read)
  have d__law_made : Def g 7 "_law_made" [] f__law_made := ⟨_, _, _, [], [], h__law_made, PySem.W.mg_of X G a_law_made, k_law_made, bi__law_made, .nil, fun w => by simp only [Reps]⟩
  have S__law_same : FnScope n__law_same ["_law_found", "_law_due_here"] (defScope t__law_same) := ⟨rfl, rfl, rfl, by decide +kernel, rfl, by decide +kernel, by decide +kernel⟩
  have bi__law_same := F__law_same.binds (ps := ["_law_found", "_law_due_here"]) fun _ _ _ _ _ _ us hl => match us, hl with | [_, _], _ => rfl
  have h__law_same := def_okG (g := g) (n := 2) F__law_same S__law_same rfl (by decide) fx (b__law_same (g := g) )
  have d__law_same : DefG g 1 "_law_same" [] f__law_same := ⟨_, _, _, [], [], h__law_same, PySem.W.mg_of X G a_law_same, k_law_same, bi__law_same, .nil, fun w => by simp only [Reps]⟩
  have S_need_code : FnScope n_need_code ["thing"] (defScope t_need_code) := ⟨rfl, rfl, rfl, by decide +kernel, rfl, by decide +kernel, by decide +kernel⟩
  have bi_need_code := F_need_code.binds (ps := ["thing"]) fun _ _ _ _ _ _ us hl => match us, hl with | [_], _ => rfl
  have h_need_code := def_ok (g := g) (n := 1) F_need_code S_need_code rfl (by decide) fx (b_need_code (g := g) C_Code)
  have d_need_code : Def g 1 "need_code" [] f_need_code := ⟨_, _, _, [], [], h_need_code, PySem.W.mg_of X G aneed_code, kneed_code, bi_need_code, .nil, fun w => by simp only [Reps]⟩
  have S_begun : FnScope n_begun ["words", "by"] (defScope t_begun) := ⟨rfl, rfl, rfl, by decide +kernel, rfl, by decide +kernel, by decide +kernel⟩
  have bi_begun := F_begun.binds (ps := ["words", "by"]) fun _ _ _ _ _ _ us hl => match us, hl with | [_, _], _ => rfl
  have h_begun := def_ok (g := g) (n := 2) F_begun S_begun rfl (by decide) fx (b_begun (g := g) )
  have d_begun : Def g 1 "begun" [] f_begun := ⟨_, _, _, [], [], h_begun, PySem.W.mg_of X G abegun, kbegun, bi_begun, .nil, fun w => by simp only [Reps]⟩
  have S_orders_of : FnScope n_orders_of ["many"] (defScope t_orders_of) := ⟨rfl, rfl, rfl, by decide +kernel, rfl, by decide +kernel, by decide +kernel⟩
  have bi_orders_of := F_orders_of.binds (ps := ["many"]) fun _ _ _ _ _ _ us hl => match us, hl with | [_], _ => rfl
  have h_orders_of := def_ok (g := g) (n := 1) F_orders_of S_orders_of rfl (by decide) fx (b_orders_of (g := g) )
  have d_orders_of : Def g 1 "orders_of" [] f_orders_of := ⟨_, _, _, [], [], h_orders_of, PySem.W.mg_of X G aorders_of, korders_of, bi_orders_of, .nil, fun w => by simp only [Reps]⟩
  have S_backwards : FnScope n_backwards ["words"] (defScope t_backwards) := ⟨rfl, rfl, rfl, by decide +kernel, rfl, by decide +kernel, by decide +kernel⟩
  have bi_backwards := F_backwards.binds (ps := ["words"]) fun _ _ _ _ _ _ us hl => match us, hl with | [_], _ => rfl
  have h_backwards := def_ok (g := g) (n := 1) F_backwards S_backwards rfl (by decide) fx (b_backwards (g := g) )
  have d_backwards : Def g 1 "backwards" [] f_backwards := ⟨_, _, _, [], [], h_backwards, PySem.W.mg_of X G abackwards, kbackwards, bi_backwards, .nil, fun w => by simp only [Reps]⟩
  have S_placed : FnScope n_placed ["word", "order"] (defScope t_placed) := ⟨rfl, rfl, rfl, by decide +kernel, rfl, by decide +kernel, by decide +kernel⟩
  have bi_placed := F_placed.binds (ps := ["word", "order"]) fun _ _ _ _ _ _ us hl => match us, hl with | [_, _], _ => rfl
  have h_placed := def_ok (g := g) (n := 2) F_placed S_placed rfl (by decide) fx (b_placed (g := g) )
  have d_placed : Def g 1 "placed" [] f_placed := ⟨_, _, _, [], [], h_placed, PySem.W.mg_of X G aplaced, kplaced, bi_placed, .nil, fun w => by simp only [Reps]⟩
  have S_exchanged : FnScope n_exchanged ["words", "others", "order"] (defScope t_exchanged) := ⟨rfl, rfl, rfl, by decide +kernel, rfl, by decide +kernel, by decide +kernel⟩
  have bi_exchanged := F_exchanged.binds (ps := ["words", "others", "order"]) fun _ _ _ _ _ _ us hl => match us, hl with | [_, _, _], _ => rfl
  have h_exchanged := def_ok (g := g) (n := 3) F_exchanged S_exchanged rfl (by decide) fx (b_exchanged (g := g)  d_placed)
  have d_exchanged : Def g 2 "exchanged" [] f_exchanged := ⟨_, _, _, [], [], h_exchanged, PySem.W.mg_of X G aexchanged, kexchanged, bi_exchanged, .nil, fun w => by simp only [Reps]⟩
  have S_CodeX_lenX : FnScope n_CodeX_lenX ["self"] (defScope t_CodeX_lenX) := ⟨rfl, rfl, rfl, by decide +kernel, rfl, by decide +kernel, by decide +kernel⟩
  have bi_CodeX_lenX := F_CodeX_lenX.binds (ps := ["self"]) fun _ _ _ _ _ _ us hl => match us, hl with | [_], _ => rfl
  have h_CodeX_lenX := def_ok (g := g) (n := 1) F_CodeX_lenX S_CodeX_lenX rfl (by decide) fx (b_CodeX_lenX (g := g) )
  have r_CodeX_lenX : FnR g.prog g.w g.K g.mg g.base (L2N.CX g.prog g.w) 1 f_CodeX_lenX_ (spF g f_CodeX_lenX) := (h_CodeX_lenX.raw bi_CodeX_lenX .nil).imp fun vs H Q E z => by rw [List.append_nil]; exact z
  have d_CodeX_lenX : Dun g 1 0 "__len__" f_CodeX_lenX := ⟨f_CodeX_lenX_, r_CodeX_lenX, aCodeX_lenX, iCodeX_lenX, rfl⟩
  have S_Code_bits : FnScope n_Code_bits ["self"] (defScope t_Code_bits) := ⟨rfl, rfl, rfl, by decide +kernel, rfl, by decide +kernel, by decide +kernel⟩
  have bi_Code_bits := F_Code_bits.binds (ps := ["self"]) fun _ _ _ _ _ _ us hl => match us, hl with | [_], _ => rfl
  have h_Code_bits := def_ok (g := g) (n := 1) F_Code_bits S_Code_bits rfl (by decide) fx (b_Code_bits (g := g) )
  have d_Code_bits : Prp g 1 0 "bits" f_Code_bits := ⟨pCode_bits, _, _, _, h_Code_bits, ⟨aCode_bits, gCode_bits, tCode_bits, ⟨_, rCode_bits⟩⟩, bi_Code_bits, rfl⟩
  have S_Code_words : FnScope n_Code_words ["self"] (defScope t_Code_words) := ⟨rfl, rfl, rfl, by decide +kernel, rfl, by decide +kernel, by decide +kernel⟩
  have bi_Code_words := F_Code_words.binds (ps := ["self"]) fun _ _ _ _ _ _ us hl => match us, hl with | [_], _ => rfl
  have h_Code_words := def_ok (g := g) (n := 1) F_Code_words S_Code_words rfl (by decide) fx (b_Code_words (g := g) )
  have d_Code_words : Prp g 1 0 "words" f_Code_words := ⟨pCode_words, _, _, _, h_Code_words, ⟨aCode_words, gCode_words, tCode_words, ⟨_, rCode_words⟩⟩, bi_Code_words, rfl⟩
  have S_alike : FnScope n_alike ["one", "other"] (defScope t_alike) := ⟨rfl, rfl, rfl, by decide +kernel, rfl, by decide +kernel, by decide +kernel⟩
  have bi_alike := F_alike.binds (ps := ["one", "other"]) fun _ _ _ _ _ _ us hl => match us, hl with | [_, _], _ => rfl
  have h_alike := def_ok (g := g) (n := 2) F_alike S_alike rfl (by decide) fx (b_alike (g := g)  d_need_code d_CodeX_lenX d_Code_bits d_begun d_Code_words d_backwards d_orders_of d_exchanged)
  have d_alike : Def g 3 "alike" [] f_alike := ⟨_, _, _, [], [], h_alike, PySem.W.mg_of X G aalike, kalike, bi_alike, .nil, fun w => by simp only [Reps]⟩
  have S_law : FnScope n_law ["_law_script"] (defScope t_law) := ⟨rfl, rfl, rfl, by decide +kernel, rfl, by decide +kernel, by decide +kernel⟩
  have bi_law := F_law.binds (ps := ["_law_script"]) fun _ _ _ _ _ _ us hl => match us, hl with | [_], _ => rfl
  have h_law := def_okG (g := g) (n := 1) F_law S_law rfl (by decide) fx (b_law (g := g)  d__law_pen d__law_cell_at d__law_words d__law_near d__law_due d__law_made d__law_same d_alike)
  exact h_law
set_option maxHeartbeats 0 in
theorem facts_use {w : World} {K : PySem.W.Frag} {h : Heap} {mg : Str → Option Value} {fa : Addr} (KX : K.In h) (c : Hq.SaysE fnL tpL exL h K) (G : h.Ns mainGlobals mg) (hfa : mg "law" = some (.ref fa)) : ∃ fd : FuncData, (∀ (s : Shared) (v : Value), BindsTo s fd ⟨[v], []⟩ [("_law_script", v)]) ∧ ∀ base : Heap, K.In base → base.Ns mainGlobals mg → ∃ g : Gs, g.K = K ∧ g.tabs = [] ∧ FnG PySem.Challenge.rw_halfread_k05_alike_codes.prog w K mg base (L2N.CX PySem.Challenge.rw_halfread_k05_alike_codes.prog w) 8 fa fd ["_law_script"] (spF g f_law) := by
  have e := c.ex
  simp only [exL, Bool.and_eq_true, decide_eq_true_eq] at e
  obtain ⟨⟨⟨⟨⟨⟨⟨⟨e0, e1⟩, e2⟩, e3⟩, e4⟩, e5⟩, e6⟩, e7⟩, e8⟩ := e
  refine' all_mk (l := PySem.Challenge.rw_halfread_k05_alike_codes) KX G hfa ?aC0 ?pgC0 ?hdC0 ?poC0 ?saC0 ?mkC0 ?kcC0 ?n0C0 ?n1C0 ?dcC0 ?moC0 ?bintC0 ?bboolC0 ?btupleC0 ?bstrC0 ?blistC0 ?icC0 ?tyC0 ?hn ?htk ?zlen ?zrange ?zisinstance ?ztuple ?zlist ?zall ?zany ?zmax ?zmin ?zset ?zsorted ?zenumerate ?zzip ?zrepr ?zstr ?zint ?zsum ?zdict ?zbool ?v_SIGNS ?w_SIGNS ?vG_NO_WORD ?vG_FEWEST_VALUES ?vG_MOST_VALUES ?vG_MOST_BITS ?a_law_pen ?l_law_pen ?c_law_pen ?k_law_pen ?a_law_cell_at ?l_law_cell_at ?c_law_cell_at ?k_law_cell_at ?a_law_draw ?l_law_draw ?c_law_draw ?k_law_draw ?a_law_twisted ?l_law_twisted ?c_law_twisted ?k_law_twisted ?a_law_mixed ?l_law_mixed ?c_law_mixed ?k_law_mixed ?a_law_mirror ?l_law_mirror ?c_law_mirror ?k_law_mirror ?a_law_lone ?l_law_lone ?c_law_lone ?k_law_lone ?a_law_all ?l_law_all ?c_law_all ?k_law_all ?a_law_words ?l_law_words ?c_law_words ?k_law_words ?a_law_turned_words ?l_law_turned_words ?c_law_turned_words ?k_law_turned_words ?a_law_renamed_words ?l_law_renamed_words ?c_law_renamed_words ?k_law_renamed_words ?a_law_flipped_words ?l_law_flipped_words ?c_law_flipped_words ?k_law_flipped_words ?a_law_back_words ?l_law_back_words ?c_law_back_words ?k_law_back_words ?a_law_rest ?l_law_rest ?c_law_rest ?k_law_rest ?a_law_near ?l_law_near ?c_law_near ?k_law_near ?a_law_orders ?l_law_orders ?c_law_orders ?k_law_orders ?a_law_due ?l_law_due ?c_law_due ?k_law_due ?aword_in ?lword_in ?cword_in ?kword_in ?ais_between ?lis_between ?cis_between ?kis_between ?aare_bits ?lare_bits ?care_bits ?kare_bits ?aare_words ?lare_words ?care_words ?kare_words ?aCodeX_initX ?iCodeX_initX ?lCodeX_initX ?cCodeX_initX ?kCodeX_initX ?rdCode_read ?gaCode_read ?aCode_read ?rCode_read ?iCode_read ?lCode_read ?cCode_read ?kCode_read ?a_law_made ?l_law_made ?c_law_made ?k_law_made ?a_law_same ?l_law_same ?c_law_same ?k_law_same ?aneed_code ?lneed_code ?cneed_code ?kneed_code ?abegun ?lbegun ?cbegun ?kbegun ?aorders_of ?lorders_of ?corders_of ?korders_of ?abackwards ?lbackwards ?cbackwards ?kbackwards ?aplaced ?lplaced ?cplaced ?kplaced ?aexchanged ?lexchanged ?cexchanged ?kexchanged ?aCodeX_lenX ?iCodeX_lenX ?lCodeX_lenX ?cCodeX_lenX ?kCodeX_lenX ?aCode_bits ?gCode_bits ?tCode_bits ?rCode_bits ?lCode_bits ?cCode_bits ?kCode_bits ?aCode_words ?gCode_words ?tCode_words ?rCode_words ?lCode_words ?cCode_words ?kCode_words ?aalike ?lalike ?calike ?kalike ?alaw ?llaw ?claw ?klaw
  (case aC0 => exact e0.1)
  (case pgC0 => exact e0.2.1)
  (case hdC0 => exact e0.2.2.1)
  (case poC0 => exact e0.2.2.2.1)
  (case saC0 => exact e0.2.2.2.2.1)
  (case mkC0 => exact e0.2.2.2.2.2.1)
  (case kcC0 => exact e0.2.2.2.2.2.2.1)
  (case n0C0 => exact e0.2.2.2.2.2.2.2.1)
  (case n1C0 => exact e0.2.2.2.2.2.2.2.2.1)
  (case dcC0 => exact e0.2.2.2.2.2.2.2.2.2.1)
  (case moC0 => exact e0.2.2.2.2.2.2.2.2.2.2.1)
  (case bintC0 => exact e0.2.2.2.2.2.2.2.2.2.2.2.1)
  (case bboolC0 => exact e0.2.2.2.2.2.2.2.2.2.2.2.2.1)
  (case btupleC0 => exact e0.2.2.2.2.2.2.2.2.2.2.2.2.2.1)
  (case bstrC0 => exact e0.2.2.2.2.2.2.2.2.2.2.2.2.2.2.1)
  (case blistC0 => exact e0.2.2.2.2.2.2.2.2.2.2.2.2.2.2.2.1)
  (case icC0 => exact e0.2.2.2.2.2.2.2.2.2.2.2.2.2.2.2.2.1)
  (case tyC0 => exact e0.2.2.2.2.2.2.2.2.2.2.2.2.2.2.2.2.2.1)
  (case hn => exact e0.2.2.2.2.2.2.2.2.2.2.2.2.2.2.2.2.2.2.1)
  (case htk => exact e0.2.2.2.2.2.2.2.2.2.2.2.2.2.2.2.2.2.2.2.1)
  (case zlen => exact e0.2.2.2.2.2.2.2.2.2.2.2.2.2.2.2.2.2.2.2.2.1)
  (case zrange => exact e0.2.2.2.2.2.2.2.2.2.2.2.2.2.2.2.2.2.2.2.2.2.1)
  (case zisinstance => exact e0.2.2.2.2.2.2.2.2.2.2.2.2.2.2.2.2.2.2.2.2.2.2.1)
  (case ztuple => exact e0.2.2.2.2.2.2.2.2.2.2.2.2.2.2.2.2.2.2.2.2.2.2.2)
  (case zlist => exact e1.1)
  (case zall => exact e1.2.1)
  (case zany => exact e1.2.2.1)
  (case zmax => exact e1.2.2.2.1)
  (case zmin => exact e1.2.2.2.2.1)
  (case zset => exact e1.2.2.2.2.2.1)
  (case zsorted => exact e1.2.2.2.2.2.2.1)
  (case zenumerate => exact e1.2.2.2.2.2.2.2.1)
  (case zzip => exact e1.2.2.2.2.2.2.2.2.1)
  (case zrepr => exact e1.2.2.2.2.2.2.2.2.2.1)
  (case zstr => exact e1.2.2.2.2.2.2.2.2.2.2.1)
  (case zint => exact e1.2.2.2.2.2.2.2.2.2.2.2.1)
  (case zsum => exact e1.2.2.2.2.2.2.2.2.2.2.2.2.1)
  (case zdict => exact e1.2.2.2.2.2.2.2.2.2.2.2.2.2.1)
  (case zbool => exact e1.2.2.2.2.2.2.2.2.2.2.2.2.2.2.1)
  (case v_SIGNS => exact e1.2.2.2.2.2.2.2.2.2.2.2.2.2.2.2.1)
  (case w_SIGNS => exact Hq.sq_ok e8.2.2.2.2.2.2.2.1 e8.2.2.2.2.2.2.2.2.1)
  (case vG_NO_WORD => exact e1.2.2.2.2.2.2.2.2.2.2.2.2.2.2.2.2.1)
  (case vG_FEWEST_VALUES => exact e1.2.2.2.2.2.2.2.2.2.2.2.2.2.2.2.2.2.1)
  (case vG_MOST_VALUES => exact e1.2.2.2.2.2.2.2.2.2.2.2.2.2.2.2.2.2.2.1)
  (case vG_MOST_BITS => exact e1.2.2.2.2.2.2.2.2.2.2.2.2.2.2.2.2.2.2.2.1)
  (case a_law_pen => exact e1.2.2.2.2.2.2.2.2.2.2.2.2.2.2.2.2.2.2.2.2.1)
  (case l_law_pen => exact Hq.fn_l (d := D__law_pen) (c.def_ 0) rfl e6.2.2.2.2.2.2.2.2.2.2.2.2.2.2.2.2.2.2.2.1)
  (case c_law_pen => exact e1.2.2.2.2.2.2.2.2.2.2.2.2.2.2.2.2.2.2.2.2.2.1)
  (case k_law_pen => exact e1.2.2.2.2.2.2.2.2.2.2.2.2.2.2.2.2.2.2.2.2.2.2.1)
  (case a_law_cell_at => exact e1.2.2.2.2.2.2.2.2.2.2.2.2.2.2.2.2.2.2.2.2.2.2.2)
  (case l_law_cell_at => exact Hq.fn_l (d := D__law_cell_at) (c.def_ 1) rfl e6.2.2.2.2.2.2.2.2.2.2.2.2.2.2.2.2.2.2.2.2.1)
  (case c_law_cell_at => exact e2.1)
  (case k_law_cell_at => exact e2.2.1)
  (case a_law_draw => exact e2.2.2.1)
  (case l_law_draw => exact Hq.fn_l (d := D__law_draw) (c.def_ 2) rfl e6.2.2.2.2.2.2.2.2.2.2.2.2.2.2.2.2.2.2.2.2.2.1)
  (case c_law_draw => exact e2.2.2.2.1)
  (case k_law_draw => exact e2.2.2.2.2.1)
  (case a_law_twisted => exact e2.2.2.2.2.2.1)
  (case l_law_twisted => exact Hq.fn_l (d := D__law_twisted) (c.def_ 3) rfl e6.2.2.2.2.2.2.2.2.2.2.2.2.2.2.2.2.2.2.2.2.2.2.1)
  (case c_law_twisted => exact e2.2.2.2.2.2.2.1)
  (case k_law_twisted => exact e2.2.2.2.2.2.2.2.1)
  (case a_law_mixed => exact e2.2.2.2.2.2.2.2.2.1)
  (case l_law_mixed => exact Hq.fn_l (d := D__law_mixed) (c.def_ 4) rfl e6.2.2.2.2.2.2.2.2.2.2.2.2.2.2.2.2.2.2.2.2.2.2.2)
  (case c_law_mixed => exact e2.2.2.2.2.2.2.2.2.2.1)
  (case k_law_mixed => exact e2.2.2.2.2.2.2.2.2.2.2.1)
  (case a_law_mirror => exact e2.2.2.2.2.2.2.2.2.2.2.2.1)
  (case l_law_mirror => exact Hq.fn_l (d := D__law_mirror) (c.def_ 5) rfl e7.1)
  (case c_law_mirror => exact e2.2.2.2.2.2.2.2.2.2.2.2.2.1)
  (case k_law_mirror => exact e2.2.2.2.2.2.2.2.2.2.2.2.2.2.1)
  (case a_law_lone => exact e2.2.2.2.2.2.2.2.2.2.2.2.2.2.2.1)
  (case l_law_lone => exact Hq.fn_l (d := D__law_lone) (c.def_ 6) rfl e7.2.1)
  (case c_law_lone => exact e2.2.2.2.2.2.2.2.2.2.2.2.2.2.2.2.1)
  (case k_law_lone => exact e2.2.2.2.2.2.2.2.2.2.2.2.2.2.2.2.2.1)
  (case a_law_all => exact e2.2.2.2.2.2.2.2.2.2.2.2.2.2.2.2.2.2.1)
  (case l_law_all => exact Hq.fn_l (d := D__law_all) (c.def_ 7) rfl e7.2.2.1)
  (case c_law_all => exact e2.2.2.2.2.2.2.2.2.2.2.2.2.2.2.2.2.2.2.1)
  (case k_law_all => exact e2.2.2.2.2.2.2.2.2.2.2.2.2.2.2.2.2.2.2.2.1)
  (case a_law_words => exact e2.2.2.2.2.2.2.2.2.2.2.2.2.2.2.2.2.2.2.2.2.1)
  (case l_law_words => exact Hq.fn_l (d := D__law_words) (c.def_ 8) rfl e7.2.2.2.1)
  (case c_law_words => exact e2.2.2.2.2.2.2.2.2.2.2.2.2.2.2.2.2.2.2.2.2.2.1)
  (case k_law_words => exact e2.2.2.2.2.2.2.2.2.2.2.2.2.2.2.2.2.2.2.2.2.2.2.1)
  (case a_law_turned_words => exact e2.2.2.2.2.2.2.2.2.2.2.2.2.2.2.2.2.2.2.2.2.2.2.2)
  (case l_law_turned_words => exact Hq.fn_l (d := D__law_turned_words) (c.def_ 9) rfl e7.2.2.2.2.1)
  (case c_law_turned_words => exact e3.1)
  (case k_law_turned_words => exact e3.2.1)
  (case a_law_renamed_words => exact e3.2.2.1)
  (case l_law_renamed_words => exact Hq.fn_l (d := D__law_renamed_words) (c.def_ 10) rfl e7.2.2.2.2.2.1)
  (case c_law_renamed_words => exact e3.2.2.2.1)
  (case k_law_renamed_words => exact e3.2.2.2.2.1)
  (case a_law_flipped_words => exact e3.2.2.2.2.2.1)
  (case l_law_flipped_words => exact Hq.fn_l (d := D__law_flipped_words) (c.def_ 11) rfl e7.2.2.2.2.2.2.1)
  (case c_law_flipped_words => exact e3.2.2.2.2.2.2.1)
  (case k_law_flipped_words => exact e3.2.2.2.2.2.2.2.1)
  (case a_law_back_words => exact e3.2.2.2.2.2.2.2.2.1)
  (case l_law_back_words => exact Hq.fn_l (d := D__law_back_words) (c.def_ 12) rfl e7.2.2.2.2.2.2.2.1)
  (case c_law_back_words => exact e3.2.2.2.2.2.2.2.2.2.1)
  (case k_law_back_words => exact e3.2.2.2.2.2.2.2.2.2.2.1)
  (case a_law_rest => exact e3.2.2.2.2.2.2.2.2.2.2.2.1)
  (case l_law_rest => exact Hq.fn_l (d := D__law_rest) (c.def_ 13) rfl e7.2.2.2.2.2.2.2.2.1)
  (case c_law_rest => exact e3.2.2.2.2.2.2.2.2.2.2.2.2.1)
  (case k_law_rest => exact e3.2.2.2.2.2.2.2.2.2.2.2.2.2.1)
  (case a_law_near => exact e3.2.2.2.2.2.2.2.2.2.2.2.2.2.2.1)
  (case l_law_near => exact Hq.fn_l (d := D__law_near) (c.def_ 14) rfl e7.2.2.2.2.2.2.2.2.2.1)
  (case c_law_near => exact e3.2.2.2.2.2.2.2.2.2.2.2.2.2.2.2.1)
  (case k_law_near => exact e3.2.2.2.2.2.2.2.2.2.2.2.2.2.2.2.2.1)
  (case a_law_orders => exact e3.2.2.2.2.2.2.2.2.2.2.2.2.2.2.2.2.2.1)
  (case l_law_orders => exact Hq.fn_l (d := D__law_orders) (c.def_ 15) rfl e7.2.2.2.2.2.2.2.2.2.2.1)
  (case c_law_orders => exact e3.2.2.2.2.2.2.2.2.2.2.2.2.2.2.2.2.2.2.1)
  (case k_law_orders => exact e3.2.2.2.2.2.2.2.2.2.2.2.2.2.2.2.2.2.2.2.1)
  (case a_law_due => exact e3.2.2.2.2.2.2.2.2.2.2.2.2.2.2.2.2.2.2.2.2.1)
  (case l_law_due => exact Hq.fn_l (d := D__law_due) (c.def_ 16) rfl e7.2.2.2.2.2.2.2.2.2.2.2.1)
  (case c_law_due => exact e3.2.2.2.2.2.2.2.2.2.2.2.2.2.2.2.2.2.2.2.2.2.1)
  (case k_law_due => exact e3.2.2.2.2.2.2.2.2.2.2.2.2.2.2.2.2.2.2.2.2.2.2.1)
  (case aword_in => exact e3.2.2.2.2.2.2.2.2.2.2.2.2.2.2.2.2.2.2.2.2.2.2.2)
  (case lword_in => exact Hq.fn_l (d := D_word_in) (c.def_ 17) rfl e7.2.2.2.2.2.2.2.2.2.2.2.2.1)
  (case cword_in => exact e4.1)
  (case kword_in => exact e4.2.1)
  (case ais_between => exact e4.2.2.1)
  (case lis_between => exact Hq.fn_l (d := D_is_between) (c.def_ 18) rfl e7.2.2.2.2.2.2.2.2.2.2.2.2.2.1)
  (case cis_between => exact e4.2.2.2.1)
  (case kis_between => exact e4.2.2.2.2.1)
  (case aare_bits => exact e4.2.2.2.2.2.1)
  (case lare_bits => exact Hq.fn_l (d := D_are_bits) (c.def_ 19) rfl e7.2.2.2.2.2.2.2.2.2.2.2.2.2.2.1)
  (case care_bits => exact e4.2.2.2.2.2.2.1)
  (case kare_bits => exact e4.2.2.2.2.2.2.2.1)
  (case aare_words => exact e4.2.2.2.2.2.2.2.2.1)
  (case lare_words => exact Hq.fn_l (d := D_are_words) (c.def_ 20) rfl e7.2.2.2.2.2.2.2.2.2.2.2.2.2.2.2.1)
  (case care_words => exact e4.2.2.2.2.2.2.2.2.2.1)
  (case kare_words => exact e4.2.2.2.2.2.2.2.2.2.2.1)
  (case aCodeX_initX => exact e4.2.2.2.2.2.2.2.2.2.2.2.1)
  (case iCodeX_initX => exact e4.2.2.2.2.2.2.2.2.2.2.2.2.1)
  (case lCodeX_initX => exact Hq.fn_l (d := D_CodeX_initX) (c.def_ 21) rfl e7.2.2.2.2.2.2.2.2.2.2.2.2.2.2.2.2.1)
  (case cCodeX_initX => exact e4.2.2.2.2.2.2.2.2.2.2.2.2.2.1)
  (case kCodeX_initX => exact e4.2.2.2.2.2.2.2.2.2.2.2.2.2.2.1)
  (case rdCode_read => exact e4.2.2.2.2.2.2.2.2.2.2.2.2.2.2.2.1)
  (case gaCode_read => exact e4.2.2.2.2.2.2.2.2.2.2.2.2.2.2.2.2.1)
  (case aCode_read => exact Hq.clsMB_ok e8.2.2.2.2.2.2.2.2.2)
  (case rCode_read => exact e4.2.2.2.2.2.2.2.2.2.2.2.2.2.2.2.2.2.1)
  (case iCode_read => exact e4.2.2.2.2.2.2.2.2.2.2.2.2.2.2.2.2.2.2.1)
  (case lCode_read => exact Hq.fn_l (d := D_Code_read) (c.def_ 22) rfl e7.2.2.2.2.2.2.2.2.2.2.2.2.2.2.2.2.2.1)
  (case cCode_read => exact e4.2.2.2.2.2.2.2.2.2.2.2.2.2.2.2.2.2.2.2.1)
  (case kCode_read => exact e4.2.2.2.2.2.2.2.2.2.2.2.2.2.2.2.2.2.2.2.2.1)
  (case a_law_made => exact e4.2.2.2.2.2.2.2.2.2.2.2.2.2.2.2.2.2.2.2.2.2.1)
  (case l_law_made => exact Hq.fn_l (d := D__law_made) (c.def_ 23) rfl e7.2.2.2.2.2.2.2.2.2.2.2.2.2.2.2.2.2.2.1)
  (case c_law_made => exact e4.2.2.2.2.2.2.2.2.2.2.2.2.2.2.2.2.2.2.2.2.2.2.1)
  (case k_law_made => exact e4.2.2.2.2.2.2.2.2.2.2.2.2.2.2.2.2.2.2.2.2.2.2.2)
  (case a_law_same => exact e5.1)
  (case l_law_same => exact Hq.fn_l (d := D__law_same) (c.def_ 24) rfl e7.2.2.2.2.2.2.2.2.2.2.2.2.2.2.2.2.2.2.2.1)
  (case c_law_same => exact e5.2.1)
  (case k_law_same => exact e5.2.2.1)
  (case aneed_code => exact e5.2.2.2.1)
  (case lneed_code => exact Hq.fn_l (d := D_need_code) (c.def_ 25) rfl e7.2.2.2.2.2.2.2.2.2.2.2.2.2.2.2.2.2.2.2.2.1)
  (case cneed_code => exact e5.2.2.2.2.1)
  (case kneed_code => exact e5.2.2.2.2.2.1)
  (case abegun => exact e5.2.2.2.2.2.2.1)
  (case lbegun => exact Hq.fn_l (d := D_begun) (c.def_ 26) rfl e7.2.2.2.2.2.2.2.2.2.2.2.2.2.2.2.2.2.2.2.2.2.1)
  (case cbegun => exact e5.2.2.2.2.2.2.2.1)
  (case kbegun => exact e5.2.2.2.2.2.2.2.2.1)
  (case aorders_of => exact e5.2.2.2.2.2.2.2.2.2.1)
  (case lorders_of => exact Hq.fn_l (d := D_orders_of) (c.def_ 27) rfl e7.2.2.2.2.2.2.2.2.2.2.2.2.2.2.2.2.2.2.2.2.2.2.1)
  (case corders_of => exact e5.2.2.2.2.2.2.2.2.2.2.1)
  (case korders_of => exact e5.2.2.2.2.2.2.2.2.2.2.2.1)
  (case abackwards => exact e5.2.2.2.2.2.2.2.2.2.2.2.2.1)
  (case lbackwards => exact Hq.fn_l (d := D_backwards) (c.def_ 28) rfl e7.2.2.2.2.2.2.2.2.2.2.2.2.2.2.2.2.2.2.2.2.2.2.2)
  (case cbackwards => exact e5.2.2.2.2.2.2.2.2.2.2.2.2.2.1)
  (case kbackwards => exact e5.2.2.2.2.2.2.2.2.2.2.2.2.2.2.1)
  (case aplaced => exact e5.2.2.2.2.2.2.2.2.2.2.2.2.2.2.2.1)
  (case lplaced => exact Hq.fn_l (d := D_placed) (c.def_ 29) rfl e8.1)
  (case cplaced => exact e5.2.2.2.2.2.2.2.2.2.2.2.2.2.2.2.2.1)
  (case kplaced => exact e5.2.2.2.2.2.2.2.2.2.2.2.2.2.2.2.2.2.1)
  (case aexchanged => exact e5.2.2.2.2.2.2.2.2.2.2.2.2.2.2.2.2.2.2.1)
  (case lexchanged => exact Hq.fn_l (d := D_exchanged) (c.def_ 30) rfl e8.2.1)
  (case cexchanged => exact e5.2.2.2.2.2.2.2.2.2.2.2.2.2.2.2.2.2.2.2.1)
  (case kexchanged => exact e5.2.2.2.2.2.2.2.2.2.2.2.2.2.2.2.2.2.2.2.2.1)
  (case aCodeX_lenX => exact e5.2.2.2.2.2.2.2.2.2.2.2.2.2.2.2.2.2.2.2.2.2.1)
  (case iCodeX_lenX => exact e5.2.2.2.2.2.2.2.2.2.2.2.2.2.2.2.2.2.2.2.2.2.2.1)
  (case lCodeX_lenX => exact Hq.fn_l (d := D_CodeX_lenX) (c.def_ 31) rfl e8.2.2.1)
  (case cCodeX_lenX => exact e5.2.2.2.2.2.2.2.2.2.2.2.2.2.2.2.2.2.2.2.2.2.2.2)
  (case kCodeX_lenX => exact e6.1)
  (case aCode_bits => exact e6.2.1)
  (case gCode_bits => exact e6.2.2.1)
  (case tCode_bits => exact e6.2.2.2.1)
  (case rCode_bits => exact e6.2.2.2.2.1)
  (case lCode_bits => exact Hq.fn_l (d := D_Code_bits) (c.def_ 32) rfl e8.2.2.2.1)
  (case cCode_bits => exact e6.2.2.2.2.2.1)
  (case kCode_bits => exact e6.2.2.2.2.2.2.1)
  (case aCode_words => exact e6.2.2.2.2.2.2.2.1)
  (case gCode_words => exact e6.2.2.2.2.2.2.2.2.1)
  (case tCode_words => exact e6.2.2.2.2.2.2.2.2.2.1)
  (case rCode_words => exact e6.2.2.2.2.2.2.2.2.2.2.1)
  (case lCode_words => exact Hq.fn_l (d := D_Code_words) (c.def_ 33) rfl e8.2.2.2.2.1)
  (case cCode_words => exact e6.2.2.2.2.2.2.2.2.2.2.2.1)
  (case kCode_words => exact e6.2.2.2.2.2.2.2.2.2.2.2.2.1)
  (case aalike => exact e6.2.2.2.2.2.2.2.2.2.2.2.2.2.1)
  (case lalike => exact Hq.fn_l (d := D_alike) (c.def_ 34) rfl e8.2.2.2.2.2.1)
  (case calike => exact e6.2.2.2.2.2.2.2.2.2.2.2.2.2.2.1)
  (case kalike => exact e6.2.2.2.2.2.2.2.2.2.2.2.2.2.2.2.1)
  (case alaw => exact e6.2.2.2.2.2.2.2.2.2.2.2.2.2.2.2.2.1)
  (case llaw => exact Hq.fn_l (d := D_law) (c.def_ 35) rfl e8.2.2.2.2.2.2.1)
  (case claw => exact e6.2.2.2.2.2.2.2.2.2.2.2.2.2.2.2.2.2.1)
  (case klaw => exact e6.2.2.2.2.2.2.2.2.2.2.2.2.2.2.2.2.2.2.1)
theorem walk {q : Program} {loose : List Str} {XP : (Str → Option Value) → Heap → Prop} {d : DefRec} (hdf : d.params.defaults = []) (hname : d.name = ("law" : Str))
    (law_true : ∀ ns : List Int, ns.length ≤ 63 → ∃ B, f_law [.scr (ns.map D.int)] [] = .ok (.bool true) B) : PySem.W.WalkO q loose XP (Hq.hookF stg fnL tpL exL).says PySem.Challenge.rw_halfread_k05_alike_codes.row.toRowW d [] (fun f vs => PySem.call f vs) := by
  refine Hf.walkQ0 (l := PySem.Challenge.rw_halfread_k05_alike_codes) (k := 8) (x := "_law_script") (CX := fun w => L2N.CX PySem.Challenge.rw_halfread_k05_alike_codes.prog w) rfl hdf ⟨rfl, by decide, by decide⟩ hname (fun w mg fa h K KX c G hfa => ?_) ?_
  · obtain ⟨fd, b1, b2⟩ := facts_use (w := w) KX c G hfa
    refine ⟨fd, b1, fun base c1 c2 => ?_⟩
    obtain ⟨g, hg, ht, hF⟩ := b2 base c1 c2
    exact top_promise hg ht hF law_true
  · rintro w H s e s' ⟨_, _, _, _, _, _, _, _, _, _, _, _, z⟩
    exact z.elim
end Hk

set_option Elab.async false
set_option linter.all false
set_option maxRecDepth 100000
namespace Hk
open PySem PySem.Spec PyProof.Rows L2 Hf

/-! ### the pen -/
structure PenOk (B : Bs) (n : Nat) : Prop where
  at_ : ∃ a b c : Int, B[n]? = some (.lst [.int a, .int b, .int c]) ∧ 0 ≤ b ∧ b < 2 ^ 31
structure PenStep (n : Nat) (B B' : Bs) : Prop where
  ok : PenOk B' n
  len : B'.length = B.length
  oth : ∀ m, m ≠ n → B'[m]? = B[m]?
theorem pen_set {B : Bs} {n : Nat} {a b c : Int} {d : D} (h : B[n]? = some d) (h0 : 0 ≤ b) (h1 : b < 2 ^ 31) : PenStep n B (B.set n (.lst [.int a, .int b, .int c])) := by
  have hn : n < B.length := (List.getElem?_eq_some_iff.mp h).1
  refine ⟨⟨a, b, c, by simp [hn], h0, h1⟩, by simp, fun m hm => ?_⟩
  rw [List.getElem?_set_ne (by omega)]
theorem law_draw_ok {B : Bs} {n : Nat} {k : Int} (P : PenOk B n) (h0 : 0 < k) (h1 : k < 1073741824) :
    ∃ (v : Int) (B' : Bs), f__law_draw [.box n, .int k] B = .ok (.int v) B' ∧ 0 ≤ v ∧ v < k ∧ PenStep n B B' := by
  obtain ⟨⟨a, b, c, hB, hb0, hb1⟩⟩ := P
  have hn : n < B.length := (List.getElem?_eq_some_iff.mp hB).1
  by_cases ha : 0 < a
  · refine ⟨a % k, _, ?_, Int.emod_nonneg _ (by omega), Int.emod_lt_of_pos _ h0, pen_set (a := a / k) (b := b) (c := c) hB hb0 hb1⟩
    simp [f__law_draw, m__law_draw, fIx, hB, atI, ha, z_fMod _ _ _ h0, z_fDiv _ _ _ h0 h1, mSetIx, ixN]
  · have e1 : ∀ x : Int, 0 ≤ x % 2147483647 ∧ x % 2147483647 < 2147483647 := fun x => ⟨Int.emod_nonneg _ (by decide), Int.emod_lt_of_pos _ (by decide)⟩
    have e2 : ∀ x : Int, 0 ≤ x % 2147483629 ∧ x % 2147483629 < 2147483629 := fun x => ⟨Int.emod_nonneg _ (by decide), Int.emod_lt_of_pos _ (by decide)⟩
    have w1 : wideB b = true := wide_of (by omega) (by omega)
    have w2 : ∀ x : Int, wideB (x % 2147483647) = true := fun x => wide_of (by have := e1 x; omega) (by have := e1 x; omega)
    have w3 : ∀ x : Int, wideB (x % 2147483629) = true := fun x => wide_of (by have := e2 x; omega) (by have := e2 x; omega)
    have w4 : wideB 1009 = true := by decide
    have w5 : wideB 69621 = true := by decide
    have w6 : wideB 40014 = true := by decide
    obtain ⟨r, hr⟩ : ∃ r, r = (b * 48271 + 1009 * (c + 1) + 7) % 2147483647 := ⟨_, rfl⟩
    obtain ⟨p, hp⟩ : ∃ p, p = (r * r + 69621 * r + 11) % 2147483629 := ⟨_, rfl⟩
    have wr : wideB r = true := hr ▸ w2 _
    have wp : wideB p = true := hp ▸ w3 _
    refine ⟨(p * p + 40014 * p) % 2147483587 / 16 % k, B.set n (.lst [.int a, .int r, .int (c + 1)]), ?_, Int.emod_nonneg _ (by omega), Int.emod_lt_of_pos _ h0, pen_set hB (hr ▸ (e1 _).1) (by have := e1 (b * 48271 + 1009 * (c + 1) + 7); omega)⟩
    have hs : ∀ x, (B.set n x)[n]? = some x := fun x => by simp [hn]
    clear hn
    simp [f__law_draw, m__law_draw, fIx, hB, atI, ha, mSetIx, ixN, hs, z_fMulI, w1, w4, w5, w6, ← hr, wr, ← hp, wp, z_fMod, z_fDiv, h0]
theorem pick_perm {α : Type} : (l : List α) → (i : Nat) → (h : i < l.length) → (l[i] :: l.eraseIdx i).Perm l
  | x :: l, 0, _ => by simp
  | x :: l, i + 1, h => by
    simp only [List.getElem_cons_succ, List.eraseIdx_cons_succ]
    exact (List.Perm.swap _ _ _).trans ((pick_perm l i (by simpa using h)).cons x)
theorem pen_lt {B : Bs} {n : Nat} (P : PenOk B n) : n < B.length := by
  obtain ⟨⟨a, b, c, h, _⟩⟩ := P
  exact (List.getElem?_eq_some_iff.mp h).1
theorem law_mixed_ok {B : Bs} {n : Nat} {ds : List D} (P : PenOk B n) (hl : ds.length ≤ 1000000) :
    ∃ es B', f__law_mixed [.box n, .lst ds] B = .ok (.lst es) B' ∧ es.Perm ds ∧ PenOk B' n := by
  have hn := pen_lt P
  obtain ⟨m, hm⟩ : ∃ m, m = B.length := ⟨_, rfl⟩
  have hP : PenOk (B ++ [.lst ds]) n := by
    obtain ⟨⟨a, b, c, h, h1⟩⟩ := P
    exact ⟨⟨a, b, c, by rw [List.getElem?_append_left hn]; exact h, h1⟩⟩
  obtain ⟨es, B', h1, ⟨h2, rest, h3, h4⟩, h5⟩ := mLc_inv (vs := [3]) (i := 3) (mi := mItems (mVar 1)) (me := mPopB 2 (mCall f__law_draw [] (mCons (mVar 0) (mCons (m1 fLen (mVar 2)) mNil))))
    (σ := [some (false, .box n), some (false, .lst ds), some (false, .box m), none]) (B := B ++ [.lst ds]) (ds := ds) (fun B acc => PenOk B n ∧ ∃ rest, B[m]? = some (.lst rest) ∧ (acc ++ rest).Perm ds)
    (by simp) (Nat.le_trans hl size_big) ⟨hP, ds, by simp [hm], by simp⟩ (by
      rintro d hd B acc hlt ⟨P, rest, hr, hp⟩
      have hle := hp.length_eq
      simp at hle
      obtain ⟨v, B1, e1, h0, h1, S⟩ := law_draw_ok (k := (rest.length : Int)) P (by omega) (by omega)
      have hr1 : B1[m]? = some (.lst rest) := by rw [S.oth m (by omega)]; exact hr
      have hv : v.toNat < rest.length := by omega
      refine ⟨rest[v.toNat], B1.set m (.lst (rest.eraseIdx v.toNat)), ?_, ?_, rest.eraseIdx v.toNat, ?_, ?_⟩
      · simp [mPopB, wipeI, hr, fLen, e1, hr1, h0, hv]
        omega
      · obtain ⟨⟨a, b, c, h, h1⟩⟩ := S.ok
        exact ⟨⟨a, b, c, by rw [List.getElem?_set_ne (by omega)]; exact h, h1⟩⟩
      · simp [(List.getElem?_eq_some_iff.mp hr1).1]
      · refine List.Perm.trans ?_ hp
        simp only [List.append_assoc]
        exact List.Perm.append_left _ (pick_perm rest _ hv))
  have h6 : rest = [] := by
    have := h4.length_eq
    simp [h5] at this
    exact this
  subst h6
  refine ⟨es, B', ?_, by simpa using h4, h2⟩
  simp [f__law_mixed, m__law_mixed, mBox, fLstO, ← hm, h1]

/-! ### words -/
abbrev wD (w : List Int) : D := .tup (w.map D.int)
abbrev wsD (ws : List (List Int)) : D := .tup (ws.map wD)
structure OkW (m : Nat) (ws : List (List Int)) : Prop where
  n2 : 2 ≤ ws.length
  n16 : ws.length ≤ 16
  m1 : 1 ≤ m
  m5 : m ≤ 5
  wid : ∀ w ∈ ws, w.length = m
  bits : ∀ w ∈ ws, ∀ b ∈ w, b = 0 ∨ b = 1
  nd : ws.Nodup
theorem shp_int (i : Int) : shp (.int i) = true := by simp [shp, SeqAt.shaped, toPy, PyData.canLay0, PyData.depth]
@[simp] theorem fEq_int (i j : Int) (B : Bs) : fEq (.int i) (.int j) B = .ok (.bool (i == j)) B := by simp [fEq, shp_int, eqD, toPy, PyData.eqv]
theorem shp_str {x : Str} (h : PyData.strOk x = true) : shp (.str x) = true := by simp [shp, SeqAt.shaped, toPy, PyData.canLay0, PyData.depth, h]
theorem fNe_str {x y : Str} (hx : PyData.strOk x = true) (hy : PyData.strOk y = true) (B : Bs) : fNe (.str x) (.str y) B = .ok (.bool (!(x == y))) B := by simp [fNe, shp_str hx, shp_str hy, eqD, toPy, PyData.eqv]
theorem fEq_str {x y : Str} (hx : PyData.strOk x = true) (hy : PyData.strOk y = true) (B : Bs) : fEq (.str x) (.str y) B = .ok (.bool (x == y)) B := by simp [fEq, shp_str hx, shp_str hy, eqD, toPy, PyData.eqv]
theorem is_between_ok (v lo hi : Int) (B : Bs) : f_is_between [.int v, .int lo, .int hi] B = .ok (.bool (decide (lo ≤ v) && decide (v ≤ hi))) B := by
  by_cases h : lo ≤ v <;> simp [f_is_between, m_is_between, h]
theorem boolsA_map (bs : List Bool) : boolsA (bs.map D.bool) = some bs := by
  induction bs with
  | nil => rfl
  | cons b bs ih => simp [boolsA, boolA, ih]
theorem intsA_map (bs : List Int) : intsA (bs.map D.int) = some bs := by
  induction bs with
  | nil => rfl
  | cons b bs ih => simp [intsA, intA, ih]
theorem tupsA_map (bs : List (List Int)) : tupsA (bs.map wD) = some bs := by
  induction bs with
  | nil => rfl
  | cons b bs ih => simp [tupsA, tupA, ih, intsA_map]
theorem fAll_true {α : Type} (xs : List α) (B : Bs) : fAll (.lst (xs.map fun _ => D.bool true)) B = .ok (.bool true) B := by
  have e : (xs.map fun _ => D.bool true) = (xs.map fun _ => true).map D.bool := by simp
  rw [fAll, e, boolsA_map]; simp
theorem are_bits_ok {w : List Int} (h : ∀ b ∈ w, b = 0 ∨ b = 1) (hl : w.length ≤ 1000000) (B : Bs) : f_are_bits [wD w] B = .ok (.bool true) B := by
  have := mLc_map (vs := [1]) (i := 1) (mi := mItems (mVar 0)) (me := mCall f_is_between [] (mCons (mVar 1) (mCons (mC (.int 0)) (mCons (mC (.int 1)) mNil)))) (σ := [some (false, wD w), none]) (B := B) (ds := w.map D.int) D.int (fun _ => D.bool true) w
    (by simp) rfl (Nat.le_trans hl size_big) (fun b hb => by
      have : (decide (0 ≤ b) && decide (b ≤ 1)) = true := by rcases h b hb with rfl | rfl <;> decide
      simp [wipeI, is_between_ok, this])
  simp [f_are_bits, m_are_bits, this, fAll_true]
theorem dd_nodup {α : Type} [DecidableEq α] : {l : List α} → l.Nodup → dd l = l
  | [], _ => rfl
  | x :: l, h => by
    have h' := List.nodup_cons.mp h
    simp [dd, h'.1, dd_nodup h'.2]
theorem are_words_ok {m : Nat} {ws : List (List Int)} (W : OkW m ws) (B : Bs) : f_are_words [wsD ws] B = .ok (.bool true) B := by
  have hne : ∃ w r, ws = w :: r := by cases ws with
    | nil => have := W.n2; simp at this
    | cons w r => exact ⟨w, r, rfl⟩
  obtain ⟨w0, r, hw⟩ := hne
  have e0 : w0.length = m := W.wid w0 (by simp [hw])
  have hsz : ws.length ≤ sizeLine := Nat.le_trans (Nat.le_trans W.n16 (by decide)) size_big
  have a1 := mLc_map (vs := [1]) (i := 1) (mi := mItems (mVar 0)) (me := mCall f_are_bits [] (mCons (mVar 1) mNil)) (σ := [some (false, wsD ws), none]) (B := B) (ds := ws.map wD) wD (fun _ => D.bool true) ws
    (by simp) rfl hsz (fun w h => by
      simp [wipeI, are_bits_ok (W.bits w h) (by have := W.wid w h; have := W.m5; omega)])
  have hix : ∀ B, fIx (wsD ws) (.int 0) B = .ok (wD w0) B := fun B => by simp [fIx, atI, ixN, hw]
  have a2 := mLc_map (vs := [1]) (i := 1) (mi := mItems (mVar 0)) (me := mBin fEq (m1 fLen (mVar 1)) (m1 fLen (mBin fIx (mVar 0) (mC (.int 0))))) (σ := [some (false, wsD ws), none]) (B := B) (ds := ws.map wD) wD (fun _ => D.bool true) ws
    (by simp) rfl hsz (fun w h => by
      simp [wipeI, hix, W.wid w h, e0])
  have h2 := W.n2; have h16 := W.n16; have h1 := W.m1; have h5 := W.m5
  have g1 : (2 : Int) ≤ (ws.length : Int) := by omega
  have g2 : (ws.length : Int) ≤ 16 := by omega
  have g3 : (1 : Int) ≤ (m : Int) := by omega
  have g4 : (m : Int) ≤ 5 := by omega
  have g5 : ws.length < 64 := by omega
  simp [f_are_words, m_are_words, a1, a2, fAll_true, hix, e0, g1, g2, g3, g4, fLenSet, tupsA_map, dd_nodup W.nd, g5]
end Hk

set_option Elab.async false
set_option linter.all false
set_option maxRecDepth 100000
namespace Hk
open PySem PySem.Spec PyProof.Rows L2 Hf

/-! ### texts as lists of signs -/
abbrev mkS (l : List Nat) : Str := ⟨l.toArray⟩
theorem mkS_app (a b : List Nat) : mkS a ++ mkS b = mkS (a ++ b) := TL.ext_tl (by rw [TL.tl_append])
theorem joinL_nil : (ps : List (List Nat)) → TL.joinL [] ps = ps.flatten
  | [] => rfl
  | [p] => by simp [TL.joinL]
  | p :: q :: r => by
    have := joinL_nil (q :: r)
    simp only [TL.joinL, this]; simp
theorem joinL_lines : (ps : List (List Nat)) → TL.joinL [10] (ps ++ [[]]) = (ps.map (· ++ [10])).flatten
  | [] => rfl
  | [p] => by simp [TL.joinL]
  | p :: q :: r => by
    have := joinL_lines (q :: r)
    simp only [List.cons_append] at this
    simp only [List.cons_append, TL.joinL, this]; simp
theorem strsA_map {α : Type} (g : α → List Nat) (xs : List α) : strsA (xs.map fun x => D.str (mkS (g x))) = some (xs.map fun x => mkS (g x)) := by
  induction xs with
  | nil => rfl
  | cons b bs ih => simp [strsA, strA, ih]
theorem ofS_nil : Str.ofString "" = mkS [] := TL.ext_tl (by rw [TL.tl_ofString]; rfl)
theorem ofS_nl : Str.ofString "\n" = mkS [10] := TL.ext_tl (by rw [TL.tl_ofString]; rfl)
theorem ofS_0 : Str.ofString "0" = mkS [48] := TL.ext_tl (by rw [TL.tl_ofString]; rfl)
theorem ofS_1 : Str.ofString "1" = mkS [49] := TL.ext_tl (by rw [TL.tl_ofString]; rfl)
theorem len_sum {α : Type} (g : α → List Nat) (xs : List α) : ((xs.map fun x => mkS (g x)).map (·.length)).sum = (xs.map g).flatten.length := by
  induction xs with
  | nil => rfl
  | cons b bs ih => simp at ih ⊢; rw [ih]; rfl
theorem join_nil_ok {α : Type} (g : α → List Nat) (xs : List α) (h : (xs.map g).flatten.length ≤ 1000000) (B : Bs) :
    fJoin (.str (Str.ofString "")) (.lst (xs.map fun x => D.str (mkS (g x)))) B = .ok (.str (mkS (xs.map g).flatten)) B := by
  have e : Txt.join (mkS []) (xs.map fun x => mkS (g x)) = mkS (xs.map g).flatten := by
    refine TL.ext_tl ?_
    rw [TL.join_eq, TL.tl_join]
    simp only [List.map_map]
    exact (joinL_nil _).trans (by congr 1)
  have l : (mkS []).length = 0 := rfl
  simp only [fJoin, strsOf, ofS_nil, strsA_map, len_sum, l, e]
  rw [if_pos (by omega)]
abbrev cW (w : List Int) : List Nat := w.map fun b => (48 + b).toNat
abbrev txN (ws : List (List Int)) : List Nat := (ws.map fun w => cW w ++ [10]).flatten
theorem strI_bit {b : Int} (h : b = 0 ∨ b = 1) (B : Bs) : fStrI (.int b) B = .ok (.str (mkS [(48 + b).toNat])) B := by
  have e0 : Str.ofString (toString (0 : Int)) = mkS [48] := ofS_0
  have e1 : Str.ofString (toString (1 : Int)) = mkS [49] := ofS_1
  rcases h with rfl | rfl
  · have : (0 : Int).natAbs.log2 < 1920 := by decide
    rw [fStrI, if_pos this, e0]; rfl
  · have : (1 : Int).natAbs.log2 < 1920 := by decide
    rw [fStrI, if_pos this, e1]; rfl
theorem nks_int (w : List Int) : nksD (w.map D.int) = some (w.map NestedKey.num) := by
  induction w with
  | nil => rfl
  | cons b bs ih => simp [nksD, nkD, ih]
theorem nk_wD (w : List Int) : nkD (wD w) = some (.tup (w.map .num)) := by simp [nkD, nks_int]
theorem depth_w (w : List Int) : (NestedKey.tup (w.map .num)).depth = 1 := by
  have : NestedKey.depthAll (w.map .num) = 0 := by
    induction w with
    | nil => simp [NestedKey.depthAll]
    | cons b bs ih => simp [NestedKey.depthAll, NestedKey.depth, ih]
  simp [NestedKey.depth, this]
theorem keyT_w (w : List Int) : keyT (wD w) = some (.tup (w.map .num)) := by
  have := nk_wD w
  simp only [keyT, this, depth_w]; rfl
theorem key_inj {w u : List Int} (h : NestedKey.tup (w.map .num) = NestedKey.tup (u.map .num)) : w = u := by
  injection h with h
  exact (List.map_inj_right (fun a b e => by injection e)).mp h
theorem dAt_none {w : List Int} : (pre : List (List Int)) → (vals : List D) → w ∉ pre → dAt (pre.map wD) vals (.tup (w.map .num)) = Option.none
  | [], _, _ => rfl
  | u :: pre, [], _ => rfl
  | u :: pre, v :: vals, h => by
    have h1 : ¬ nkD (wD u) = some (NestedKey.tup (w.map .num)) := fun e => by
      rw [nk_wD] at e
      injection e with e
      exact h (by rw [key_inj e]; exact List.mem_cons_self ..)
    show (if nkD (wD u) = _ then _ else _) = _
    rw [if_neg h1]
    exact dAt_none pre vals fun e => h (List.mem_cons_of_mem _ e)
theorem rng_succ (n : Nat) : rngD 0 (n + 1) = rngD 0 n ++ [.int n] := by simp [rngD, List.range_succ]
theorem dcL_words (a b : Option (Bool × D)) (B : Bs) : (rest pre : List (List Int)) → (pre ++ rest).Nodup → (pre ++ rest).length ≤ 1000000 →
    dcL (gT (gsC (gN 2) (gsC (gN 3) gs0))) mYes (mVar 3) (mVar 2) [a, b, Option.none, Option.none] ((List.range' pre.length rest.length).zipWith (fun i d => D.prs [.int (i : Nat), d]) (rest.map wD)) (pre.map wD, rngD 0 pre.length) B
      = .ok ((pre ++ rest).map wD, rngD 0 (pre ++ rest).length) B
  | [], pre, _, _ => by simp [dcL]
  | w :: rest, pre, hn, hl => by
    have hw : w ∉ pre := fun h => by
      rw [List.nodup_append] at hn
      exact hn.2.2 w h w (List.mem_cons_self ..) rfl
    have ih := dcL_words a b B rest (pre ++ [w]) (by simpa using hn) (by simpa using hl)
    have hs : pre.length < sizeLine := Nat.lt_of_lt_of_le (by simp at hl; omega) size_big
    have e1 : dPut (pre.map wD) (rngD 0 pre.length) (wD w) (.int pre.length) = some ((pre ++ [w]).map wD, rngD 0 (pre ++ [w]).length) := by
      simp [dPut, keyT_w, dAt_none _ _ hw, hs, rng_succ]
    have e2 : pre.length + 1 = (pre ++ [w]).length := by simp
    simp only [List.length_cons, List.range'_succ, List.map_cons, List.zipWith_cons_cons, dcL, gT, gsC, gN, gs0, mYes]
    simp [e1]
    simpa using ih
theorem enum_words (ws : List (List Int)) : enumD (ws.map wD) = (List.range' 0 ws.length).zipWith (fun i d => D.prs [.int (i : Nat), d]) (ws.map wD) := by
  simp [enumD, List.range_eq_range']
def codeD (ws : List (List Int)) : D := .inst 0 [wsD ws, .dct (ws.map wD) (rngD 0 ws.length)]
theorem init_ok {m : Nat} {ws : List (List Int)} (W : OkW m ws) (B : Bs) : f_CodeX_initX (ws.map wD) B = .ok (codeD ws) B := by
  have hl : ws.length ≤ 1000000 := Nat.le_trans W.n16 (by decide)
  have hs : ws.length ≤ sizeLine := Nat.le_trans hl size_big
  have e := dcL_words (some (true, .inst 0 [wsD ws])) (some (false, wsD ws)) B ws [] W.nd hl
  simp only [List.nil_append, List.length_nil] at e
  have e' : dcL (gT (gsC (gN 2) (gsC (gN 3) gs0))) mYes (mVar 3) (mVar 2) [some (true, .inst 0 [wsD ws]), some (false, wsD ws), Option.none, Option.none] (enumD (ws.map wD)) ([], []) B = .ok (ws.map wD, rngD 0 ws.length) B := by
    rw [enum_words]; exact e
  simp [f_CodeX_initX, m_CodeX_initX, mkIniS, hs, are_words_ok W, mFldJ, mFldSet, fldN, mDc, wipeI, mEnum, itD, e', finI, codeD]
theorem strOk_mkS {l : List Nat} (h : ∀ c ∈ l, c < 0x110000) : PyData.strOk (mkS l) = true := by
  simp only [PyData.strOk, Array.all_eq_true, decide_eq_true_eq]
  intro i hi
  exact h _ (by simp [mkS])
theorem eqv_str (x y : Str) : PyData.eqv (.str x) (.str y) = (x == y) := rfl
theorem chD_cW (w : List Int) : chD (mkS (cW w)) = w.map fun b => D.str (mkS [(48 + b).toNat]) := by
  simp [chD, cW]
theorem word_in_ok {w : List Int} (h : ∀ b ∈ w, b = 0 ∨ b = 1) (hl : w.length ≤ 1000000) (B : Bs) : f_word_in [.str (mkS (cW w))] B = .ok (wD w) B := by
  have := mLc_map (vs := [1]) (i := 1) (mi := mItems (mVar 0)) (me := (mIte (mCmpT (fInD fun b => b) (mVar 1) (mC (.tup [(.str (Str.ofString "0")), (.str (Str.ofString "1"))]))) (m1 (fIxS [Str.ofString "0", Str.ofString "1"]) (mVar 1)) (mC (.int (-1)))))
    (σ := [some (false, .str (mkS (cW w))), none]) (B := B) (ds := chD (mkS (cW w))) (fun b => D.str (mkS [(48 + b).toNat])) D.int w
    (by simp [itemsOf]) (chD_cW w) (Nat.le_trans hl size_big) (fun b hb => by
      have g0 : shp (.str (mkS [48])) = true := shp_str (strOk_mkS (by simp))
      have g1 : shp (.str (mkS [49])) = true := shp_str (strOk_mkS (by simp))
      have g2 : shp (.tup [.str (mkS [48]), .str (mkS [49])]) = true := by
        simp [shp, SeqAt.shaped, toPy, toPys, PyData.canLay0, PyData.canLayAll0, PyData.depth, PyData.depthAll, strOk_mkS]
      rcases h b hb with rfl | rfl
      · simp [wipeI, ofS_0, ofS_1, fInD, fInG, g0, g2, inD, toPys, toPy, eqv_str, fIxS, ixS]
      · simp [wipeI, ofS_0, ofS_1, fInD, fInG, g1, g2, inD, toPys, toPy, eqv_str, fIxS, ixS])
  simp [f_word_in, m_word_in, this]

@[simp] theorem z_mMeth (f : D → D → Bs → Rs D) (mo me : Ev) (σ : Sl) (B : Bs) : mMeth f mo me σ B = (mo σ B).bind fun o B1 => (isS o B1).bind fun o B2 => (me σ B2).bind fun d B3 => f o d B3 := (rfl)
@[simp] theorem z_isS (x : Str) (B : Bs) : isS (.str x) B = .ok (.str x) B := (rfl)
theorem cut_m1 {α : Type} (l : List α) (x : α) : cut (l ++ [x]) none (some (-1)) = l := by
  have e : HT.sIx (l ++ [x]).length (l ++ [x]).length (some (-1)) = l.length := by
    simp only [HT.sIx, List.length_append, List.length_cons, List.length_nil]
    rw [if_pos (by decide)]; omega
  simp only [cut, e, HT.sIx_none]; simp
theorem cut_lo {α : Type} (l : List α) (k : Nat) : cut l (some (k : Int)) none = l.drop k := by
  simp only [cut, HT.sIx_none, HT.sIx_nat]
  by_cases h : k ≤ l.length
  · rw [Nat.min_eq_left h, List.take_of_length_le (by simp)]
  · rw [Nat.min_eq_right (by omega)]; simp; omega
theorem cut_hi {α : Type} (l : List α) (k : Nat) : cut l none (some (k : Int)) = l.take k := by
  simp only [cut, HT.sIx_none, HT.sIx_nat, List.drop_zero, Nat.sub_zero]
  by_cases h : k ≤ l.length
  · rw [Nat.min_eq_left h]
  · rw [Nat.min_eq_right (by omega), List.take_of_length_le (Nat.le_refl _), List.take_of_length_le (by omega)]
theorem cW_lt {w : List Int} (h : ∀ b ∈ w, b = 0 ∨ b = 1) : ∀ c ∈ cW w, c = 48 ∨ c = 49 := by
  intro c hc
  simp only [cW, List.mem_map] at hc
  obtain ⟨b, hb, rfl⟩ := hc
  rcases h b hb with rfl | rfl <;> simp
theorem txN_len {m : Nat} {ws : List (List Int)} (W : OkW m ws) : (txN ws).length ≤ 1000 := by
  have h : ∀ us : List (List Int), (∀ w ∈ us, w.length = m) → (txN us).length = us.length * (m + 1) := by
    intro us hu
    induction us with
    | nil => simp [txN]
    | cons u us ih =>
      have e := ih fun w hw => hu w (List.mem_cons_of_mem _ hw)
      have e2 := hu u (List.mem_cons_self ..)
      simp only [txN] at e ⊢
      simp only [List.map_cons, List.flatten_cons, List.length_append, e, List.length_map, e2, List.length_cons, List.length_nil]
      rw [Nat.add_mul]; omega
  rw [h ws W.wid]
  have := W.n16; have := W.m5
  have := Nat.mul_le_mul W.n16 (show m + 1 ≤ 6 by omega)
  omega
theorem txN_ok {m : Nat} {ws : List (List Int)} (W : OkW m ws) : PyData.strOk (mkS (txN ws)) = true := strOk_mkS fun c hc => by
  simp only [txN, List.mem_flatten, List.mem_map] at hc
  obtain ⟨l, ⟨w, hw, rfl⟩, hc⟩ := hc
  rcases List.mem_append.mp hc with h | h
  · rcases cW_lt (W.bits w hw) c h with rfl | rfl <;> decide
  · simp at h; omega
theorem split_ok {m : Nat} {ws : List (List Int)} (W : OkW m ws) (B : Bs) : fSplit (.str (mkS (txN ws))) (.str (Str.ofString "\n")) B = .ok (.lst ((ws.map fun w => D.str (mkS (cW w))) ++ [.str (mkS [])])) B := by
  have e : Txt.split (mkS (txN ws)) (mkS [10]) = (ws.map fun w => mkS (cW w)) ++ [mkS []] := by
    have j : mkS (txN ws) = Txt.join (mkS [10]) ((ws.map fun w => mkS (cW w)) ++ [mkS []]) := by
      refine TL.ext_tl ?_
      rw [TL.join_eq, TL.tl_join]
      have := joinL_lines (ws.map cW)
      simp only [List.map_append, List.map_map, List.map_cons, List.map_nil] at this ⊢
      exact this.symm
    rw [j]
    refine TL.split_join (s := 10) (S := []) rfl (by simp) (by simp) fun p hp => ?_
    rcases List.mem_append.mp hp with h | h
    · obtain ⟨w, hw, rfl⟩ := List.mem_map.mp h
      intro h10
      rcases cW_lt (W.bits w hw) 10 h10 with h | h <;> simp at h
    · simp at h; subst h; simp
  have hl := txN_len W
  have hs := size_big
  have l1 : (mkS (txN ws)).length = (txN ws).length := rfl
  have l2 : (mkS [10]).length = 1 := rfl
  rw [ofS_nl, fSplit, if_pos ⟨by rw [l2]; rfl, by rw [l1]; omega⟩, e]
  simp
theorem lines_join {m : Nat} {ws : List (List Int)} (W : OkW m ws) (B : Bs) : fJoin (.str (Str.ofString "")) (.lst (ws.map fun w => D.str (mkS (cW w ++ [10])))) B = .ok (.str (mkS (txN ws))) B :=
  join_nil_ok (fun w => cW w ++ [10]) ws (Nat.le_trans (txN_len W) (by decide)) B
theorem add_str {a b : List Nat} (h : a.length + b.length ≤ 1000000) (B : Bs) : fAdd (.str (mkS a)) (.str (mkS b)) B = .ok (.str (mkS (a ++ b))) B := by
  have l1 : (mkS a).length = a.length := rfl
  have l2 : (mkS b).length = b.length := rfl
  rw [fAdd, if_pos (by rw [l1, l2]; exact Nat.le_trans h size_big), mkS_app]
theorem flat_one {α β : Type} (f : α → β) (l : List α) : (l.map fun b => [f b]).flatten = l.map f := by
  induction l with
  | nil => rfl
  | cons x l ih => simp [ih]
theorem wl_ok {m : Nat} {ws : List (List Int)} (W : OkW m ws) {w : List Int} (h : w ∈ ws) : w.length ≤ 5 := by have := W.wid w h; have := W.m5; omega
theorem read_ok {m : Nat} {ws : List (List Int)} (W : OkW m ws) (B : Bs) : f_Code_read [.cls 0, .str (mkS (txN ws))] B = .ok (codeD ws) B := by
  have hs : ws.length ≤ sizeLine := Nat.le_trans (Nat.le_trans W.n16 (by decide)) size_big
  have a1 := mLc_map (vs := [4]) (i := 4) (mi := mItems (mVar 2)) (me := mCall f_word_in [] (mCons (mVar 4) mNil)) (σ := [some (false, .cls 0), some (false, .str (mkS (txN ws))), some (false, .lst (ws.map fun w => D.str (mkS (cW w)))), none, none]) (B := B)
    (ds := ws.map fun w => D.str (mkS (cW w))) (fun w => D.str (mkS (cW w))) wD ws (by simp) rfl hs (fun w h => by simp [wipeI, word_in_ok (W.bits w h) (Nat.le_trans (wl_ok W h) (by decide))])
  have a2 := mLc_map (vs := [4]) (i := 4) (mi := mItems (mVar 2)) (me := mBin fAdd (mVar 4) (mC (.str (Str.ofString "\n")))) (σ := [some (false, .cls 0), some (false, .str (mkS (txN ws))), some (false, .lst (ws.map fun w => D.str (mkS (cW w)))), some (false, wsD ws), none]) (B := B)
    (ds := ws.map fun w => D.str (mkS (cW w))) (fun w => D.str (mkS (cW w))) (fun w => D.str (mkS (cW w ++ [10]))) ws (by simp) rfl hs (fun w h => by
      simp only [wipeI, mBin, mVar, mC, ofS_nl]; simp
      exact add_str (by have := wl_ok W h; simp; omega) B)
  have c1 : cut ((ws.map fun w => D.str (mkS (cW w))) ++ [.str (mkS [])]) none (some (-1)) = ws.map fun w => D.str (mkS (cW w)) := cut_m1 _ _
  simp [f_Code_read, m_Code_read, split_ok W, fSl, c1, a1, are_words_ok W, a2, lines_join W, fNe_str (txN_ok W) (txN_ok W), init_ok W]
theorem made_ok {m : Nat} {ws : List (List Int)} (W : OkW m ws) (B : Bs) : f__law_made [wsD ws] B = .ok (codeD ws) B := by
  have hs : ws.length ≤ sizeLine := Nat.le_trans (Nat.le_trans W.n16 (by decide)) size_big
  have a1 := mLc_map (vs := [1]) (i := 1) (mi := mItems (mVar 0)) (me := (mBin fAdd (mMeth fJoin (mC (.str (Str.ofString ""))) (mLc [2] (gN 2) (mItems (mVar 1)) mYes (m1 fStrI (mVar 2)))) (mC (.str (Str.ofString "\n"))))) (σ := [some (false, wsD ws), none, none]) (B := B)
    (ds := ws.map wD) wD (fun w => D.str (mkS (cW w ++ [10]))) ws (by simp) rfl hs (fun w h => by
      have hw := wl_ok W h
      have b1 := mLc_map (vs := [2]) (i := 2) (mi := mItems (mVar 1)) (me := m1 fStrI (mVar 2)) (σ := [some (false, wsD ws), some (false, wD w), none]) (B := B) (ds := w.map D.int) D.int (fun b => D.str (mkS [(48 + b).toNat])) w (by simp) rfl (Nat.le_trans (Nat.le_trans hw (by decide)) size_big)
        (fun b hb => by simp [wipeI, strI_bit (W.bits w h b hb)])
      have b2 := join_nil_ok (fun b : Int => [(48 + b).toNat]) w (by rw [flat_one]; simp; omega) B
      have b3 : (w.map fun b : Int => [(48 + b).toNat]).flatten = cW w := flat_one _ w
      rw [b3] at b2
      simp [wipeI, b1, b2, ofS_nl]
      exact add_str (by simp; omega) B)
  simp [f__law_made, m__law_made, a1, lines_join W, read_ok W]
end Hk

set_option Elab.async false
set_option linter.all false
set_option maxRecDepth 100000
namespace Hk
open PySem PySem.Spec PyProof.Rows L2 Hf

/-! ### what the functions of a code answer -/
abbrev turnW (ws : List (List Int)) (k : Nat) : List (List Int) := ws.drop k ++ ws.take k
theorem need_code_ok (ws : List (List Int)) (B : Bs) : f_need_code [codeD ws] B = .ok .none B := by
  simp [f_need_code, m_need_code, codeD]
theorem lenOk_nat (n : Nat) (h : n ≤ 1000000) (B : Bs) : lenOk (.ok (.int n) B) = .ok (.int n) B := by
  have e : 0 ≤ (n : Int) ∧ (n : Int) < 2 ^ 63 := ⟨by omega, by omega⟩
  simp only [lenOk]
  rw [if_pos e]
theorem len_code_ok (ws : List (List Int)) (h : ws.length ≤ 16) (B : Bs) : fLenA 0 f_CodeX_lenX (codeD ws) B = .ok (.int ws.length) B := by
  have e : f_CodeX_lenX [codeD ws] B = .ok (.int ws.length) B := by simp [f_CodeX_lenX, m_CodeX_lenX, codeD]
  generalize f_CodeX_lenX = f at e
  unfold codeD at e ⊢
  simp only [fLenA, e, lenOk_nat _ (show ws.length ≤ 1000000 by omega), if_true]
theorem add_tup {a b : List D} (h : a.length + b.length ≤ 1000000) (B : Bs) : fAdd (.tup a) (.tup b) B = .ok (.tup (a ++ b)) B := by
  rw [fAdd, if_pos (Nat.le_trans h size_big)]
theorem add_lst {a b : List D} (h : a.length + b.length ≤ 1000000) (B : Bs) : fAdd (.lst a) (.lst b) B = .ok (.lst (a ++ b)) B := by
  rw [fAdd, if_pos (Nat.le_trans h size_big)]
theorem begun_ok {ws : List (List Int)} {k : Nat} (h : ws.length ≤ 16) (B : Bs) : f_begun [wsD ws, .int k] B = .ok (wsD (turnW ws k)) B := by
  have := add_tup (a := (ws.map wD).drop k) (b := (ws.map wD).take k) (by simp; omega) B
  simp [f_begun, m_begun, fSl, cut_lo, cut_hi] at this ⊢
  simp [this]
theorem turned_words_ok {ws : List (List Int)} {k : Nat} (h : ws.length ≤ 16) (B : Bs) : f__law_turned_words [wsD ws, .int k] B = .ok (wsD (turnW ws k)) B := by
  have := add_tup (a := (ws.map wD).drop k) (b := (ws.map wD).take k) (by simp; omega) B
  simp [f__law_turned_words, m__law_turned_words, fSl, cut_lo, cut_hi] at this ⊢
  simp [this]
theorem words_ok (ws : List (List Int)) (B : Bs) : prpK 0 f_Code_words (codeD ws) B = .ok (wsD ws) B := by
  simp [codeD, f_Code_words, m_Code_words]
theorem turn_perm (ws : List (List Int)) (k : Nat) : (turnW ws k).Perm ws := by
  refine List.perm_append_comm.trans ?_
  rw [List.take_append_drop]
theorem OkW.perm {m : Nat} {ws us : List (List Int)} (W : OkW m ws) (p : us.Perm ws) : OkW m us :=
  ⟨by rw [p.length_eq]; exact W.n2, by rw [p.length_eq]; exact W.n16, W.m1, W.m5, fun w h => W.wid w (p.mem_iff.mp h), fun w h => W.bits w (p.mem_iff.mp h), p.nodup_iff.mpr W.nd⟩
theorem bits_ok {m : Nat} {ws : List (List Int)} (W : OkW m ws) (B : Bs) : prpK 0 f_Code_bits (codeD ws) B = .ok (.int m) B := by
  cases ws with
  | nil => have := W.n2; simp at this
  | cons w r =>
    have := W.wid w (List.mem_cons_self ..)
    simp [codeD, f_Code_bits, m_Code_bits, fIx, atI, ixN, this]
abbrev backW : List (List Int) → List (List Int)
  | [] => []
  | w :: r => w :: r.reverse
theorem back_words_ok {m : Nat} {ws : List (List Int)} (W : OkW m ws) (B : Bs) : f__law_back_words [wsD ws] B = .ok (wsD (backW ws)) B := by
  have h16 := W.n16
  cases ws with
  | nil => have := W.n2; simp at this
  | cons w r =>
    have e1 := cut_hi (wD w :: r.map wD) 1
    have e2 := cut_lo (wD w :: r.map wD) 1
    have := add_tup (a := [wD w]) (b := (r.map wD).reverse) (by simp at h16 ⊢; omega) B
    simp at e1 e2 this
    simp [f__law_back_words, m__law_back_words, fSl, e1, e2, fRev, this]
end Hk

set_option Elab.async false
set_option linter.all false
set_option maxRecDepth 100000
namespace Hk
open PySem PySem.Spec PyProof.Rows L2 Hf

/-! ### the text of a value, for the test of two values -/
theorem law_same_ok {a b : D} (ha : reprOk a = true) (hb : reprOk b = true) (h1 : PyData.strOk (toPy a).shown = true) (h2 : PyData.strOk (toPy b).shown = true) (e : a = b) (B : Bs) : f__law_same [a, b] B = .ok (.bool true) B := by
  subst e
  simp [f__law_same, m__law_same, fRepr_ok ha, fEq_str h1 h1]
end Hk

set_option Elab.async false
set_option linter.all false
set_option maxRecDepth 100000
namespace Hk
open PySem PySem.Spec PyProof.Rows L2 Hf

/-! ### the shown text has only good signs -/
theorem ok_app {a b : Str} (ha : PyData.strOk a = true) (hb : PyData.strOk b = true) : PyData.strOk (a ++ b) = true := by
  have e : ∀ x : Str, PyData.strOk x = true ↔ ∀ c ∈ x.cps.toList, c < 0x110000 := fun x => by
    simp only [PyData.strOk, ← Array.all_toList, List.all_eq_true, decide_eq_true_eq]
  rw [e] at *
  have := TL.tl_append a b
  simp only [TL.tl] at this
  rw [this]
  intro c hc
  rcases List.mem_append.mp hc with h | h
  · exact ha c h
  · exact hb c h
theorem ok_lit (s : String) (h : ∀ c ∈ s.toList.map Char.toNat, c < 0x110000) : PyData.strOk (Str.ofString s) = true := by
  have e : PyData.strOk (Str.ofString s) = true ↔ ∀ c ∈ (Str.ofString s).cps.toList, c < 0x110000 := by
    simp only [PyData.strOk, ← Array.all_toList, List.all_eq_true, decide_eq_true_eq]
  rw [e]
  have := TL.tl_ofString s
  simp only [TL.tl] at this
  rw [this]; exact h
theorem ok_join {sep : Str} (hs : PyData.strOk sep = true) : (ts : List Str) → (∀ t ∈ ts, PyData.strOk t = true) → PyData.strOk (Str.join sep ts) = true
  | [], _ => strOk_mkS (l := []) (by simp)
  | [t], h => h t (List.mem_singleton.mpr rfl)
  | t :: u :: r, h => by
    show PyData.strOk (t ++ sep ++ Str.join sep (u :: r)) = true
    exact ok_app (ok_app (h t (List.mem_cons_self ..)) hs) (ok_join hs (u :: r) fun x hx => h x (List.mem_cons_of_mem _ hx))
theorem ok_tuple {ts : List Str} (h : ∀ t ∈ ts, PyData.strOk t = true) : PyData.strOk (tupleText ts) = true := by
  unfold tupleText
  refine ok_app (ok_app (ok_lit "(" (by decide)) (ok_join (ok_lit ", " (by decide)) ts h)) ?_
  split
  · exact ok_lit ",)" (by decide)
  · exact ok_lit ")" (by decide)
theorem ok_from : (ts : List Str) → (k : Nat) → (acc : Str) → PyData.strOk acc = true → (∀ t ∈ ts, PyData.strOk t = true) → PyData.strOk (textFrom k acc ts) = true
  | [], _, acc, ha, _ => ha
  | t :: r, k, acc, ha, h => by
    refine ok_from r (k + 1) _ (ok_app (ok_app ha ?_) (h t (List.mem_cons_self ..))) fun x hx => h x (List.mem_cons_of_mem _ hx)
    split
    · exact ok_lit ", " (by decide)
    · exact ok_lit "" (by decide)
theorem ok_list {ts : List Str} (h : ∀ t ∈ ts, PyData.strOk t = true) : PyData.strOk (listText ts) = true :=
  ok_app (ok_from ts 0 _ (ok_lit "[" (by decide)) h) (ok_lit "]" (by decide))
theorem toPys_map {α : Type} (f : α → D) (l : List α) : toPys (l.map f) = l.map fun x => toPy (f x) := by
  induction l with
  | nil => rfl
  | cons x l ih => simp [toPys, ih]
end Hk

set_option Elab.async false
set_option linter.all false
set_option maxRecDepth 100000
namespace Hk
open PySem PySem.Spec PyProof.Rows L2 Hf

theorem canAll {α : Type} (f : α → PyData) (l : List α) (h : ∀ x ∈ l, (f x).canLay0 = true) : PyData.canLayAll0 (l.map f) = true := by
  induction l with
  | nil => simp [PyData.canLayAll0]
  | cons x l ih => simp only [List.map_cons, PyData.canLayAll0, h x (List.mem_cons_self ..), ih fun y hy => h y (List.mem_cons_of_mem _ hy)]; rfl
theorem depAll {α : Type} (f : α → PyData) (n : Nat) (l : List α) (h : ∀ x ∈ l, (f x).depth ≤ n) : PyData.depthAll (l.map f) ≤ n := by
  induction l with
  | nil => simp [PyData.depthAll]
  | cons x l ih => 
    have h1 := h x (List.mem_cons_self ..)
    have h2 := ih fun y hy => h y (List.mem_cons_of_mem _ hy)
    simp only [List.map_cons, PyData.depthAll]; omega
theorem toPy_w (w : List Int) : toPy (wD w) = .tuple (w.map PyData.int) := by
  simp only [wD, toPy, toPys_map]
theorem size13 : 15728653 ≤ sizeLine := by decide
end Hk

set_option Elab.async false
set_option linter.all false
set_option maxRecDepth 100000
namespace Hk
open PySem PySem.Spec PyProof.Rows L2 Hf

/-! ### small values may be shown -/
structure Sm (k n : Nat) (d : D) : Prop where
  can : (toPy d).canLay0 = true
  shw : (toPy d).showable = true
  dep : (toPy d).depth ≤ k
  wei : (toPy d).weight ≤ n
  sho : (toPy d).intsShort 13 = true
  ok : PyData.strOk (toPy d).shown = true
theorem Sm.mono {k n k' n' : Nat} {d : D} (h : Sm k n d) (hk : k ≤ k') (hn : n ≤ n') : Sm k' n' d := ⟨h.can, h.shw, Nat.le_trans h.dep hk, Nat.le_trans h.wei hn, h.sho, h.ok⟩
theorem sm_none : Sm 0 0 .none := ⟨rfl, rfl, Nat.le_refl _, Nat.le_refl _, rfl, by decide +kernel⟩
theorem small_int : ∀ j : Fin 621, PyData.showable (.int ((j : Nat) - 20)) = true ∧ PyData.weight (.int ((j : Nat) - 20)) ≤ 10 ∧ PyData.intsShort 13 (.int ((j : Nat) - 20)) = true ∧ PyData.strOk (PyData.shown (.int ((j : Nat) - 20))) = true := by decide +kernel
theorem sm_int {i : Int} (h1 : -20 ≤ i) (h2 : i ≤ 600) : Sm 0 10 (.int i) := by
  have e : i = (((i + 20).toNat : Nat) : Int) - 20 := by omega
  have := small_int ⟨(i + 20).toNat, by omega⟩
  simp only [← e] at this
  exact ⟨rfl, this.1, Nat.le_refl _, this.2.1, this.2.2.1, this.2.2.2⟩
theorem sm_nat {i : Nat} (h2 : i ≤ 600) : Sm 0 10 (.int i) := sm_int (by omega) (by omega)
theorem allSm {k n : Nat} {ds : List D} (h : ∀ d ∈ ds, Sm k n d) : PyData.canLayAll0 (toPys ds) = true ∧ PyData.showableAll (toPys ds) = true ∧ PyData.depthAll (toPys ds) ≤ k ∧ PyData.weightAll (toPys ds) ≤ ds.length * (n + 1) ∧ PyData.intsShortAll 13 (toPys ds) = true ∧ ∀ t ∈ PyData.shownAll (toPys ds), PyData.strOk t = true := by
  induction ds with
  | nil => simp [toPys, PyData.canLayAll0, PyData.showableAll, PyData.depthAll, PyData.weightAll, PyData.intsShortAll, PyData.shownAll]
  | cons d ds ih =>
    obtain ⟨a1, a2, a3, a4, a5, a6⟩ := ih fun x hx => h x (List.mem_cons_of_mem _ hx)
    obtain ⟨b1, b2, b3, b4, b5, b6⟩ := h d (List.mem_cons_self ..)
    simp only [toPys, PyData.canLayAll0, PyData.showableAll, PyData.depthAll, PyData.weightAll, PyData.intsShortAll, PyData.shownAll, a1, a2, a5, b1, b2, b5, List.length_cons, Nat.add_mul]
    refine ⟨rfl, rfl, by omega, by omega, rfl, fun t ht => ?_⟩
    rcases List.mem_cons.mp ht with rfl | ht
    · exact b6
    · exact a6 t ht
theorem sm_tup {k n : Nat} {ds : List D} (h : ∀ d ∈ ds, Sm k n d) : Sm (k + 1) (ds.length * (n + 1)) (.tup ds) := by
  obtain ⟨a1, a2, a3, a4, a5, a6⟩ := allSm h
  refine ⟨?_, ?_, ?_, ?_, ?_, ?_⟩
  · simp only [toPy, PyData.canLay0]; exact a1
  · simp only [toPy, PyData.showable]; exact a2
  · simp only [toPy, PyData.depth]; omega
  · simp only [toPy, PyData.weight]; exact a4
  · simp only [toPy, PyData.intsShort]; exact a5
  · simp only [toPy, PyData.shown]; exact ok_tuple a6
theorem sm_lst {k n : Nat} {ds : List D} (h : ∀ d ∈ ds, Sm k n d) : Sm (k + 1) (ds.length * (n + 1)) (.lst ds) := by
  obtain ⟨a1, a2, a3, a4, a5, a6⟩ := allSm h
  refine ⟨?_, ?_, ?_, ?_, ?_, ?_⟩
  · simp only [toPy, PyData.canLay0]; exact a1
  · simp only [toPy, PyData.showable]; exact a2
  · simp only [toPy, PyData.depth]; omega
  · simp only [toPy, PyData.weight]; exact a4
  · simp only [toPy, PyData.intsShort]; exact a5
  · simp only [toPy, PyData.shown]; exact ok_list a6
def isSeq : D → Bool
  | .tup _ => true
  | .lst _ => true
  | _ => false
theorem Sm.repr {k n : Nat} {d : D} (h : Sm k n d) (hq : isSeq d = true) (hk : k ≤ 40) (hn : n ≤ 100000) : reprOk d = true := by
  have l : PyData.layable0 (toPy d) = true := by
    have := h.dep
    have := h.wei
    simp only [PyData.layable0, h.can, Bool.and_eq_true, decide_eq_true_eq, true_and]
    omega
  have s := PyProof.Rows.shown_le13 l h.sho
  have d' := h.dep
  have z := size13
  have e : decide ((toPy d).depth < 50) = true := decide_eq_true (by omega)
  have e2 : decide ((toPy d).shown.length ≤ sizeLine) = true := decide_eq_true (by omega)
  cases d <;> first | (simp only [reprOk, h.can, h.shw, PyData.hasDict_of_canLay _ h.can, e, e2]; rfl) | cases hq
theorem Sm.same {k n : Nat} {d : D} (h : Sm k n d) (hq : isSeq d = true) (hk : k ≤ 40) (hn : n ≤ 100000) (B : Bs) : f__law_same [d, d] B = .ok (.bool true) B :=
  law_same_ok (h.repr hq hk hn) (h.repr hq hk hn) h.ok h.ok rfl B
theorem Sm.shp {k n : Nat} {d : D} (h : Sm k n d) (hk : k ≤ 40) : Hf.shp d = true := by
  have := h.dep
  simp only [Hf.shp, SeqAt.shaped, h.can, Bool.and_eq_true, decide_eq_true_eq, true_and]; omega
theorem sm_bit {b : Int} (h : b = 0 ∨ b = 1) : Sm 0 10 (.int b) := sm_int (by omega) (by omega)
theorem sm_w {w : List Int} (h : ∀ b ∈ w, b = 0 ∨ b = 1) (hl : w.length ≤ 5) : Sm 1 55 (wD w) := by
  refine (sm_tup (k := 0) (n := 10) fun d hd => ?_).mono (Nat.le_refl _) (by simp; omega)
  obtain ⟨b, hb, rfl⟩ := List.mem_map.mp hd
  exact sm_bit (h b hb)
theorem sm_ws {ws : List (List Int)} (h : ∀ w ∈ ws, ∀ b ∈ w, b = 0 ∨ b = 1) (hl : ∀ w ∈ ws, w.length ≤ 5) (hn : ws.length ≤ 32) : Sm 2 1792 (wsD ws) := by
  refine (sm_tup (k := 1) (n := 55) fun d hd => ?_).mono (Nat.le_refl _) (by simp; omega)
  obtain ⟨b, hb, rfl⟩ := List.mem_map.mp hd
  exact sm_w (h b hb) (hl b hb)
theorem OkW.sm {m : Nat} {ws : List (List Int)} (W : OkW m ws) : Sm 2 1792 (wsD ws) := sm_ws W.bits (fun w h => wl_ok W h) (by have := W.n16; omega)
end Hk

set_option Elab.async false
set_option linter.all false
set_option maxRecDepth 100000
namespace Hk
open PySem PySem.Spec PyProof.Rows L2 Hf

/-! ### columns set in another order -/
abbrev nD (o : List Nat) : List D := o.map fun i : Nat => D.int i
def setL (zs : List (Int × Nat)) (r : List Int) : List Int := zs.foldl (fun r z => r.set z.2 z.1) r
theorem setL_len (zs : List (Int × Nat)) (r : List Int) : (setL zs r).length = r.length := by
  induction zs generalizing r with
  | nil => rfl
  | cons z zs ih => simp only [setL, List.foldl_cons] at ih ⊢; rw [ih]; simp
theorem setL_out {p : Nat} : (zs : List (Int × Nat)) → (r : List Int) → (∀ z ∈ zs, z.2 ≠ p) → (setL zs r)[p]? = r[p]?
  | [], _, _ => rfl
  | z :: zs, r, h => by
    have := setL_out (p := p) zs (r.set z.2 z.1) fun y hy => h y (List.mem_cons_of_mem _ hy)
    have h1 := h z (List.mem_cons_self ..)
    simp only [setL, List.foldl_cons] at this ⊢
    rw [this, List.getElem?_set_ne h1]
theorem setL_in : (zs : List (Int × Nat)) → (r : List Int) → (zs.map (·.2)).Nodup → (∀ z ∈ zs, z.2 < r.length) → ∀ z ∈ zs, (setL zs r)[z.2]? = some z.1
  | [], _, _, _, z, hz => by simp at hz
  | y :: zs, r, hn, hl, z, hz => by
    have hn' := List.nodup_cons.mp hn
    rcases List.mem_cons.mp hz with rfl | hz
    · have := setL_out (p := z.2) zs (r.set z.2 z.1) fun x hx e => hn'.1 (List.mem_map.mpr ⟨x, hx, e⟩)
      simp only [setL, List.foldl_cons] at this ⊢
      rw [this]; simp [hl z (List.mem_cons_self ..)]
    · have := setL_in zs (r.set y.2 y.1) hn'.2 (fun x hx => by simpa using hl x (List.mem_cons_of_mem _ hx)) z hz
      simpa only [setL, List.foldl_cons] using this
abbrev plW (o : List Nat) (w : List Int) : List Int := setL (w.zip o) (List.replicate w.length 0)
end Hk

set_option Elab.async false
set_option linter.all false
set_option maxRecDepth 100000
namespace Hk
open PySem PySem.Spec PyProof.Rows L2 Hf

@[simp] theorem sz0 : 0 ≤ sizeLine := by decide
@[simp] theorem sz1 : 1 ≤ sizeLine := by decide
@[simp] theorem sz2 : 2 ≤ sizeLine := by decide
@[simp] theorem sz3 : 3 ≤ sizeLine := by decide
@[simp] theorem sz4 : 4 ≤ sizeLine := by decide
/-! ### drawn orders -/
theorem rng_nD (n : Nat) : rngD 0 n = nD (List.range n) := by simp [rngD, nD]
def toN : D → Nat
  | .int i => i.toNat
  | _ => 0
theorem perm_rng {es : List D} {n : Nat} (h : es.Perm (rngD 0 n)) : ∃ o : List Nat, es = nD o ∧ o.Perm (List.range n) := by
  refine ⟨es.map toN, ?_, ?_⟩
  · have : ∀ e ∈ es, D.int (toN e : Nat) = e := fun e he => by
      obtain ⟨i, rfl, _⟩ := rngD_mem (h.mem_iff.mp he)
      simp [toN]
    simp only [nD, List.map_map]
    conv => lhs; rw [← List.map_id es]
    exact List.map_congr_left fun e he => by simpa using (this e he).symm
  · have := h.map toN
    rw [rng_nD] at this
    simpa [nD, toN, Function.comp_def] using this
theorem can_nD (o : List Nat) : PyData.canLayAll0 (toPys (nD o)) = true := by
  rw [nD, toPys_map]; exact canAll _ o fun b _ => by simp [toPy, PyData.canLay0]
theorem dep_nD (o : List Nat) : PyData.depthAll (toPys (nD o)) ≤ 0 := by
  rw [nD, toPys_map]; exact depAll _ 0 o fun b _ => by simp [toPy, PyData.depth]
theorem shp_nD (o : List Nat) : shp (.tup (nD o)) = true := by
  have := dep_nD o
  simp only [shp, SeqAt.shaped, toPy, PyData.canLay0, PyData.depth, can_nD, Bool.and_eq_true, decide_eq_true_eq, true_and]; omega
theorem inD_nD (i : Nat) (o : List Nat) : inD (.int (i : Nat)) (nD o) = decide (i ∈ o) := by
  rw [inD, nD, toPys_map]
  simp only [toPy, List.any_map]
  induction o with
  | nil => rfl
  | cons x o ih =>
    simp only [List.any_cons, ih, List.mem_cons, Function.comp, PyData.eqv]
    by_cases h : i = x
    · simp [h]
    · have : ¬ ((x : Int) = i) := by omega
      simp [h, this]
/-! ### placed -/
theorem rep_zero (n : Nat) : (List.replicate n [D.int 0]).flatten = (List.replicate n (0 : Int)).map D.int := by
  induction n with
  | zero => rfl
  | succ n ih => simp [List.replicate_succ] at ih ⊢
theorem mulL_ok (n : Nat) (h : n ≤ 5) (B : Bs) : fMulL (.lst [.int 0]) (.int n) B = .ok (.lst ((List.replicate n (0 : Int)).map D.int)) B := by
  have e1 : (n : Int) < 1000 := by omega
  have e2 : (-1000 : Int) < n := by omega
  simp only [fMulL, e1, e2]
  rw [if_pos (by decide), Int.toNat_natCast, rep_zero]
theorem setOwn_loop (v0 v1 : Option (Bool × D)) (B : Bs) : (zs : List (Int × Nat)) → (r : List Int) → (∀ z ∈ zs, z.2 < r.length) → (a b : Option (Bool × D)) →
    ∃ a' b', forL (gT (gsC (gN 3) (gsC (gN 4) gs0))) (mSetOwn 2 (mVar 4) (mVar 3)) (zs.map fun z => D.prs [.int z.1, .int (z.2 : Nat)]) [v0, v1, some (true, .lst (r.map D.int)), a, b] B = .next [v0, v1, some (true, .lst ((setL zs r).map D.int)), a', b'] B
  | [], r, _, a, b => ⟨a, b, rfl⟩
  | z :: zs, r, h, a, b => by
    have hz := h z (List.mem_cons_self ..)
    obtain ⟨a', b', e⟩ := setOwn_loop v0 v1 B zs (r.set z.2 z.1) (fun y hy => by simpa using h y (List.mem_cons_of_mem _ hy)) (some (false, .int z.1)) (some (false, .int (z.2 : Nat)))
    refine ⟨a', b', ?_⟩
    have e1 : ixN r.length (z.2 : Nat) = some z.2 := by simp [ixN, hz]
    simp only [List.map_cons, forL, gT, gsC, gN, gs0, List.set_cons_succ, List.set_cons_zero, Option.bind]
    simp [mSetOwn, upO, e1, List.map_set] at e ⊢
    exact e
theorem zip_nD (w : List Int) (o : List Nat) : zipD (w.map D.int) (nD o) = (w.zip o).map fun z => D.prs [.int z.1, .int (z.2 : Nat)] := by
  simp [zipD, nD, List.zip, List.map_zipWith, List.zipWith_map]
end Hk

set_option Elab.async false
set_option linter.all false
set_option maxRecDepth 100000
namespace Hk
open PySem PySem.Spec PyProof.Rows L2 Hf

/-! ### the columns of all words -/
theorem plW_len (o : List Nat) (w : List Int) : (plW o w).length = w.length := by simp [plW, setL_len]
theorem zip_snd_nodup {o : List Nat} {w : List Int} (h : o.Nodup) (hl : o.length = w.length) : ((w.zip o).map (·.2)).Nodup := by
  have : (w.zip o).map Prod.snd = o := List.map_snd_zip (by omega)
  rw [this]; exact h
theorem plW_at {o : List Nat} {w : List Int} (h : o.Perm (List.range w.length)) (i : Nat) (hi : i < w.length) (ho : i < o.length) : (plW o w)[o[i]]? = some w[i] := by
  have hn : o.Nodup := h.nodup_iff.mpr List.nodup_range
  have hl : o.length = w.length := by simpa using h.length_eq
  have := setL_in (w.zip o) (List.replicate w.length 0) (zip_snd_nodup hn hl) (fun z hz => by
    have := h.mem_iff.mp (List.of_mem_zip hz).2
    simpa using this) (w[i], o[i]) (by
      rw [List.mem_iff_getElem]
      exact ⟨i, by simp; omega, by simp⟩)
  exact this
theorem plW_inj {o : List Nat} {m : Nat} (h : o.Perm (List.range m)) {w u : List Int} (hw : w.length = m) (hu : u.length = m) (e : plW o w = plW o u) : w = u := by
  have hl : o.length = m := by simpa using h.length_eq
  refine List.ext_getElem (by omega) fun i h1 h2 => ?_
  have a := plW_at (o := o) (w := w) (by rw [hw]; exact h) i h1 (by omega)
  have b := plW_at (o := o) (w := u) (by rw [hu]; exact h) i h2 (by omega)
  rw [e, b] at a
  exact (Option.some.inj a).symm
theorem setL_mem {P : Int → Prop} : (zs : List (Int × Nat)) → (r : List Int) → (∀ z ∈ zs, P z.1) → (∀ x ∈ r, P x) → ∀ x ∈ setL zs r, P x
  | [], _, _, h => h
  | z :: zs, r, h1, h2 => setL_mem zs (r.set z.2 z.1) (fun y hy => h1 y (List.mem_cons_of_mem _ hy)) fun x hx => by
    rcases List.mem_or_eq_of_mem_set hx with h | rfl
    · exact h2 x h
    · exact h1 z (List.mem_cons_self ..)
theorem plW_bits {o : List Nat} {w : List Int} (h : ∀ b ∈ w, b = 0 ∨ b = 1) : ∀ b ∈ plW o w, b = 0 ∨ b = 1 :=
  setL_mem _ _ (fun z hz => h _ (List.of_mem_zip hz).1) fun x hx => .inl (List.eq_of_mem_replicate hx)
theorem nodup_map_on {α β : Type} {f : α → β} {l : List α} (h : ∀ x ∈ l, ∀ y ∈ l, f x = f y → x = y) (n : l.Nodup) : (l.map f).Nodup := by
  rw [List.Nodup, List.pairwise_map]
  exact List.Pairwise.imp_of_mem (fun ha hb hne e => hne (h _ ha _ hb e)) n
theorem OkW.map {m : Nat} {ws : List (List Int)} (W : OkW m ws) (f : List Int → List Int) (h1 : ∀ w ∈ ws, (f w).length = w.length) (h2 : ∀ w ∈ ws, ∀ b ∈ f w, b = 0 ∨ b = 1) (h3 : ∀ w ∈ ws, ∀ u ∈ ws, f w = f u → w = u) : OkW m (ws.map f) :=
  ⟨by rw [List.length_map]; exact W.n2, by rw [List.length_map]; exact W.n16, W.m1, W.m5, fun w h => by
    obtain ⟨u, hu, rfl⟩ := List.mem_map.mp h
    rw [h1 u hu, W.wid u hu], fun w h => by
    obtain ⟨u, hu, rfl⟩ := List.mem_map.mp h
    exact h2 u hu, nodup_map_on h3 W.nd⟩
theorem OkW.pl {m : Nat} {ws : List (List Int)} (W : OkW m ws) {o : List Nat} (h : o.Perm (List.range m)) : OkW m (ws.map (plW o)) :=
  W.map _ (fun w _ => plW_len o w) (fun w hw => plW_bits (W.bits w hw)) fun w hw u hu e => plW_inj h (W.wid w hw) (W.wid u hu) e
/-! ### the columns, by the law's own loop -/
theorem setOwn_range (w : List Int) (o : List Nat) (v0 v2 : Option (Bool × D)) (B : Bs) : (n : Nat) → (i : Nat) → i + n = w.length → o.length = w.length → (r : List Int) → (∀ p ∈ o, p < r.length) → (a : Option (Bool × D)) →
    ∃ a', forL (gN 5) (mSetOwn 4 (mBin fIx (mVar 1) (mVar 5)) (mBin fIx (mVar 3) (mVar 5))) (rngD (i : Nat) n) [v0, some (false, .tup (nD o)), v2, some (false, wD w), some (true, .lst (r.map D.int)), a] B
      = .next [v0, some (false, .tup (nD o)), v2, some (false, wD w), some (true, .lst ((setL ((w.zip o).drop i) r).map D.int)), a'] B
  | 0, i, h, ho, r, hr, a => ⟨a, by
    have : (w.zip o).drop i = [] := List.drop_eq_nil_of_le (by simp; omega)
    simp [rngD, forL, this, setL]⟩
  | n + 1, i, h, ho, r, hr, a => by
    have hi : i < w.length := by omega
    have hi2 : i < o.length := by omega
    obtain ⟨a', e⟩ := setOwn_range w o v0 v2 B n (i + 1) (by omega) ho (r.set o[i] w[i]) (fun p hp => by simpa using hr p hp) (some (false, .int (i : Nat)))
    refine ⟨a', ?_⟩
    have d1 : (w.zip o).drop i = (w[i], o[i]) :: (w.zip o).drop (i + 1) := by
      rw [List.drop_eq_getElem_cons (by simp; omega)]; simp
    have r1 : rngD (i : Nat) (n + 1) = .int (i : Nat) :: rngD ((i + 1 : Nat) : Int) n := by
      simp [rngD, List.range_succ_eq_map]
      intro x _; omega
    have e1 : ixN r.length (o[i] : Nat) = some o[i] := by
      have := hr o[i] (List.getElem_mem hi2)
      simp [ixN, this]
    have x1 : fIx (wD w) (.int (i : Nat)) B = .ok (.int w[i]) B := by simp [fIx, atI, ixN, hi]
    have x2 : fIx (.tup (nD o)) (.int (i : Nat)) B = .ok (.int (o[i] : Nat)) B := by simp [fIx, atI, ixN, hi2, nD]
    rw [r1, d1]
    simp only [forL, gN, List.set_cons_succ, List.set_cons_zero]
    simp [mSetOwn, upO, x1, x2, e1, List.map_set, setL] at e ⊢
    exact e
theorem renamed_words_ok {m : Nat} {ws : List (List Int)} (W : OkW m ws) {o : List Nat} (h : o.Perm (List.range m)) (B : Bs) : f__law_renamed_words [wsD ws, .tup (nD o)] B = .ok (wsD (ws.map (plW o))) B := by
  have hol : o.length = m := by simpa using h.length_eq
  have ho : ∀ p ∈ o, p < m := fun i hi => by simpa using h.mem_iff.mp hi
  have L : ∀ (us acc : List (List Int)) (a b c : Option (Bool × D)), (∀ w ∈ us, w.length = m) → acc.length + us.length ≤ 16 →
      ∃ a' b' c', forL (gN 3) (mSeq (mSetO 4 (mBin fMulL (mLst (mCons (mC (.int 0)) mNil)) (m1 fLen (mVar 3))))
        (mSeq (mFor (gN 5) (mRng1 (m1 fLen (mVar 3))) (mSetOwn 4 (mBin fIx (mVar 1) (mVar 5)) (mBin fIx (mVar 3) (mVar 5))))
        (mApp 2 (m1 fTupO (mBor 4))))) (us.map wD) [some (false, wsD ws), some (false, .tup (nD o)), some (true, .lst (acc.map wD)), a, b, c] B
      = .next [some (false, wsD ws), some (false, .tup (nD o)), some (true, .lst ((acc ++ us.map (plW o)).map wD)), a', b', c'] B := by
    intro us
    induction us with
    | nil => intro acc a b c _ _; exact ⟨a, b, c, by simp [forL]⟩
    | cons u us ih =>
      intro acc a b c hu hl
      have e0 := hu u (List.mem_cons_self ..)
      have h5 := W.m5
      obtain ⟨a1, e1⟩ := setOwn_range u o (some (false, wsD ws)) (some (true, .lst (acc.map wD))) B u.length 0 (by omega) (by omega) (List.replicate u.length 0) (fun p hp => by have := ho p hp; simp; omega) c
      obtain ⟨a', b', c', e2⟩ := ih (acc ++ [plW o u]) (some (false, wD u)) (some (true, .lst ((plW o u).map D.int))) a1 (fun w hw => hu w (List.mem_cons_of_mem _ hw)) (by simp at hl ⊢; omega)
      refine ⟨a', b', c', ?_⟩
      have e3 := mulL_ok u.length (by omega) B
      have e4 : rngB (u.length : Int) = true := by simp [rngB]; omega
      have hs : acc.length < sizeLine := Nat.lt_of_lt_of_le (by simp at hl; omega) size_big
      simp only [List.map_cons, forL, gN]
      simp [szL, e3, mFor, e4] at e1 e2 ⊢
      rw [e1]
      simp [mApp, upO, hs]
      exact e2
  obtain ⟨a, b, c, e⟩ := L ws [] none none none W.wid (by have := W.n16; simpa using this)
  simp [f__law_renamed_words, m__law_renamed_words, szL, mFor] at e ⊢
  rw [e]; simp
end Hk

set_option Elab.async false
set_option linter.all false
set_option maxRecDepth 100000
namespace Hk
open PySem PySem.Spec PyProof.Rows L2 Hf

/-! ### bits exchanged -/
abbrev flW (ps : List Nat) (w : List Int) : List Int := w.zipIdx.map fun z => if z.2 ∈ ps then 1 - z.1 else z.1
theorem flW_len (ps : List Nat) (w : List Int) : (flW ps w).length = w.length := by simp
theorem flW_bits {ps : List Nat} {w : List Int} (h : ∀ b ∈ w, b = 0 ∨ b = 1) : ∀ b ∈ flW ps w, b = 0 ∨ b = 1 := by
  intro b hb
  obtain ⟨z, hz, rfl⟩ := List.mem_map.mp hb
  have h1 := h z.1 (by
    have := List.mem_zipIdx_iff_getElem?.mp (show (z.1, z.2) ∈ w.zipIdx from hz)
    exact List.mem_of_getElem? this)
  split <;> omega
theorem flW_inj {ps : List Nat} {w u : List Int} (e : flW ps w = flW ps u) : w = u := by
  have hl : w.length = u.length := by rw [← flW_len ps w, e, flW_len]
  refine List.ext_getElem hl fun i h1 h2 => ?_
  have a : (flW ps w)[i]'(by simpa using h1) = (flW ps u)[i]'(by simpa using h2) := by simp only [e]
  simp only [flW, List.getElem_map, List.getElem_zipIdx, Nat.zero_add] at a
  split at a <;> omega
theorem OkW.fl {m : Nat} {ws : List (List Int)} (W : OkW m ws) (ps : List Nat) : OkW m (ws.map (flW ps)) :=
  W.map _ (fun w _ => flW_len ps w) (fun w hw => flW_bits (W.bits w hw)) fun w _ u _ e => flW_inj e
theorem in_places (i : Nat) (ps : List Nat) (f : Bool → Bool) (B : Bs) : fInD f (.int (i : Nat)) (.tup (nD ps)) B = .ok (.bool (f (decide (i ∈ ps)))) B := by
  have s := shp_nD ps
  have s1 := shp_int (i : Int)
  have e := inD_nD i ps
  simp only [fInD, fInG, s, s1, e]; rfl
theorem rng_w (w : List Int) : rngD 0 w.length = w.zipIdx.map fun z => D.int (z.2 : Nat) := by
  refine List.ext_getElem? fun i => ?_
  simp only [rngD, List.getElem?_map, List.getElem?_zipIdx]
  by_cases h : i < w.length
  · simp [h]
  · simp [h]
theorem flipped_words_ok {m : Nat} {ws : List (List Int)} (W : OkW m ws) {ps : List Nat} (B : Bs) : f__law_flipped_words [wsD ws, .tup (nD ps)] B = .ok (wsD (ws.map (flW ps))) B := by
  have hs : ws.length ≤ sizeLine := Nat.le_trans (Nat.le_trans W.n16 (by decide)) size_big
  have a1 := mLc_map (vs := [2]) (i := 2) (mi := mItems (mVar 0)) (me := (m1 fTupO (mLc [3] (gN 3) (mRng1 (m1 fLen (mVar 2))) mYes (mIte (mCmpT (fInD fun b => b) (mVar 3) (mVar 1)) (mBin fSub (mC (.int 1)) (mBin fIx (mVar 2) (mVar 3))) (mBin fIx (mVar 2) (mVar 3))))))
    (σ := [some (false, wsD ws), some (false, .tup (nD ps)), none, none]) (B := B) (ds := ws.map wD) wD (fun w => wD (flW ps w)) ws (by simp) rfl hs (fun w hw => by
      have hw5 := wl_ok W hw
      have e4 : rngB (w.length : Int) = true := by simp [rngB]; omega
      have b1 := mLc_map (vs := [3]) (i := 3) (mi := mRng1 (m1 fLen (mVar 2))) (me := mIte (mCmpT (fInD fun b => b) (mVar 3) (mVar 1)) (mBin fSub (mC (.int 1)) (mBin fIx (mVar 2) (mVar 3))) (mBin fIx (mVar 2) (mVar 3))) (σ := [some (false, wsD ws), some (false, .tup (nD ps)), some (false, wD w), none]) (B := B)
        (ds := rngD 0 w.length) (fun z => .int (z.2 : Nat)) (fun z => D.int (if z.2 ∈ ps then 1 - z.1 else z.1)) w.zipIdx (by simp [e4]) (rng_w w) (Nat.le_trans (show _ ≤ 1000000 by simp; omega) size_big) (fun z hz => by
          have hg := List.mem_zipIdx_iff_getElem?.mp (show (z.1, z.2) ∈ w.zipIdx from hz)
          obtain ⟨g1, g2⟩ := List.getElem?_eq_some_iff.mp hg
          have x1 : fIx (wD w) (.int (z.2 : Nat)) B = .ok (.int z.1) B := by simp [fIx, atI, ixN, g1, g2]
          by_cases h : z.2 ∈ ps <;> simp [wipeI, in_places, h, x1])
      simp [wipeI, b1])
  have a2 : ws.map (fun w => wD (flW ps w)) = (ws.map (flW ps)).map wD := by simp
  rw [a2] at a1
  simp [f__law_flipped_words, m__law_flipped_words, a1, -List.map_map]
end Hk

set_option Elab.async false
set_option linter.all false
set_option maxRecDepth 100000
namespace Hk
open PySem PySem.Spec PyProof.Rows L2 Hf

/-! ### drawn words -/
theorem perm_map_inv {α β : Type} (f : α → β) {xs es : List β} (h : xs.Perm es) : ∀ {l : List α}, xs = l.map f → ∃ l' : List α, es = l'.map f ∧ l'.Perm l := by
  induction h with
  | nil => intro l e; have : l = [] := by simpa using e.symm
           subst this; exact ⟨[], rfl, .refl _⟩
  | cons x _ ih =>
    intro l e
    cases l with
    | nil => simp at e
    | cons y l =>
      simp at e
      obtain ⟨l', e1, p⟩ := ih e.2
      exact ⟨y :: l', by simp [e.1, e1], p.cons y⟩
  | swap x y l0 =>
    intro l e
    match l, e with
    | a :: b :: l, e =>
      simp at e
      exact ⟨b :: a :: l, by simp [e.1, e.2.1, e.2.2], List.Perm.swap _ _ _⟩
  | trans _ _ ih1 ih2 =>
    intro l e
    obtain ⟨l1, e1, p1⟩ := ih1 e
    obtain ⟨l2, e2, p2⟩ := ih2 e1
    exact ⟨l2, e2, p2.trans p1⟩
def ones (n : Nat) : List Int := List.replicate n 1
def zros (n : Nat) : List Int := List.replicate n 0
def twW (n : Nat) : List (List Int) := ((List.range n).map fun i => zros (n - i) ++ ones i) ++ (List.range n).map fun i => ones (n - i) ++ zros i
def loW (n : Nat) : List (List Int) := (List.range n).map fun i => zros i ++ [1] ++ zros (n - 1 - i)
def miW : Nat → List (List Int)
  | 0 => [[0], [1]]
  | n + 1 => ((miW n).map fun w => 0 :: w) ++ (miW n).reverse.map fun w => 1 :: w
def alW : Nat → List (List Int)
  | 0 => [[]]
  | n + 1 => (alW n).flatMap fun w => [w ++ [0], w ++ [1]]
theorem five {m : Nat} (h1 : 1 ≤ m) (h5 : m ≤ 5) : m = 1 ∨ m = 2 ∨ m = 3 ∨ m = 4 ∨ m = 5 := by omega
def okB (m : Nat) (ws : List (List Int)) : Bool := decide (2 ≤ ws.length) && decide (ws.length ≤ 16) && decide (1 ≤ m) && decide (m ≤ 5) && ws.all (fun w => decide (w.length = m) && w.all fun b => decide (b = 0) || decide (b = 1)) && decide ws.Nodup
theorem okB_ok {m : Nat} {ws : List (List Int)} (h : okB m ws = true) : OkW m ws := by
  simp only [okB, Bool.and_eq_true, decide_eq_true_eq, List.all_eq_true, Bool.or_eq_true] at h
  obtain ⟨⟨⟨⟨⟨h1, h2⟩, h3⟩, h4⟩, h5⟩, h6⟩ := h
  exact ⟨h1, h2, h3, h4, fun w hw => (h5 w hw).1, fun w hw b hb => (h5 w hw).2 b hb, h6⟩
theorem twisted_ok {m : Nat} (h1 : 1 ≤ m) (h5 : m ≤ 5) (B : Bs) : f__law_twisted [.int m] B = .ok (.lst ((twW m).map wD)) B ∧ OkW m (twW m) := by
  rcases five h1 h5 with rfl | rfl | rfl | rfl | rfl <;> exact ⟨rfl, okB_ok (by decide +kernel)⟩
theorem lone_ok {m : Nat} (h1 : 2 ≤ m) (h5 : m ≤ 5) (B : Bs) : f__law_lone [.int m] B = .ok (.lst ((loW m).map wD)) B ∧ OkW m (loW m) := by
  rcases five (by omega) h5 with rfl | rfl | rfl | rfl | rfl
  · omega
  all_goals exact ⟨rfl, okB_ok (by decide +kernel)⟩
theorem mirror_ok {m : Nat} (h1 : 1 ≤ m) (h5 : m ≤ 4) (B : Bs) : f__law_mirror [.int m] B = .ok (.lst ((miW (m - 1)).map wD)) B ∧ OkW m (miW (m - 1)) := by
  rcases five h1 (by omega) with rfl | rfl | rfl | rfl | rfl
  iterate 4 exact ⟨rfl, okB_ok (by decide +kernel)⟩
  omega
structure AlW (m : Nat) (ws : List (List Int)) : Prop where
  wid : ∀ w ∈ ws, w.length = m
  bits : ∀ w ∈ ws, ∀ b ∈ w, b = 0 ∨ b = 1
  nd : ws.Nodup
def alB (m : Nat) (ws : List (List Int)) : Bool := ws.all (fun w => decide (w.length = m) && w.all fun b => decide (b = 0) || decide (b = 1)) && decide ws.Nodup
theorem alB_ok {m : Nat} {ws : List (List Int)} (h : alB m ws = true) : AlW m ws := by
  simp only [alB, Bool.and_eq_true, decide_eq_true_eq, List.all_eq_true, Bool.or_eq_true] at h
  exact ⟨fun w hw => (h.1 w hw).1, fun w hw b hb => (h.1 w hw).2 b hb, h.2⟩
theorem all_ok {m : Nat} (h1 : 1 ≤ m) (h5 : m ≤ 5) (B : Bs) : f__law_all [.int m] B = .ok (.lst ((alW m).map wD)) B ∧ AlW m (alW m) ∧ (alW m).length = 2 ^ m := by
  rcases five h1 h5 with rfl | rfl | rfl | rfl | rfl <;> exact ⟨rfl, alB_ok (by decide +kernel), rfl⟩
/-- a prefix of all words in a drawn order -/
theorem AlW.some {m : Nat} {ws us : List (List Int)} (A : AlW m ws) (h1 : 1 ≤ m) (h5 : m ≤ 5) (p : us.Perm ws) {k : Nat} (k2 : 2 ≤ k) (k16 : k ≤ 16) (kl : k ≤ us.length) : OkW m (us.take k) :=
  ⟨by simp; omega, by simp; omega, h1, h5, fun w h => A.wid w (p.mem_iff.mp (List.mem_of_mem_take h)), fun w h => A.bits w (p.mem_iff.mp (List.mem_of_mem_take h)), (List.take_sublist k us).nodup (p.nodup_iff.mpr A.nd)⟩

/-! ### columns named, bits exchanged -/
abbrev cxW (o : List Nat) (fl : List Int) (m : Nat) (w : List Int) : List Int := (List.range m).map fun i => (w[o[i]!]! + fl[i]!) % 2
theorem bit_mod {a b f : Int} (ha : a = 0 ∨ a = 1) (hb : b = 0 ∨ b = 1) (e : (a + f) % 2 = (b + f) % 2) : a = b := by omega
theorem OkW.cx {m : Nat} {ws : List (List Int)} (W : OkW m ws) {o : List Nat} (h : o.Perm (List.range m)) (fl : List Int) : OkW m (ws.map (cxW o fl m)) := by
  have hl : o.length = m := by simpa using h.length_eq
  refine W.map _ (fun w hw => by simp [W.wid w hw]) (fun w hw b hb => by
    obtain ⟨i, _, rfl⟩ := List.mem_map.mp hb
    omega) fun w hw u hu e => ?_
  have e1 := W.wid w hw
  have e2 := W.wid u hu
  refine List.ext_getElem (by omega) fun j h1 h2 => ?_
  obtain ⟨i, hi, hj⟩ := List.getElem_of_mem (h.mem_iff.mpr (by simp; omega : j ∈ List.range m))
  have hi2 : i < m := by omega
  have a : (cxW o fl m w)[i]'(by simpa using hi2) = (cxW o fl m u)[i]'(by simpa using hi2) := by simp only [e]
  simp only [cxW, List.getElem_map, List.getElem_range] at a
  rw [getElem!_pos o i hi, hj, getElem!_pos w j h1, getElem!_pos u j h2] at a
  exact bit_mod (W.bits w hw _ (List.getElem_mem h1)) (W.bits u hu _ (List.getElem_mem h2)) a
/-- draws in a row -/
theorem draws_ok {B : Bs} {n : Nat} {vs : List Nat} {σ : Sl} {m : Nat} {i : Nat} {mi : Ei} {ds : List D} (P : PenOk B n) (hi : mi σ B = .ok ds B) (hd : ds.length = m) (hm : m ≤ 1000)
    (h0 : ∀ d, ((wipeI σ vs).set i (some (false, d)))[0]? = some (some (false, .box n))) : ∃ (fl : List Int) (B' : Bs), mLc vs (gN i) mi mYes (mCall f__law_draw [] (mCons (mVar 0) (mCons (mC (.int 2)) mNil))) σ B = .ok (.lst (fl.map D.int)) B' ∧ fl.length = m ∧ PenOk B' n := by
  obtain ⟨es, B', h1, ⟨h2, fl, h3⟩, h4⟩ := mLc_inv (vs := vs) (i := i) (mi := mi) (me := mCall f__law_draw [] (mCons (mVar 0) (mCons (mC (.int 2)) mNil))) (σ := σ) (B := B) (ds := ds) (fun B acc => PenOk B n ∧ ∃ fl : List Int, acc = fl.map D.int)
    hi (Nat.le_trans (by omega) size_big) ⟨P, [], rfl⟩ (by
      rintro d hd B acc hlt ⟨P, fl, rfl⟩
      obtain ⟨v, B1, e1, _, _, S⟩ := law_draw_ok (k := 2) P (by omega) (by omega)
      refine ⟨.int v, B1, ?_, S.ok, fl ++ [v], by simp⟩
      have := h0 d
      simp [this, e1])
  subst h3
  exact ⟨fl, B', h1, by simpa [hd] using h4, h2⟩
end Hk

set_option Elab.async false
set_option linter.all false
set_option maxRecDepth 100000
namespace Hk
open PySem PySem.Spec PyProof.Rows L2 Hf

/-! ### the words of a drawn code -/
def mWa : Ms := (mAsg (gT (gsC (gN 2) (gsC (gN 3) gs0))) (mTup (mCons (mBin fAdd (mC (.int 1)) (mCall f__law_draw [] (mCons (mVar 0) (mCons (mVar 1) mNil)))) (mCons (mCall f__law_draw [] (mCons (mVar 0) (mCons (mC (.int 6)) mNil))) mNil))))
def mWb : Ms := (mIf (mCmpT fEq (mVar 3) (mC (.int 0))) (mSet 4 (mCall f__law_twisted [] (mCons (mVar 2) mNil))) (mIf (mCmpT fEq (mVar 3) (mC (.int 1))) (mSet 4 (mCall f__law_mirror [] (mCons (mBin fMin2 (mC (.int 4)) (mVar 2)) mNil))) (mIf (mCmpT fEq (mVar 3) (mC (.int 2))) (mSet 4 (mCall f__law_lone [] (mCons (mBin fMax2 (mC (.int 2)) (mVar 2)) mNil))) (mSeq (mSet 5 (mCall f__law_mixed [] (mCons (mVar 0) (mCons (mCall f__law_all [] (mCons (mVar 2) mNil)) mNil))))
  (mSet 4 (mSl01 (mVar 5) (mBin fAdd (mC (.int 2)) (mCall f__law_draw [] (mCons (mVar 0) (mCons (mBin fSub (mBin fMin2 (mC (.int 16)) (m1 fLen (mVar 5))) (mC (.int 1))) mNil))))))))))
def mWc : Ms := (mSeq (mSet 6 (m1 fLen (mBin fIx (mVar 4) (mC (.int 0)))))
  (mSeq (mAsg (gT (gsC (gN 7) (gsC (gN 8) (gsC (gN 9) gs0)))) (mTup (mCons (mCall f__law_mixed [] (mCons (mVar 0) (mCons (m1 (fRg1 D.lst) (mVar 6)) mNil))) (mCons (mLc [10] (gN 10) (mRng1 (mVar 6)) mYes (mCall f__law_draw [] (mCons (mVar 0) (mCons (mC (.int 2)) mNil)))) (mCons (mCall f__law_draw [] (mCons (mVar 0) (mCons (mC (.int 16)) mNil))) mNil)))))
  (mSeq (mSet 4 (mLc [11] (gN 11) (mItems (mVar 4)) mYes (m1 fTupO (mLc [10] (gN 10) (mRng1 (mVar 6)) mYes (mBin fMod (mBin fAdd (mBin fIx (mVar 11) (mBin fIx (mVar 7) (mVar 10))) (mBin fIx (mVar 8) (mVar 10))) (mC (.int 2)))))))
  (mSeq (mSet 9 (mBin fMod (mVar 9) (m1 fLen (mVar 4))))
  (mRet (m1 fTupO (mBin fAdd (mSl10 (mVar 4) (mVar 9)) (mSl01 (mVar 4) (mVar 9)))))))))

theorem mW_eq : m__law_words = mSeq mWa (mSeq mWb mWc) := rfl
theorem mWb_ok {B : Bs} {n m : Nat} {most v : Int} (P : PenOk B n) (h1 : 1 ≤ m) (h5 : m ≤ 5) :
    ∃ fs mw x B', mWb [some (false, .box n), some (false, .int most), some (false, .int m), some (false, .int v), none, none, none, none, none, none, none, none] B
      = .next [some (false, .box n), some (false, .int most), some (false, .int m), some (false, .int v), some (false, .lst (fs.map wD)), x, none, none, none, none, none, none] B' ∧ OkW mw fs ∧ PenOk B' n := by
  by_cases v0 : v = 0
  · obtain ⟨e, W⟩ := twisted_ok h1 h5 B
    exact ⟨_, _, _, _, by simp [mWb, v0, e]; rfl, W, P⟩
  by_cases v1 : v = 1
  · have e4 : (if (m : Int) < 4 then (m : Int) else 4) = ((min m 4 : Nat) : Int) := by split <;> omega
    obtain ⟨e, W⟩ := mirror_ok (m := min m 4) (by omega) (by omega) B
    exact ⟨_, _, _, _, by simp [mWb, v1, e4, e]; rfl, W, P⟩
  by_cases v2 : v = 2
  · have e4 : (if (m : Int) > 2 then (m : Int) else 2) = ((max m 2 : Nat) : Int) := by split <;> omega
    obtain ⟨e, W⟩ := lone_ok (m := max m 2) (by omega) (by omega) B
    simp only [gt_iff_lt] at e4
    exact ⟨_, _, _, _, by simp [mWb, v2, e4, e]; rfl, W, P⟩
  obtain ⟨e, A, l⟩ := all_ok h1 h5 B
  have l32 : 2 ^ m ≤ 32 := Nat.pow_le_pow_right (by omega) h5
  have l2 : 2 ^ 1 ≤ 2 ^ m := Nat.pow_le_pow_right (by omega) h1
  obtain ⟨es, B1, e1, p, P1⟩ := law_mixed_ok (ds := (alW m).map wD) P (by simp; omega)
  obtain ⟨us, rfl, q⟩ := perm_map_inv wD p.symm rfl
  have ul : us.length = 2 ^ m := by rw [q.length_eq, l]
  have e4 : (if (us.length : Int) < 16 then (us.length : Int) else 16) = ((min us.length 16 : Nat) : Int) := by split <;> omega
  obtain ⟨k, B2, e2, k0, k1, S⟩ := law_draw_ok (k := ((min us.length 16 : Nat) : Int) - 1) P1 (by omega) (by omega)
  have ek : (2 : Int) + k = ((2 + k.toNat : Nat) : Int) := by omega
  have c := cut_hi (us.map wD) (2 + k.toNat)
  refine ⟨us.take (2 + k.toNat), m, some (false, .lst (us.map wD)), B2, ?_, A.some h1 h5 q (by omega) (by omega) (by omega), S.ok⟩
  simp only [← ek] at c
  simp [mWb, v0, v1, v2, e, e1, e4, e2, fSl, c]
end Hk

set_option Elab.async false
set_option linter.all false
set_option maxRecDepth 100000
namespace Hk
open PySem PySem.Spec PyProof.Rows L2 Hf

theorem order_ok {B : Bs} {n m : Nat} (P : PenOk B n) (h5 : m ≤ 5) : ∃ (o : List Nat) (B' : Bs), f__law_mixed [.box n, .lst (rngD 0 m)] B = .ok (.lst (nD o)) B' ∧ o.Perm (List.range m) ∧ PenOk B' n := by
  obtain ⟨es, B1, e1, p, P1⟩ := law_mixed_ok (ds := rngD 0 m) P (by simp [rngD]; omega)
  obtain ⟨o, rfl, q⟩ := perm_rng p
  exact ⟨o, B1, e1, q, P1⟩
theorem lstRg {m : Nat} (h5 : m ≤ 5) (B : Bs) : fRg1 D.lst (.int m) B = .ok (.lst (rngD 0 m)) B := by
  have : rgOk 0 (m : Int) = true := by simp [rgOk]; omega
  simp [fRg1, this]
theorem cx_ok {m : Nat} {ws : List (List Int)} (W : OkW m ws) {o : List Nat} (h : o.Perm (List.range m)) {fl : List Int} (hf : fl.length = m) (a b c d e f : Option (Bool × D)) (B : Bs) :
    mLc [11] (gN 11) (mItems (mVar 4)) mYes (m1 fTupO (mLc [10] (gN 10) (mRng1 (mVar 6)) mYes (mBin fMod (mBin fAdd (mBin fIx (mVar 11) (mBin fIx (mVar 7) (mVar 10))) (mBin fIx (mVar 8) (mVar 10))) (mC (.int 2)))))
      [a, b, c, d, some (false, .lst (ws.map wD)), e, some (false, .int m), some (false, .lst (nD o)), some (false, .lst (fl.map D.int)), f, none, none] B = .ok (.lst ((ws.map (cxW o fl m)).map wD)) B := by
  have hs : ws.length ≤ sizeLine := Nat.le_trans (Nat.le_trans W.n16 (by decide)) size_big
  have h5 := W.m5
  have hl : o.length = m := by simpa using h.length_eq
  have e4 : rngB (m : Int) = true := by simp [rngB]; omega
  rw [List.map_map]
  refine mLc_map wD (wD ∘ cxW o fl m) ws (ds := ws.map wD) (by simp) rfl hs fun w hw => ?_
  have hw' := W.wid w hw
  have b1 := mLc_map (vs := [10]) (i := 10) (mi := mRng1 (mVar 6)) (me := mBin fMod (mBin fAdd (mBin fIx (mVar 11) (mBin fIx (mVar 7) (mVar 10))) (mBin fIx (mVar 8) (mVar 10))) (mC (.int 2)))
    (σ := [a, b, c, d, some (false, .lst (ws.map wD)), e, some (false, .int m), some (false, .lst (nD o)), some (false, .lst (fl.map D.int)), f, none, some (false, wD w)]) (B := B) (ds := rngD 0 m) (fun i : Nat => D.int i) (fun i => D.int ((w[o[i]!]! + fl[i]!) % 2)) (List.range m)
    (by simp [e4]) (rng_nD m) (Nat.le_trans (by simp; omega) size_big) (fun i hi => by
      have hi : i < m := by simpa using hi
      have ho : i < o.length := by omega
      have h1 : o[i] < m := by simpa using h.mem_iff.mp (List.getElem_mem ho)
      have x1 : fIx (.lst (nD o)) (.int (i : Nat)) B = .ok (.int (o[i] : Nat)) B := by simp [fIx, atI, ixN, ho, nD]
      have x2 : fIx (wD w) (.int (o[i] : Nat)) B = .ok (.int (w[o[i]]'(by omega))) B := by simp [fIx, atI, ixN, hw', h1]
      have x3 : fIx (.lst (fl.map D.int)) (.int (i : Nat)) B = .ok (.int (fl[i]'(by omega))) B := by simp [fIx, atI, ixN, hf, hi]
      rw [getElem!_pos o i ho, getElem!_pos w o[i] (by omega), getElem!_pos fl i (by omega)]
      simp [wipeI, x1, x2, x3, z_fMod])
  simp [wipeI, b1]
theorem mWc_ok {B : Bs} {n m : Nat} {ws : List (List Int)} (W : OkW m ws) (P : PenOk B n) (b c d e : Option (Bool × D)) :
    ∃ us B', mWc [some (false, .box n), b, c, d, some (false, .lst (ws.map wD)), e, none, none, none, none, none, none] B = .ret (wsD us) B' ∧ OkW m us ∧ PenOk B' n := by
  have h5 := W.m5
  have h2 := W.n2
  have h16 := W.n16
  have e4 : rngB (m : Int) = true := by simp [rngB]; omega
  have x0 : ∀ B, fIx (.lst (ws.map wD)) (.int 0) B = .ok (wD (ws[0]'(by omega))) B := fun B => by
    have : 0 < ws.length := by omega
    simp [fIx, atI, ixN, this]
  have w0 : (ws[0]'(by omega)).length = m := W.wid _ (List.getElem_mem _)
  obtain ⟨o, B1, e1, p, P1⟩ := order_ok P h5
  obtain ⟨fl, B2, e2, f2, P2⟩ := draws_ok (vs := [10]) (i := 10) (mi := mRng1 (mVar 6)) (m := m) (ds := rngD 0 m)
    (σ := [some (false, .box n), b, c, d, some (false, .lst (ws.map wD)), e, some (false, .int m), none, none, none, none, none]) P1 (by simp [e4]) (by simp [rngD]) (by omega) (fun d => by simp [wipeI])
  obtain ⟨v, B3, e3, v0, v1, S⟩ := law_draw_ok (k := 16) P2 (by omega) (by omega)
  have W2 := W.cx p fl
  have c1 := cx_ok W p f2 (some (false, .box n)) b c d e (some (false, .int v)) B3
  have l2 : (ws.map (cxW o fl m)).length = ws.length := by simp
  generalize ws.map (cxW o fl m) = us at W2 c1 l2
  obtain ⟨k, hk⟩ : ∃ k : Nat, v % (us.length : Int) = (k : Int) := ⟨(v % (us.length : Int)).toNat, by
    have := Int.emod_nonneg v (show (us.length : Int) ≠ 0 by omega)
    omega⟩
  have a1 := add_lst (a := (us.map wD).drop k) (b := (us.map wD).take k) (by simp; omega) B3
  have m1 : fMod (.int v) (.int (us.length : Int)) B3 = .ok (.int (k : Int)) B3 := by rw [z_fMod _ _ _ (by omega), hk]
  refine ⟨turnW us k, B3, ?_, W2.perm (turn_perm us k), S.ok⟩
  simp [mWc, x0, w0, lstRg h5, e1, e2, e3, szL, c1, m1, fSl, cut_lo, cut_hi, a1]
theorem law_words_ok {B : Bs} {n : Nat} {most : Int} (P : PenOk B n) (h1 : 1 ≤ most) (h5 : most ≤ 5) : ∃ m ws B', f__law_words [.box n, .int most] B = .ok (wsD ws) B' ∧ OkW m ws ∧ PenOk B' n := by
  obtain ⟨v, B1, e1, v0, v1, S1⟩ := law_draw_ok (k := most) P (by omega) (by omega)
  obtain ⟨u, B2, e2, u0, u1, S2⟩ := law_draw_ok (k := 6) S1.ok (by omega) (by omega)
  have em : (1 : Int) + v = ((1 + v.toNat : Nat) : Int) := by omega
  obtain ⟨fs, mw, x, B3, e3, W, P3⟩ := mWb_ok (most := most) (m := 1 + v.toNat) (v := u) S2.ok (by omega) (by omega)
  obtain ⟨us, B4, e4, W4, P4⟩ := mWc_ok W P3 (some (false, .int most)) (some (false, .int ((1 + v.toNat : Nat) : Int))) (some (false, .int u)) x
  refine ⟨mw, us, B4, ?_, W4, P4⟩
  rw [← em] at e3 e4
  simp [f__law_words, mW_eq, mWa, e1, e2, szL]
  rw [e3]
  simp only [z_seq_next]
  rw [e4]; rfl
end Hk

set_option Elab.async false
set_option linter.all false
set_option maxRecDepth 100000
namespace Hk
open PySem PySem.Spec PyProof.Rows L2 Hf

/-! ### comprehensions with a test -/
theorem lcL_filter {α : Type} {t : Tg} {mt : Et} {me : Ev} {σ : Sl} {B : Bs} (F : α → D) (p : α → Bool) (G : α → D) : (xs : List α) → (h : ∀ x ∈ xs, ∃ σ', t (F x) σ = some σ' ∧ mt σ' B = .ok (p x) B ∧ (p x = true → me σ' B = .ok (G x) B)) →
    lcL t mt me σ (xs.map F) B = .ok ((xs.filter p).map G) B
  | [], _ => rfl
  | x :: xs, h => by
    obtain ⟨σ', h1, h2, h3⟩ := h x (List.mem_cons_self ..)
    have ih := lcL_filter (t := t) (mt := mt) (me := me) (σ := σ) (B := B) F p G xs fun y hy => h y (List.mem_cons_of_mem _ hy)
    cases hp : p x with
    | true => simp [lcL, h1, h2, h3 hp, hp, ih]
    | false => simp [lcL, h1, h2, hp, ih]
theorem mLc_filter {α : Type} {vs : List Nat} {i : Nat} {mi : Ei} {mt : Et} {me : Ev} {σ : Sl} {B : Bs} {ds : List D} (F : α → D) (p : α → Bool) (G : α → D) (xs : List α) (hi : mi σ B = .ok ds B) (hd : ds = xs.map F) (hl : xs.length ≤ sizeLine)
    (h : ∀ x ∈ xs, mt ((wipeI σ vs).set i (some (false, F x))) B = .ok (p x) B ∧ (p x = true → me ((wipeI σ vs).set i (some (false, F x))) B = .ok (G x) B)) : mLc vs (gN i) mi mt me σ B = .ok (.lst ((xs.filter p).map G)) B := by
  subst hd
  have := lcL_filter (t := gN i) (mt := mt) (me := me) (σ := wipeI σ vs) (B := B) F p G xs fun x hx => ⟨_, rfl, h x hx⟩
  have hs : (xs.filter p).length ≤ sizeLine := Nat.le_trans (List.length_filter_le ..) hl
  simp [mLc, hi, this, szL, hs]
/-! ### readings -/
abbrev col (W : List (List Int)) (p : Nat) : List Int := W.map fun w => w[p]!
/-- the law's own test of a word -/
abbrev gd (W : List (List Int)) (r : List Int) : Bool := (List.range r.length).all fun p => decide (r[p]! ∈ col W p)
end Hk

set_option Elab.async false
set_option linter.all false
set_option maxRecDepth 100000
namespace Hk
open PySem PySem.Spec PyProof.Rows L2 Hf

/-! ### what is the same of all laws: cells, a pen for each -/
theorem pen_made_ok (c : Int) (B : Bs) : ∃ B', f__law_pen [.int c] B = .ok (.box B.length) B' ∧ PenOk B' B.length := by
  have h0 := Int.emod_nonneg c (show (2147483629 : Int) ≠ 0 by decide)
  have h1 := Int.emod_lt_of_pos c (show (0 : Int) < 2147483629 by decide)
  refine ⟨B ++ [.lst [.int (if c - 10 ^ 18 > 0 then c - 10 ^ 18 else 0), .int (c % 2147483629 + 1), .int 0]], ?_, ⟨(if c - 10 ^ 18 > 0 then c - 10 ^ 18 else 0), c % 2147483629 + 1, 0, by simp, by omega, by omega⟩⟩
  have e : fPow (.int 10) (.int 18) B = .ok (.int (10 ^ 18)) B := rfl
  simp [f__law_pen, m__law_pen, e, mBox, szL, z_fMod]
theorem cell_at_ok (ns : List Int) (k : Nat) (B : Bs) : ∃ c, f__law_cell_at [.scr (ns.map D.int), .int k] B = .ok (.int c) B := by
  by_cases h : k < ns.length
  · refine ⟨ns[k], ?_⟩
    have : (k : Int) < (ns.length : Int) := by omega
    simp [f__law_cell_at, m__law_cell_at, fIx, atI, ixN, h]
  · refine ⟨0, ?_⟩
    have : ¬ (k : Int) < (ns.length : Int) := by omega
    simp [f__law_cell_at, m__law_cell_at, h]
theorem law_outer (inner : Ms) (c N : Nat) (hc : 1 ≤ c ∧ c ≤ 100) (ns : List Int)
    (h : ∀ (n k : Nat) (B : Bs) (r : Sl), r.length = N → PenOk B n → ∃ r' B', r'.length = N ∧ inner (some (false, .scr (ns.map D.int)) :: some (false, .int k) :: some (false, .box n) :: r) B = .next (some (false, .scr (ns.map D.int)) :: some (false, .int k) :: some (false, .box n) :: r') B') (r : Sl) (hr : r.length = N) (B : Bs) :
    ∃ B', (mSeq (mFor (gN 1) (mRng1 (mBin fMax2 (mC (.int 1)) (mBin fMin2 (m1 fLen (mVar 0)) (mC (.int c))))) (mSeq (mSet 2 (mCall f__law_pen [] (mCons (mCall f__law_cell_at [] (mCons (mVar 0) (mCons (mVar 1) mNil))) mNil))) inner)) (mRet (mC (.bool true)))
      (some (false, .scr (ns.map D.int)) :: none :: none :: r) B) = .ret (.bool true) B' := by
  obtain ⟨K, hK⟩ : ∃ K : Nat, (if (if (c : Int) < (ns.length : Int) then (c : Int) else (ns.length : Int)) > 1 then (if (c : Int) < (ns.length : Int) then (c : Int) else (ns.length : Int)) else 1) = (K : Int) ∧ K ≤ 100 :=
    ⟨(if (if (c : Int) < (ns.length : Int) then (c : Int) else (ns.length : Int)) > 1 then (if (c : Int) < (ns.length : Int) then (c : Int) else (ns.length : Int)) else 1).toNat, by split <;> split <;> omega, by split <;> split <;> omega⟩
  obtain ⟨σ', B', e, a, b, r', _, rfl⟩ := forL_inv (t := gN 1) (b := mSeq (mSet 2 (mCall f__law_pen [] (mCons (mCall f__law_cell_at [] (mCons (mVar 0) (mCons (mVar 1) mNil))) mNil))) inner)
    (fun _ σ _ => ∃ a b r, r.length = N ∧ σ = some (false, .scr (ns.map D.int)) :: a :: b :: r) (rngD 0 K) 0 (some (false, .scr (ns.map D.int)) :: none :: none :: r) B (by
      rintro i d σ B hd ⟨a, b, r, hr, rfl⟩
      obtain ⟨rfl, _⟩ := rngD_get hd
      obtain ⟨x, e1⟩ := cell_at_ok ns i B
      obtain ⟨B1, e2, P1⟩ := pen_made_ok x B
      obtain ⟨r', B2, hr', e3⟩ := h B.length i B1 r hr P1
      refine ⟨_, rfl, some (false, .scr (ns.map D.int)) :: some (false, .int i) :: some (false, .box B.length) :: r', B2, ?_, _, _, r', hr', rfl⟩
      simp [e1, e2]
      exact e3) ⟨none, none, r, hr, rfl⟩
  have r4 : rngB (K : Int) = true := by simp [rngB]; omega
  refine ⟨B', ?_⟩
  have s1 : mRng1 (mBin fMax2 (mC (.int 1)) (mBin fMin2 (m1 fLen (mVar 0)) (mC (.int c)))) (some (false, .scr (ns.map D.int)) :: none :: none :: r) B = .ok (rngD 0 K) B := by
    have l : ((ns.map D.int).length : Int) = (ns.length : Int) := by simp
    simp only [z_mRng1, z_mBin, z_mC, z_m1, z_mVar, List.getElem?_cons_zero, z_bind_ok, z_lenS, z_fMin2, z_fMax2, z_asI, l, hK.1, r4, if_true, Int.toNat_natCast]
  simp only [z_mSeq, mFor, s1, z_st_ok, e, z_seq_next, z_mRet, z_mC]
end Hk

set_option Elab.async false
set_option linter.all false
set_option maxRecDepth 100000
namespace Hk
open PySem PySem.Spec PyProof.Rows L2 Hf

/-! ### k05: how words come of others, the plain part -/
/-- all orders of so many numbers, ascending -/
def ordL (m : Nat) : Nat → List (List Nat)
  | 0 => [[]]
  | k + 1 => (ordL m k).flatMap fun o => ((List.range m).filter fun i => decide (i ∉ o)).map fun i => o ++ [i]
def ordW (m : Nat) : List (List Nat) := ordL m m
theorem ord_chk : ∀ m : Fin 6, (ordW m).all (fun o => o.isPerm (List.range m)) = true := by decide +kernel
theorem ord_perm {m : Nat} (h5 : m ≤ 5) {o : List Nat} (h : o ∈ ordW m) : o.Perm (List.range m) := by
  have := ord_chk ⟨m, by omega⟩
  exact List.isPerm_iff.mp (List.all_eq_true.mp this o h)
/-- the places of an order -/
def bkW (m : Nat) (o : List Nat) : List Nat := (List.range m).map fun i => o.idxOf i
theorem mem_perm {m : Nat} {o : List Nat} (h : o.Perm (List.range m)) {i : Nat} : i ∈ o ↔ i < m := by rw [h.mem_iff, List.mem_range]
theorem perm_len {m : Nat} {o : List Nat} (h : o.Perm (List.range m)) : o.length = m := by simpa using h.length_eq
theorem perm_nd {m : Nat} {o : List Nat} (h : o.Perm (List.range m)) : o.Nodup := h.nodup_iff.mpr List.nodup_range
theorem bk_at {m : Nat} {o : List Nat} {i : Nat} (h : i < m) : (bkW m o)[i]? = some (o.idxOf i) := by simp [bkW, h]
theorem idx_at {o : List Nat} (nd : o.Nodup) {a : Nat} (h : a < o.length) : o.idxOf o[a] = a :=
  (List.getElem_inj nd).mp (List.getElem_idxOf (List.idxOf_lt_length_of_mem (List.getElem_mem h)))
theorem bk_perm {m : Nat} {o : List Nat} (h : o.Perm (List.range m)) : (bkW m o).Perm (List.range m) := by
  have nd : (bkW m o).Nodup := by
    unfold bkW
    refine nodup_map_on (fun x hx y hy e => ?_) List.nodup_range
    have hx' := (mem_perm h).mpr (List.mem_range.mp hx)
    have hy' := (mem_perm h).mpr (List.mem_range.mp hy)
    have a := List.getElem_idxOf (List.idxOf_lt_length_of_mem hx')
    have b := List.getElem_idxOf (List.idxOf_lt_length_of_mem hy')
    have e : o.idxOf x = o.idxOf y := e
    rw [← a, ← b]
    congr 1
  refine (List.perm_ext_iff_of_nodup nd List.nodup_range).mpr fun a => ⟨fun ha => ?_, fun ha => ?_⟩
  · obtain ⟨i, hi, rfl⟩ := List.mem_map.mp ha
    have := List.idxOf_lt_length_of_mem ((mem_perm h).mpr (List.mem_range.mp hi))
    rw [perm_len h] at this
    exact List.mem_range.mpr this
  · have ha := List.mem_range.mp ha
    have hl : a < o.length := by rw [perm_len h]; exact ha
    refine List.mem_map.mpr ⟨o[a], List.mem_range.mpr ((mem_perm h).mp (List.getElem_mem hl)), ?_⟩
    exact idx_at (perm_nd h) hl
/-- what a word holds by an order that is taken back -/
theorem un_at {m : Nat} {o : List Nat} (h : o.Perm (List.range m)) {u : List Int} (hu : u.length = m) {i : Nat} (hi : i < m) : (plW (bkW m o) u)[i]? = u[o[i]'(by rw [perm_len h]; exact hi)]? := by
  subst hu
  have hl : i < o.length := by rw [perm_len h]; exact hi
  have hoi : o[i] < u.length := (mem_perm h).mp (List.getElem_mem hl)
  have := plW_at (bk_perm h) o[i] hoi (by rw [perm_len (bk_perm h)]; exact hoi)
  have e : (bkW u.length o)[o[i]]'(by rw [perm_len (bk_perm h)]; exact hoi) = i := by
    have q := bk_at (o := o) hoi
    rw [List.getElem?_eq_getElem (by rw [perm_len (bk_perm h)]; exact hoi)] at q
    rw [Option.some.inj q]
    exact idx_at (perm_nd h) hl
  simp only [e] at this
  rw [this, List.getElem?_eq_getElem]
theorem un_pl {m : Nat} {o : List Nat} (h : o.Perm (List.range m)) {w : List Int} (hw : w.length = m) : plW (bkW m o) (plW o w) = w := by
  refine List.ext_getElem? fun i => ?_
  by_cases hi : i < m
  · have hl : i < o.length := by rw [perm_len h]; exact hi
    rw [un_at h (by rw [plW_len]; exact hw) hi]
    have p := h
    rw [← hw] at p
    rw [plW_at p i (by omega) hl, List.getElem?_eq_getElem]
  · rw [List.getElem?_eq_none (by rw [plW_len, plW_len]; omega), List.getElem?_eq_none (by omega)]
theorem pl_un {m : Nat} {o : List Nat} (h : o.Perm (List.range m)) {u : List Int} (hu : u.length = m) : plW o (plW (bkW m o) u) = u :=
  plW_inj (bk_perm h) (by rw [plW_len, plW_len]; exact hu) hu (by rw [un_pl h (by rw [plW_len]; exact hu)])
/-- the places at which two words differ -/
def mkW (m : Nat) (u w : List Int) : List Nat := (List.range m).filter fun i => decide (u[i]? ≠ w[i]?)
theorem mk_comm (m : Nat) (u w : List Int) : mkW m u w = mkW m w u := by
  unfold mkW
  refine List.filter_congr fun i _ => ?_
  simp only [ne_eq, decide_not, decide_eq_decide, eq_comm]
theorem mem_mk {m : Nat} {u w : List Int} {i : Nat} : i ∈ mkW m u w ↔ i < m ∧ u[i]? ≠ w[i]? := by simp [mkW]
theorem fl_at {ps : List Nat} {w : List Int} {i : Nat} (hi : i < w.length) : (flW ps w)[i]? = some (if i ∈ ps then 1 - w[i] else w[i]) := by
  simp [flW, hi]
theorem fl_iff {m : Nat} {u w : List Int} (hu : u.length = m) (hw : w.length = m) (bu : ∀ b ∈ u, b = 0 ∨ b = 1) (bw : ∀ b ∈ w, b = 0 ∨ b = 1) {a b : List Int} : flW (mkW m a b) w = u ↔ mkW m u w = mkW m a b := by
  constructor
  · intro e
    subst e
    show (List.range m).filter (fun i => decide ((flW (mkW m a b) w)[i]? ≠ w[i]?)) = (List.range m).filter (fun i => decide (a[i]? ≠ b[i]?))
    refine List.filter_congr fun i hi => ?_
    have hi := List.mem_range.mp hi
    rw [fl_at (by omega), List.getElem?_eq_getElem (show i < w.length by omega)]
    have hb := bw _ (List.getElem_mem (show i < w.length by omega))
    by_cases q : i ∈ mkW m a b
    · have := (mem_mk.mp q).2
      rw [if_pos q]
      simp only [ne_eq, Option.some.injEq]
      have : ¬ (1 - w[i] = w[i]) := by omega
      simp [this, *]
    · rw [if_neg q]
      have : a[i]? = b[i]? := Classical.byContradiction fun z => q (mem_mk.mpr ⟨hi, z⟩)
      simp [this]
  · intro e
    refine List.ext_getElem? fun i => ?_
    by_cases hi : i < m
    · rw [fl_at (by omega), ← e]
      have hb := bw _ (List.getElem_mem (show i < w.length by omega))
      have hc := bu _ (List.getElem_mem (show i < u.length by omega))
      rw [List.getElem?_eq_getElem (show i < u.length by omega)]
      by_cases q : i ∈ mkW m u w
      · have := (mem_mk.mp q).2
        rw [List.getElem?_eq_getElem (show i < u.length by omega), List.getElem?_eq_getElem (show i < w.length by omega)] at this
        rw [if_pos q]
        have : u[i] ≠ w[i] := fun z => this (by rw [z])
        congr 1
        omega
      · rw [if_neg q]
        have : u[i]? = w[i]? := Classical.byContradiction fun z => q (mem_mk.mpr ⟨hi, z⟩)
        rw [List.getElem?_eq_getElem (show i < u.length by omega), List.getElem?_eq_getElem (show i < w.length by omega)] at this
        rw [Option.some.inj this]
    · rw [List.getElem?_eq_none (by rw [flW_len]; omega), List.getElem?_eq_none (by omega)]
/-! turning and going backwards, of any lists -/
def tuG {α : Type} (l : List α) (k : Nat) : List α := l.drop k ++ l.take k
def baG {α : Type} : List α → List α
  | [] => []
  | a :: r => a :: r.reverse
theorem baG_baG {α : Type} (l : List α) : baG (baG l) = l := by cases l <;> simp [baG]
theorem baG_len {α : Type} (l : List α) : (baG l).length = l.length := by cases l <;> simp [baG]
theorem tuG_len {α : Type} (l : List α) (k : Nat) : (tuG l k).length = l.length := by simp [tuG]; omega
theorem baG_map {α β : Type} (f : α → β) (l : List α) : baG (l.map f) = (baG l).map f := by cases l <;> simp [baG]
theorem tuG_map {α β : Type} (f : α → β) (l : List α) (k : Nat) : tuG (l.map f) k = (tuG l k).map f := by simp [tuG]
theorem tu_tu {α : Type} {l : List α} {k : Nat} (h : k < l.length) : tuG (tuG l k) ((l.length - k) % l.length) = l := by
  by_cases z : k = 0
  · subst z
    simp [tuG]
  · rw [Nat.mod_eq_of_lt (by omega)]
    unfold tuG
    have h1 : (l.drop k).length = l.length - k := by simp
    rw [List.drop_append_of_le_length (by omega), List.take_append_of_le_length (by omega), ← h1, List.drop_length, List.take_length]
    simp
theorem tu_tu2 {α : Type} {l : List α} {k : Nat} (h : k < l.length) : tuG (tuG l ((l.length - k) % l.length)) k = l := by
  by_cases z : k = 0
  · subst z
    simp [tuG]
  · rw [Nat.mod_eq_of_lt (by omega)]
    have := tu_tu (l := l) (k := l.length - k) (by omega)
    rw [show (l.length - (l.length - k)) % l.length = k by rw [Nat.mod_eq_of_lt (by omega)]; omega] at this
    exact this
/-- what comes by a way and a beginning; the way back -/
def goG {α : Type} (wy : Bool) (b : Nat) (l : List α) : List α := tuG (if wy then baG l else l) b
def unG {α : Type} (wy : Bool) (b n : Nat) (l : List α) : List α := if wy then baG (tuG l ((n - b) % n)) else tuG l ((n - b) % n)
theorem go_un {α : Type} {wy : Bool} {b : Nat} {l : List α} (h : b < l.length) : goG wy b (unG wy b l.length l) = l := by
  cases wy
  · exact tu_tu2 h
  · show tuG (baG (baG (tuG l ((l.length - b) % l.length)))) b = l
    rw [baG_baG]
    exact tu_tu2 h
theorem un_go {α : Type} {wy : Bool} {b : Nat} {l : List α} (h : b < l.length) : unG wy b l.length (goG wy b l) = l := by
  cases wy
  · exact tu_tu h
  · show baG (tuG (tuG (baG l) b) ((l.length - b) % l.length)) = l
    have := tu_tu (l := baG l) (k := b) (by rw [baG_len]; exact h)
    rw [baG_len] at this
    rw [this, baG_baG]
theorem go_map {α β : Type} (f : α → β) (wy : Bool) (b : Nat) (l : List α) : goG wy b (l.map f) = (goG wy b l).map f := by
  cases wy
  · exact tuG_map f l b
  · show tuG (baG (l.map f)) b = _
    rw [baG_map, tuG_map]
    rfl
theorem go_len {α : Type} (wy : Bool) (b : Nat) (l : List α) : (goG wy b l).length = l.length := by
  cases wy
  · exact tuG_len l b
  · show (tuG (baG l) b).length = _
    rw [tuG_len, baG_len]
theorem un_len {α : Type} (wy : Bool) (b n : Nat) (l : List α) : (unG wy b n l).length = l.length := by
  cases wy
  · exact tuG_len l _
  · show (baG (tuG l _)).length = _
    rw [baG_len, tuG_len]
/-- the index of what comes first -/
theorem go_head {n : Nat} (wy : Bool) {b : Nat} (h : b < n) : ∃ k, k < n ∧ ∀ {α : Type} (l : List α), l.length = n → (goG wy b l)[0]? = l[k]? := by
  have hl : (goG wy b (List.range n)).length = n := by rw [go_len]; simp
  have h0 : 0 < (goG wy b (List.range n)).length := by omega
  have hm : (goG wy b (List.range n))[0] < n := by
    have : (goG wy b (List.range n))[0] ∈ List.range n := by
      have hx := List.getElem_mem h0
      generalize (goG wy b (List.range n))[0] = y at hx ⊢
      cases wy
      · have hx : y ∈ (List.range n).drop b ++ (List.range n).take b := hx
        rcases List.mem_append.mp hx with q | q
        · exact List.mem_of_mem_drop q
        · exact List.mem_of_mem_take q
      · have hx : y ∈ (baG (List.range n)).drop b ++ (baG (List.range n)).take b := hx
        have q : y ∈ baG (List.range n) := by
          rcases List.mem_append.mp hx with q | q
          · exact List.mem_of_mem_drop q
          · exact List.mem_of_mem_take q
        revert q
        cases List.range n with
        | nil => exact fun q => q
        | cons a r => simp [baG]
    exact List.mem_range.mp this
  refine ⟨(goG wy b (List.range n))[0], hm, fun {α} l hn => ?_⟩
  have e : l.map some = (List.range n).map fun i => l[i]? := by
    refine List.ext_getElem? fun i => ?_
    by_cases hi : i < n
    · rw [List.getElem?_map, List.getElem?_map, List.getElem?_range hi, List.getElem?_eq_getElem (by omega)]
      simp only [Option.map_some]
      rw [List.getElem?_eq_getElem (by omega)]
    · rw [List.getElem?_eq_none (by simp; omega), List.getElem?_eq_none (by simp; omega)]
  have g := congrArg (goG wy b) e
  rw [go_map, go_map] at g
  have g0 := congrArg (fun l => l[0]?) g
  simp only [List.getElem?_map] at g0
  rw [List.getElem?_eq_getElem h0] at g0
  have hg : 0 < (goG wy b l).length := by rw [go_len]; omega
  rw [List.getElem?_eq_getElem hg] at g0 ⊢
  simp only [Option.map_some] at g0
  exact Option.some.inj g0
end Hk

set_option Elab.async false
set_option linter.all false
set_option maxRecDepth 100000
namespace Hk
open PySem PySem.Spec PyProof.Rows L2 Hf

/-! ### k05: the program's search and the law's are one -/
/-- what the program finds by an order -/
def exW (m : Nat) (ws vs : List (List Int)) (o : List Nat) : Option (List Nat) :=
  if (ws.zip (vs.map (plW (bkW m o)))).all (fun z => decide (mkW m z.2 z.1 = mkW m ((vs.map (plW (bkW m o))).getD 0 []) (ws.getD 0 []))) then some (mkW m ((vs.map (plW (bkW m o))).getD 0 []) (ws.getD 0 [])) else none
/-- the places by the law -/
def spW (m : Nat) (a b : List Int) (o : List Nat) : List Nat := (List.range m).filter fun i => decide (a[o.getD i 0]? ≠ b[o.getD i 0]?)
/-- what the law finds by an order -/
def lwW (m : Nat) (ws us : List (List Int)) (o : List Nat) (wy : Bool) (b : Nat) : Option (List Nat) :=
  if goG wy b ((ws.map (flW (spW m ((goG wy b (ws.map (plW o))).getD 0 []) (us.getD 0 []) o))).map (plW o)) = us then some (spW m ((goG wy b (ws.map (plW o))).getD 0 []) (us.getD 0 []) o) else none
theorem go_inj {α : Type} {wy : Bool} {b n : Nat} {l r : List α} (hb : b < n) (hl : l.length = n) (hr : r.length = n) (e : goG wy b l = goG wy b r) : l = r := by
  subst hl
  have a := un_go (wy := wy) (b := b) (l := l) hb
  have c := un_go (wy := wy) (b := b) (l := r) (by omega)
  rw [hr] at c
  rw [← a, e, c]
theorem tu_mem {α : Type} {l : List α} {k : Nat} {x : α} (h : x ∈ tuG l k) : x ∈ l := by
  rcases List.mem_append.mp h with q | q
  · exact List.mem_of_mem_drop q
  · exact List.mem_of_mem_take q
theorem ba_mem {α : Type} {l : List α} {x : α} (h : x ∈ baG l) : x ∈ l := by
  cases l with
  | nil => exact h
  | cons a r => simpa [baG] using h
theorem un_mem {α : Type} {wy : Bool} {b n : Nat} {l : List α} {x : α} (h : x ∈ unG wy b n l) : x ∈ l := by
  cases wy
  · exact tu_mem h
  · exact tu_mem (ba_mem h)
theorem ex_lw {m : Nat} {ws us : List (List Int)} (W : OkW m ws) (U : OkW m us) (hn : us.length = ws.length) {o : List Nat} (ho : o.Perm (List.range m)) (wy : Bool) {b : Nat} (hb : b < ws.length) : exW m ws (unG wy b ws.length us) o = lwW m ws us o wy b := by
  have gu : goG wy b (unG wy b ws.length us) = us := by
    rw [← hn] at hb ⊢
    exact go_un hb
  have vl : (unG wy b ws.length us).length = ws.length := by rw [un_len, hn]
  have vw : ∀ w ∈ unG wy b ws.length us, w.length = m ∧ ∀ b ∈ w, b = 0 ∨ b = 1 := fun w hw => ⟨U.wid w (un_mem hw), U.bits w (un_mem hw)⟩
  generalize unG wy b ws.length us = vs at gu vl vw
  obtain ⟨k, hk, hd⟩ := go_head wy hb
  -- the words, as functions of their places
  obtain ⟨wf, hwf⟩ : ∃ wf : Nat → List Int, ∀ i (h : i < ws.length), wf i = ws[i] := ⟨fun i => ws.getD i [], fun i h => by simp [h]⟩
  obtain ⟨mf, hmf⟩ : ∃ mf : Nat → List Int, ∀ i (h : i < ws.length), mf i = plW (bkW m o) (vs[i]'(by omega)) := ⟨fun i => plW (bkW m o) (vs.getD i []), fun i h => by simp [show i < vs.length by omega]⟩
  have wl : ∀ i, i < ws.length → (wf i).length = m ∧ ∀ b ∈ wf i, b = 0 ∨ b = 1 := fun i h => by rw [hwf i h]; exact ⟨W.wid _ (List.getElem_mem h), W.bits _ (List.getElem_mem h)⟩
  have ml : ∀ i, i < ws.length → (mf i).length = m ∧ ∀ b ∈ mf i, b = 0 ∨ b = 1 := fun i h => by
    rw [hmf i h]
    exact ⟨by rw [plW_len]; exact (vw _ (List.getElem_mem (by omega))).1, plW_bits (vw _ (List.getElem_mem (by omega))).2⟩
  have h0 : 0 < ws.length := by omega
  have ew : ws.getD 0 [] = wf 0 := by rw [hwf 0 h0]; simp [h0]
  have em : (vs.map (plW (bkW m o))).getD 0 [] = mf 0 := by rw [hmf 0 h0]; simp [vl, h0]
  -- the program's side
  have e1 : exW m ws vs o = if (∀ i, i < ws.length → mkW m (mf i) (wf i) = mkW m (mf 0) (wf 0)) then some (mkW m (mf 0) (wf 0)) else none := by
    unfold exW
    rw [ew, em]
    have : ((ws.zip (vs.map (plW (bkW m o)))).all (fun z => decide (mkW m z.2 z.1 = mkW m (mf 0) (wf 0))) = true) ↔ ∀ i, i < ws.length → mkW m (mf i) (wf i) = mkW m (mf 0) (wf 0) := by
      rw [List.all_eq_true]
      constructor
      · intro h i hi
        have hz : i < (ws.zip (vs.map (plW (bkW m o)))).length := by simp [vl]; exact hi
        have := h _ (List.getElem_mem hz)
        simp only [List.getElem_zip, List.getElem_map, decide_eq_true_eq] at this
        rw [hwf i hi, hmf i hi]
        exact this
      · intro h z hz
        obtain ⟨i, hi, rfl⟩ := List.getElem_of_mem hz
        have hi' : i < ws.length := by simp at hi; omega
        have := h i hi'
        rw [hwf i hi', hmf i hi'] at this
        simp only [List.getElem_zip, List.getElem_map, decide_eq_true_eq]
        exact this
    simp only [this]
  -- the law's side
  have ea : (goG wy b (ws.map (plW o))).getD 0 [] = plW o (wf k) := by
    have := hd (ws.map (plW o)) (by simp)
    rw [List.getD_eq_getElem?_getD, this, hwf k hk]
    simp [hk]
  have eb : us.getD 0 [] = vs[k]'(by omega) := by
    have := hd vs vl
    rw [gu] at this
    rw [List.getD_eq_getElem?_getD, this]
    simp [show k < vs.length by omega]
  have sp : spW m ((goG wy b (ws.map (plW o))).getD 0 []) (us.getD 0 []) o = mkW m (mf k) (wf k) := by
    rw [ea, eb, mk_comm]
    unfold spW mkW
    refine List.filter_congr fun i hi => ?_
    have hi := List.mem_range.mp hi
    have hl : i < o.length := by rw [perm_len ho]; exact hi
    have q1 : (plW o (wf k))[o.getD i 0]? = (wf k)[i]? := by
      have p := ho
      rw [← (wl k hk).1] at p
      have := plW_at p i (by rw [(wl k hk).1]; exact hi) hl
      rw [show o.getD i 0 = o[i] by simp [hl], this, List.getElem?_eq_getElem]
    have q2 : (vs[k]'(by omega))[o.getD i 0]? = (mf k)[i]? := by
      rw [hmf k hk, un_at ho (vw _ (List.getElem_mem (by omega))).1 hi]
      rw [show o.getD i 0 = o[i] by simp [hl]]
    rw [q1, q2]
  have e2 : lwW m ws us o wy b = if (∀ i, i < ws.length → mkW m (mf i) (wf i) = mkW m (mf k) (wf k)) then some (mkW m (mf k) (wf k)) else none := by
    unfold lwW
    rw [sp]
    have : (goG wy b ((ws.map (flW (mkW m (mf k) (wf k)))).map (plW o)) = us) ↔ ∀ i, i < ws.length → mkW m (mf i) (wf i) = mkW m (mf k) (wf k) := by
      have s1 : (goG wy b ((ws.map (flW (mkW m (mf k) (wf k)))).map (plW o)) = us) ↔ (ws.map (flW (mkW m (mf k) (wf k)))).map (plW o) = vs := by
        constructor
        · intro h
          rw [← gu] at h
          exact go_inj hb (by simp) vl h
        · intro h
          rw [h, gu]
      rw [s1]
      constructor
      · intro h i hi
        have hv : i < vs.length := by omega
        have := congrArg (fun l => l[i]?) h
        simp only [List.getElem?_map, List.getElem?_eq_getElem hi, List.getElem?_eq_getElem hv, Option.map_some, Option.some.injEq] at this
        refine (fl_iff (ml i hi).1 (wl i hi).1 (ml i hi).2 (wl i hi).2).mp ?_
        rw [hmf i hi, ← this, hwf i hi, un_pl ho (by rw [flW_len]; exact W.wid _ (List.getElem_mem hi))]
      · intro h
        refine List.ext_getElem? fun i => ?_
        by_cases hi : i < ws.length
        · have hv : i < vs.length := by omega
          have := (fl_iff (ml i hi).1 (wl i hi).1 (ml i hi).2 (wl i hi).2).mpr (h i hi)
          rw [hmf i hi, hwf i hi] at this
          simp only [List.getElem?_map, List.getElem?_eq_getElem hi, List.getElem?_eq_getElem hv, Option.map_some, Option.some.injEq]
          rw [this, pl_un ho (vw _ (List.getElem_mem hv)).1]
        · rw [List.getElem?_eq_none (by simp; omega), List.getElem?_eq_none (by omega)]
    simp only [this]
  rw [e1, e2]
  by_cases h : ∀ i, i < ws.length → mkW m (mf i) (wf i) = mkW m (mf 0) (wf 0)
  · have h' : ∀ i, i < ws.length → mkW m (mf i) (wf i) = mkW m (mf k) (wf k) := fun i hi => by rw [h i hi, h k hk]
    rw [if_pos h, if_pos h', h k hk]
  · have h' : ¬ ∀ i, i < ws.length → mkW m (mf i) (wf i) = mkW m (mf k) (wf k) := fun z => h fun i hi => by rw [z i hi, z 0 h0]
    rw [if_neg h, if_neg h']
end Hk

set_option Elab.async false
set_option linter.all false
set_option maxRecDepth 100000
namespace Hk
open PySem PySem.Spec PyProof.Rows L2 Hf

/-! ### k05: what the functions mean -/
/-- a loop that returns at the first value found -/
theorem forL_find {α : Type} {t : Tg} {b : Ms} {B : Bs} (I : Sl → Prop) (F : α → D) (G : α → Option D) : (xs : List α) → (h : ∀ x ∈ xs, ∀ σ, I σ → ∃ σ1, t (F x) σ = some σ1 ∧ ((∃ v, G x = some v ∧ b σ1 B = .ret v B) ∨ (G x = none ∧ ∃ σ2, b σ1 B = .next σ2 B ∧ I σ2))) → ∀ σ, I σ →
    (∃ v, xs.findSome? G = some v ∧ forL t b (xs.map F) σ B = .ret v B) ∨ (xs.findSome? G = none ∧ ∃ σ2, forL t b (xs.map F) σ B = .next σ2 B ∧ I σ2)
  | [], _, σ, hI => .inr ⟨rfl, σ, rfl, hI⟩
  | x :: xs, h, σ, hI => by
    obtain ⟨σ1, h1, h2⟩ := h x (List.mem_cons_self ..) σ hI
    rcases h2 with ⟨v, g, e⟩ | ⟨g, σ2, e, hI2⟩
    · exact .inl ⟨v, by simp [g], by simp only [List.map_cons, forL, h1, e]; rfl⟩
    · rcases forL_find I F G xs (fun y hy => h y (List.mem_cons_of_mem _ hy)) σ2 hI2 with ⟨v, g2, e2⟩ | ⟨g2, σ3, e2, hI3⟩
      · exact .inl ⟨v, by simp [g, g2], by simp only [List.map_cons, forL, h1, e, z_seq_next, e2]⟩
      · exact .inr ⟨by simp [g, g2], σ3, by simp only [List.map_cons, forL, h1, e, z_seq_next, e2], hI3⟩
theorem placedL_ok {w : List Int} {o : List Nat} (h : o.Perm (List.range w.length)) (hl : w.length ≤ 5) (B : Bs) : f_placed [wD w, .lst (nD o)] B = .ok (wD (plW o w)) B := by
  have h1 : ∀ z ∈ w.zip o, z.2 < (List.replicate w.length (0 : Int)).length := fun z hz => by
    have := h.mem_iff.mp (List.of_mem_zip hz).2
    simpa using this
  obtain ⟨a, b, e⟩ := setOwn_loop (some (false, wD w)) (some (false, .lst (nD o))) B (w.zip o) (List.replicate w.length 0) h1 none none
  have e2 := mulL_ok w.length hl B
  simp [f_placed, m_placed, szL, e2, mFor, mZip2, itD, zip_nD] at e ⊢
  rw [e]; simp
theorem ix_nD (i : Nat) : ∀ o : List Nat, i ∈ o → ixD (.int (i : Nat)) (nD o) = some (o.idxOf i)
  | [], h => by cases h
  | a :: o, h => by
    show (if PyData.eqv (.int (a : Nat)) (.int (i : Nat)) then some 0 else (ixD (.int (i : Nat)) (nD o)).map (· + 1)) = _
    have e : PyData.eqv (.int (a : Nat)) (.int (i : Nat)) = decide (a = i) := by
      simp only [PyData.eqv]
      by_cases q : a = i
      · subst q; simp
      · have : ¬ (a : Int) = (i : Int) := by omega
        simp [q, this]
    by_cases q : a = i
    · subst q; simp [e]
    · have hm : i ∈ o := by
        rcases List.mem_cons.mp h with z | z
        · exact absurd z.symm q
        · exact z
      have q' : (a == i) = false := by simpa using q
      rw [e, ix_nD i o hm, List.idxOf_cons, q']
      simp [q]
theorem idx_nD {i : Nat} {o : List Nat} (h : i ∈ o) (B : Bs) : fIdx (.tup (nD o)) (.int (i : Nat)) B = .ok (.int (o.idxOf i : Nat)) B := by
  simp only [fIdx, shp_nD, shp_int, Bool.and_self, if_true, ix_nD i o h]
theorem eqv_nDs : ∀ a b : List Nat, PyData.eqvAll (toPys (nD a)) (toPys (nD b)) = decide (a = b)
  | [], [] => rfl
  | [], _ :: _ => rfl
  | _ :: _, [] => rfl
  | x :: a, y :: b => by
    have ih := eqv_nDs a b
    simp only [nD, List.map_cons, toPys, toPy, PyData.eqvAll, PyData.eqv] at ih ⊢
    rw [ih]
    by_cases q : x = y
    · subst q; simp
    · have : ¬ (x : Int) = (y : Int) := by omega
      simp [q, this]
theorem ne_nD (a b : List Nat) (B : Bs) : fNe (.tup (nD a)) (.tup (nD b)) B = .ok (.bool (!decide (a = b))) B := by
  have e : eqD (.tup (nD a)) (.tup (nD b)) = decide (a = b) := by
    simp only [eqD, toPy, PyData.eqv]
    exact eqv_nDs a b
  simp [fNe, shp_nD, e]
theorem wx {w : List Int} {i : Nat} (h : i < w.length) (B : Bs) : fIx (wD w) (.int (i : Nat)) B = .ok (.int w[i]) B := by
  simp [fIx, atI, ixN, h]
theorem fNeI (i j : Int) (B : Bs) : fNe (.int i) (.int j) B = .ok (.bool (!(i == j))) B := by simp [fNe, shp_int, eqD, toPy, PyData.eqv]
theorem mk_lc {m j : Nat} {u w : List Int} (hu : u.length = m) (hw : w.length = m) (h5 : m ≤ 5) {σ : Sl} {B : Bs} {mi : Ei} {mu mw : Ev} (hi : mi σ B = .ok (rngD 0 m) B) (f : Nat → Nat) (hf : ∀ i, i < m → f i < m)
    (h : ∀ i, i < m → mu ((wipeI σ [j]).set j (some (false, .int (i : Nat)))) B = .ok (.int (u.getD (f i) 0)) B ∧ mw ((wipeI σ [j]).set j (some (false, .int (i : Nat)))) B = .ok (.int (w.getD (f i) 0)) B ∧ mVar j ((wipeI σ [j]).set j (some (false, .int (i : Nat)))) B = .ok (.int (i : Nat)) B) :
    mLc [j] (gN j) mi (mCmpT fNe mu mw) (mVar j) σ B = .ok (.lst (nD ((List.range m).filter fun i => decide (u[f i]? ≠ w[f i]?)))) B := by
  refine mLc_filter (fun i : Nat => D.int i) (fun i => decide (u[f i]? ≠ w[f i]?)) (fun i : Nat => D.int i) (List.range m) hi (rng_nD m) (Nat.le_trans (show _ ≤ 5 by simpa using h5) (by decide)) fun i hi => ?_
  have hi := List.mem_range.mp hi
  obtain ⟨a, b, c⟩ := h i hi
  have hfi := hf i hi
  refine ⟨?_, fun _ => c⟩
  have e : decide (u[f i]? ≠ w[f i]?) = !(u.getD (f i) 0 == w.getD (f i) 0) := by
    rw [List.getElem?_eq_getElem (by omega), List.getElem?_eq_getElem (by omega)]
    simp [show f i < u.length by omega, show f i < w.length by omega]
    by_cases q : u[f i] = w[f i] <;> simp [q]
  rw [e]
  simp only [z_mCmpT, a, b, z_bind_ok, fNeI, z_toB]
theorem m_rngB {m : Nat} (h : m ≤ 100) : rngB (m : Int) = true := by simp [rngB]; omega
abbrev xC1 : Ms := (mSet 3 (mLc [4] (gN 4) (mRng1 (m1 fLen (mVar 2))) mYes (mIdxT (mVar 2) (mVar 4))))
abbrev xC2 : Ms := (mSet 5 (mLc [6] (gN 6) (mItems (mVar 1)) mYes (mCall f_placed [] (mCons (mVar 6) (mCons (mVar 3) mNil)))))
abbrev xC3 : Ms := (mSet 7 (m1 fTupO (mLc [4] (gN 4) (mRng1 (m1 fLen (mVar 2))) (mCmpT fNe (mBin fIx (mBin fIx (mVar 5) (mC (.int 0))) (mVar 4)) (mBin fIx (mBin fIx (mVar 0) (mC (.int 0))) (mVar 4))) (mVar 4))))
abbrev xC4i : Ei := (mZip2 (mVar 0) (mVar 5))
abbrev xC4b1 : Ms := (mIf (mCmpT fNe (m1 fTupO (mLc [4] (gN 4) (mRng1 (m1 fLen (mVar 2))) (mCmpT fNe (mBin fIx (mVar 8) (mVar 4)) (mBin fIx (mVar 6) (mVar 4))) (mVar 4))) (mVar 7)) (mRet (mC .none)) mSkip)
abbrev xC4 : Ms := (mFor (gT (gsC (gN 6) (gsC (gN 8) gs0))) xC4i xC4b1)
abbrev xC5 : Ms := (mRet (mVar 7))
theorem xCeq : m_exchanged = (mSeq xC1 (mSeq xC2 (mSeq xC3 (mSeq xC4 xC5)))) := rfl

def opD : Option (List Nat) → D
  | some ps => .tup (nD ps)
  | none => .none
theorem mkw_f (m : Nat) (u w : List Int) : mkW m u w = (List.range m).filter fun i => decide (u[id i]? ≠ w[id i]?) := rfl
theorem wget {w : List Int} {i : Nat} (h : i < w.length) : w.getD i 0 = w[i] := by simp [h]
theorem exchanged_ok {m : Nat} {ws vs : List (List Int)} (W : OkW m ws) (hv : ∀ w ∈ vs, w.length = m) (hn : vs.length = ws.length) {o : List Nat} (ho : o.Perm (List.range m)) (B : Bs) :
    f_exchanged [wsD ws, wsD vs, .tup (nD o)] B = .ok (opD (exW m ws vs o)) B := by
  have hm : f_exchanged [wsD ws, wsD vs, .tup (nD o)] B = (m_exchanged [some (false, wsD ws), some (false, wsD vs), some (false, .tup (nD o)), none, none, none, none, none, none] B).fin := rfl
  rw [hm, xCeq]
  have h5 := W.m5
  have n2 := W.n2
  have n16 := W.n16
  have ol := perm_len ho
  have lo : fLen (.tup (nD o)) B = .ok (.int (m : Nat)) B := by simp [fLen, nD, ol]
  have rg : ∀ (σ : Sl), mVar 2 σ B = .ok (.tup (nD o)) B → mRng1 (m1 fLen (mVar 2)) σ B = .ok (rngD 0 m) B := fun σ h => by
    simp only [z_mRng1, z_m1, h, z_bind_ok, lo, z_asI, m_rngB (show m ≤ 100 by omega), if_true, Int.toNat_natCast]
  have c1 := mLc_map (vs := [4]) (i := 4) (mi := mRng1 (m1 fLen (mVar 2))) (me := mIdxT (mVar 2) (mVar 4)) (σ := [some (false, wsD ws), some (false, wsD vs), some (false, .tup (nD o)), none, none, none, none, none, none]) (B := B) (fun i : Nat => D.int i) (fun i => D.int (o.idxOf i : Nat)) (List.range m) (rg _ rfl) (rng_nD m) (Nat.le_trans (show _ ≤ 5 by simpa using h5) (by decide)) fun i hi => by
    have hi := List.mem_range.mp hi
    have := idx_nD (i := i) ((mem_perm ho).mpr hi) B
    simp only [wipeI, mIdxT, z_mVar, List.set_cons_succ, List.set_cons_zero, List.getElem?_cons_succ, List.getElem?_cons_zero, z_bind_ok, isTu, this]
  have e1 : (List.range m).map (fun i => D.int (o.idxOf i : Nat)) = nD (bkW m o) := by simp [nD, bkW]
  rw [e1] at c1
  have c2 := mLc_map (vs := [6]) (i := 6) (mi := mItems (mVar 1)) (me := mCall f_placed [] (mCons (mVar 6) (mCons (mVar 3) mNil))) (σ := [some (false, wsD ws), some (false, wsD vs), some (false, .tup (nD o)), some (false, .lst (nD (bkW m o))), none, none, none, none, none]) (B := B) wD (fun u => wD (plW (bkW m o) u)) vs rfl rfl (Nat.le_trans (show _ ≤ 16 by omega) (by decide)) fun u hu => by
    have b := bk_perm ho
    have hl := hv u hu
    have := placedL_ok (w := u) (o := bkW m o) (by rw [hl]; exact b) (by omega) B
    generalize f_placed = F at *
    simp [wipeI, this]
  have e2 : vs.map (fun u => wD (plW (bkW m o) u)) = (vs.map (plW (bkW m o))).map wD := by simp
  rw [e2] at c2
  obtain ⟨ms, hms⟩ : ∃ ms, ms = vs.map (plW (bkW m o)) := ⟨_, rfl⟩
  rw [← hms] at c2
  have ml : ∀ w ∈ ms, w.length = m := fun w hw => by
    rw [hms] at hw
    obtain ⟨u, hu, rfl⟩ := List.mem_map.mp hw
    rw [plW_len]; exact hv u hu
  have mn : ms.length = ws.length := by rw [hms]; simpa using hn
  have x0 : fIx (.lst (ms.map wD)) (.int 0) B = .ok (wD (ms.getD 0 [])) B := by
    have : 0 < ms.length := by omega
    simp [fIx, atI, ixN, this]
  have y0 : fIx (wsD ws) (.int 0) B = .ok (wD (ws.getD 0 [])) B := by
    have : 0 < ws.length := by omega
    simp [fIx, atI, ixN, this]
  have g0 : (ms.getD 0 []).length = m := by
    have : 0 < ms.length := by omega
    simp only [List.getD_eq_getElem?_getD, List.getElem?_eq_getElem this, Option.getD_some]
    exact ml _ (List.getElem_mem this)
  have g1 : (ws.getD 0 []).length = m := by
    have : 0 < ws.length := by omega
    simp only [List.getD_eq_getElem?_getD, List.getElem?_eq_getElem this, Option.getD_some]
    exact W.wid _ (List.getElem_mem this)
  have ee : exW m ws vs o = if (ws.zip ms).all (fun z => decide (mkW m z.2 z.1 = mkW m (ms.getD 0 []) (ws.getD 0 []))) then some (mkW m (ms.getD 0 []) (ws.getD 0 [])) else none := by rw [hms]; rfl
  generalize ms.getD 0 [] = u0 at x0 g0 ee
  generalize ws.getD 0 [] = w0 at y0 g1 ee
  have c3 := mk_lc (j := 4) (mi := mRng1 (m1 fLen (mVar 2))) (mu := mBin fIx (mBin fIx (mVar 5) (mC (.int 0))) (mVar 4)) (mw := mBin fIx (mBin fIx (mVar 0) (mC (.int 0))) (mVar 4)) (σ := [some (false, wsD ws), some (false, wsD vs), some (false, .tup (nD o)), some (false, .lst (nD (bkW m o))), none, some (false, .lst (ms.map wD)), none, none, none]) (B := B) g0 g1 h5 (rg _ rfl) id (fun i h => h) fun i hi => by
    have a := wx (w := u0) (i := i) (by omega) B
    have b := wx (w := w0) (i := i) (by omega) B
    rw [show u0.getD (id i) 0 = u0[i]'(by omega) from wget (show i < _ by omega), show w0.getD (id i) 0 = w0[i]'(by omega) from wget (show i < _ by omega)]
    generalize wD u0 = U at *
    generalize wD w0 = V at *
    generalize D.lst (ms.map wD) = M at *
    generalize wsD ws = S at *
    refine ⟨?_, ?_, rfl⟩
    · simp [wipeI, x0, a]
    · simp [wipeI, y0, b]
  rw [← mkw_f] at c3
  have k1 : xC1 [some (false, wsD ws), some (false, wsD vs), some (false, .tup (nD o)), none, none, none, none, none, none] B = .next [some (false, wsD ws), some (false, wsD vs), some (false, .tup (nD o)), some (false, .lst (nD (bkW m o))), none, none, none, none, none] B := by
    unfold xC1
    rw [z_mSet, c1]
    rfl
  have k2 : xC2 [some (false, wsD ws), some (false, wsD vs), some (false, .tup (nD o)), some (false, .lst (nD (bkW m o))), none, none, none, none, none] B = .next [some (false, wsD ws), some (false, wsD vs), some (false, .tup (nD o)), some (false, .lst (nD (bkW m o))), none, some (false, .lst (ms.map wD)), none, none, none] B := by
    unfold xC2
    rw [z_mSet, c2]
    rfl
  have k3 : xC3 [some (false, wsD ws), some (false, wsD vs), some (false, .tup (nD o)), some (false, .lst (nD (bkW m o))), none, some (false, .lst (ms.map wD)), none, none, none] B = .next [some (false, wsD ws), some (false, wsD vs), some (false, .tup (nD o)), some (false, .lst (nD (bkW m o))), none, some (false, .lst (ms.map wD)), none, some (false, .tup (nD (mkW m u0 w0))), none] B := by
    unfold xC3
    rw [z_mSet, z_m1, c3]
    rfl
  simp only [z_mSeq, k1, k2, k3, z_seq_next]
  have it : xC4i [some (false, wsD ws), some (false, wsD vs), some (false, .tup (nD o)), some (false, .lst (nD (bkW m o))), none, some (false, .lst (ms.map wD)), none, some (false, .tup (nD (mkW m u0 w0))), none] B = .ok ((ws.zip ms).map fun z => D.prs [wD z.1, wD z.2]) B := by
    have : zipD (ws.map wD) (ms.map wD) = (ws.zip ms).map fun z => D.prs [wD z.1, wD z.2] := by
      simp [zipD, List.zip, List.map_zipWith, List.zipWith_map]
    rw [← this]
    rfl
  have F := forL_find (t := gT (gsC (gN 6) (gsC (gN 8) gs0))) (b := xC4b1) (B := B)
    (fun σ => ∃ a b, σ = [some (false, wsD ws), some (false, wsD vs), some (false, .tup (nD o)), some (false, .lst (nD (bkW m o))), none, some (false, .lst (ms.map wD)), a, some (false, .tup (nD (mkW m u0 w0))), b])
    (fun z : List Int × List Int => D.prs [wD z.1, wD z.2]) (fun z => if mkW m z.2 z.1 = mkW m u0 w0 then none else some .none) (ws.zip ms) (by
      rintro ⟨w, u⟩ hz σ ⟨a, b, rfl⟩
      have hw := W.wid _ (List.of_mem_zip hz).1
      have hu := ml _ (List.of_mem_zip hz).2
      refine ⟨[some (false, wsD ws), some (false, wsD vs), some (false, .tup (nD o)), some (false, .lst (nD (bkW m o))), none, some (false, .lst (ms.map wD)), some (false, wD w), some (false, .tup (nD (mkW m u0 w0))), some (false, wD u)], rfl, ?_⟩
      have c4 := mk_lc (j := 4) (mi := mRng1 (m1 fLen (mVar 2))) (mu := mBin fIx (mVar 8) (mVar 4)) (mw := mBin fIx (mVar 6) (mVar 4)) (σ := [some (false, wsD ws), some (false, wsD vs), some (false, .tup (nD o)), some (false, .lst (nD (bkW m o))), none, some (false, .lst (ms.map wD)), some (false, wD w), some (false, .tup (nD (mkW m u0 w0))), some (false, wD u)]) (B := B) hu hw h5 (rg _ rfl) id (fun i h => h) fun i hi => by
        have p := wx (w := u) (i := i) (by omega) B
        have q := wx (w := w) (i := i) (by omega) B
        rw [show u.getD (id i) 0 = u[i]'(by omega) from wget (show i < _ by omega), show w.getD (id i) 0 = w[i]'(by omega) from wget (show i < _ by omega)]
        generalize wD u = U at *
        generalize wD w = V at *
        refine ⟨?_, ?_, rfl⟩
        · simp [wipeI, p]
        · simp [wipeI, q]
      rw [← mkw_f] at c4
      have nq := ne_nD (mkW m u w) (mkW m u0 w0) B
      have hb : xC4b1 [some (false, wsD ws), some (false, wsD vs), some (false, .tup (nD o)), some (false, .lst (nD (bkW m o))), none, some (false, .lst (ms.map wD)), some (false, wD w), some (false, .tup (nD (mkW m u0 w0))), some (false, wD u)] B = if mkW m u w = mkW m u0 w0 then .next [some (false, wsD ws), some (false, wsD vs), some (false, .tup (nD o)), some (false, .lst (nD (bkW m o))), none, some (false, .lst (ms.map wD)), some (false, wD w), some (false, .tup (nD (mkW m u0 w0))), some (false, wD u)] B else .ret .none B := by
        unfold xC4b1
        generalize mLc [4] (gN 4) (mRng1 (m1 fLen (mVar 2))) (mCmpT fNe (mBin fIx (mVar 8) (mVar 4)) (mBin fIx (mVar 6) (mVar 4))) (mVar 4) = M at *
        generalize wD u = U at *
        generalize wD w = V at *
        generalize D.lst (ms.map wD) = M2 at *
        generalize wsD ws = S at *
        generalize wsD vs = S2 at *
        have tl : fTupO (.lst (nD (mkW m u w))) B = .ok (.tup (nD (mkW m u w))) B := rfl
        generalize D.lst (nD (mkW m u w)) = L1 at *
        generalize D.tup (nD (mkW m u w)) = T1 at *
        generalize D.tup (nD (mkW m u0 w0)) = T0 at *
        by_cases z : mkW m u w = mkW m u0 w0
        · rw [if_pos z]
          simp only [z, decide_true, Bool.not_true] at nq
          simp [c4, tl, nq]
        · rw [if_neg z]
          simp only [z, decide_false, Bool.not_false] at nq
          simp [c4, tl, nq]
      by_cases z : mkW m u w = mkW m u0 w0
      · rw [if_pos z] at hb
        exact .inr ⟨if_pos z, _, hb, _, _, rfl⟩
      · rw [if_neg z] at hb
        exact .inl ⟨.none, if_neg z, hb⟩) _ ⟨none, none, rfl⟩
  have lp : ∀ r, forL (gT (gsC (gN 6) (gsC (gN 8) gs0))) xC4b1 ((ws.zip ms).map fun z => D.prs [wD z.1, wD z.2]) [some (false, wsD ws), some (false, wsD vs), some (false, .tup (nD o)), some (false, .lst (nD (bkW m o))), none, some (false, .lst (ms.map wD)), none, some (false, .tup (nD (mkW m u0 w0))), none] B = r → xC4 [some (false, wsD ws), some (false, wsD vs), some (false, .tup (nD o)), some (false, .lst (nD (bkW m o))), none, some (false, .lst (ms.map wD)), none, some (false, .tup (nD (mkW m u0 w0))), none] B = r := fun r hr => by
    unfold xC4 mFor
    rw [it, z_st_ok]
    exact hr
  rw [ee]
  rcases F with ⟨v, g, e⟩ | ⟨g, σ2, e, a, b, rfl⟩
  · rw [lp _ e]
    have ha : ¬ (ws.zip ms).all (fun z => decide (mkW m z.2 z.1 = mkW m u0 w0)) = true := fun h => by
      obtain ⟨z, hz, hv⟩ := List.exists_of_findSome?_eq_some g
      have := of_decide_eq_true (List.all_eq_true.mp h z hz)
      rw [if_pos this] at hv
      cases hv
    have hv : v = .none := by
      obtain ⟨z, hz, hv⟩ := List.exists_of_findSome?_eq_some g
      split at hv
      · cases hv
      · exact (Option.some.inj hv).symm
    rw [if_neg ha, hv]
    rfl
  · rw [lp _ e]
    have ha : (ws.zip ms).all (fun z => decide (mkW m z.2 z.1 = mkW m u0 w0)) = true := List.all_eq_true.mpr fun z hz => by
      have := List.findSome?_eq_none_iff.mp g z hz
      split at this
      · rename_i h; exact decide_eq_true h
      · cases this
    rw [if_pos ha]
    rfl
end Hk

set_option Elab.async false
set_option linter.all false
set_option maxRecDepth 100000
namespace Hk
open PySem PySem.Spec PyProof.Rows L2 Hf

/-! ### k05: the two searches -/
abbrev aC1 : Ms := (mDo (mCall f_need_code [] (mCons (mVar 0) mNil)))
abbrev aC2 : Ms := (mDo (mCall f_need_code [] (mCons (mVar 1) mNil)))
abbrev aC3 : Ms := (mIf (mCmpT fNe (mTup (mCons (m1 (fLenA 0 f_CodeX_lenX) (mVar 0)) (mCons (mPrp 0 f_Code_bits (mVar 0)) mNil))) (mTup (mCons (m1 (fLenA 0 f_CodeX_lenX) (mVar 1)) (mCons (mPrp 0 f_Code_bits (mVar 1)) mNil)))) (mRet (mC .none)) mSkip)
abbrev aC4i : Ei := (mRng1 (m1 (fLenA 0 f_CodeX_lenX) (mVar 0)))
abbrev aC4b1 : Ms := (mSet 3 (mCall f_begun [] (mCons (mPrp 0 f_Code_words (mVar 1)) (mCons (mBin fMod (mBin fSub (m1 (fLenA 0 f_CodeX_lenX) (mVar 0)) (mVar 2)) (m1 (fLenA 0 f_CodeX_lenX) (mVar 0))) mNil))))
abbrev aC4b2i : Ei := (mItems (mTup (mCons (mNeg (mC (.int 1))) (mCons (mC (.int 1)) mNil))))
abbrev aC4b2b1 : Ms := (mSet 5 (mIte (mCmpT fEq (mVar 4) (mC (.int 1))) (mVar 3) (mCall f_backwards [] (mCons (mVar 3) mNil))))
abbrev aC4b2b2i : Ei := (mItems (mCall f_orders_of [] (mCons (mPrp 0 f_Code_bits (mVar 0)) mNil)))
abbrev aC4b2b2b1 : Ms := (mSet 7 (mCall f_exchanged [] (mCons (mPrp 0 f_Code_words (mVar 0)) (mCons (mVar 5) (mCons (mVar 6) mNil)))))
abbrev aC4b2b2b2 : Ms := (mIf (mCmpT fIsNot (mVar 7) (mC .none)) (mRet (mTup (mCons (mVar 2) (mCons (mVar 4) (mCons (mVar 6) (mCons (mVar 7) mNil)))))) mSkip)
abbrev aC4b2b2 : Ms := (mFor (gN 6) aC4b2b2i (mSeq aC4b2b2b1 aC4b2b2b2))
abbrev aC4b2 : Ms := (mFor (gN 4) aC4b2i (mSeq aC4b2b1 aC4b2b2))
abbrev aC4 : Ms := (mFor (gN 2) aC4i (mSeq aC4b1 aC4b2))
abbrev aC5 : Ms := (mRet (mC .none))
theorem aCeq : m_alike = (mSeq aC1 (mSeq aC2 (mSeq aC3 (mSeq aC4 aC5)))) := rfl
abbrev dC1 : Ms := (mIf (mOrT (mCmpT fNe (m1 fLen (mVar 0)) (m1 fLen (mVar 1))) (mCmpT fNe (m1 fLen (mBin fIx (mVar 0) (mC (.int 0)))) (m1 fLen (mBin fIx (mVar 1) (mC (.int 0)))))) (mRet (mC .none)) mSkip)
abbrev dC2i : Ei := (mRng1 (m1 fLen (mVar 0)))
abbrev dC2b1i : Ei := (mItems (mTup (mCons (mNeg (mC (.int 1))) (mCons (mC (.int 1)) mNil))))
abbrev dC2b1b1i : Ei := (mItems (mCall f__law_orders [] (mCons (m1 fLen (mBin fIx (mVar 0) (mC (.int 0)))) mNil)))
abbrev dC2b1b1b1 : Ms := (mSet 5 (mCall f__law_turned_words [] (mCons (mCall f__law_rest [] (mCons (mVar 0) (mCons (mVar 4) (mCons (mTup mNil) (mCons (mVar 3) mNil))))) (mCons (mVar 2) mNil))))
abbrev dC2b1b1b2 : Ms := (mSet 6 (m1 fTupO (mLc [7] (gN 7) (mRng1 (m1 fLen (mVar 4))) (mCmpT fNe (mBin fIx (mBin fIx (mVar 5) (mC (.int 0))) (mBin fIx (mVar 4) (mVar 7))) (mBin fIx (mBin fIx (mVar 1) (mC (.int 0))) (mBin fIx (mVar 4) (mVar 7)))) (mVar 7))))
abbrev dC2b1b1b3 : Ms := (mIf (mCmpT fEq (mCall f__law_turned_words [] (mCons (mCall f__law_rest [] (mCons (mVar 0) (mCons (mVar 4) (mCons (mVar 6) (mCons (mVar 3) mNil))))) (mCons (mVar 2) mNil))) (mVar 1)) (mRet (mTup (mCons (mVar 2) (mCons (mVar 3) (mCons (mVar 4) (mCons (mVar 6) mNil)))))) mSkip)
abbrev dC2b1b1 : Ms := (mFor (gN 4) dC2b1b1i (mSeq dC2b1b1b1 (mSeq dC2b1b1b2 dC2b1b1b3)))
abbrev dC2b1 : Ms := (mFor (gN 3) dC2b1i dC2b1b1)
abbrev dC2 : Ms := (mFor (gN 2) dC2i dC2b1)
abbrev dC3 : Ms := (mRet (mC .none))
theorem dCeq : m__law_due = (mSeq dC1 (mSeq dC2 dC3)) := rfl

abbrev oD (o : List Nat) : D := .tup (nD o)
def wyD (wy : Bool) : D := .int (if wy then -1 else 1)
abbrev foD (b : Nat) (wy : Bool) (o ps : List Nat) : D := .tup [.int b, wyD wy, oD o, oD ps]
def g3 (X : Nat → Bool → List Nat → Option (List Nat)) (b : Nat) (wy : Bool) (o : List Nat) : Option D := (X b wy o).map (foD b wy o)
def g2 (m : Nat) (X : Nat → Bool → List Nat → Option (List Nat)) (b : Nat) (wy : Bool) : Option D := (ordW m).findSome? (g3 X b wy)
def g1 (m : Nat) (X : Nat → Bool → List Nat → Option (List Nat)) (b : Nat) : Option D := [true, false].findSome? (g2 m X b)
def srW (n m : Nat) (X : Nat → Bool → List Nat → Option (List Nat)) : Option D := (List.range n).findSome? (g1 m X)
theorem find_congr {α β : Type} {f g : α → Option β} : ∀ l : List α, (∀ x ∈ l, f x = g x) → l.findSome? f = l.findSome? g
  | [], _ => rfl
  | x :: l, h => by
    rw [List.findSome?_cons, List.findSome?_cons, h x (List.mem_cons_self ..), find_congr l fun y hy => h y (List.mem_cons_of_mem _ hy)]
theorem sr_congr {n m : Nat} {X Y : Nat → Bool → List Nat → Option (List Nat)} (h : ∀ b, b < n → ∀ wy, ∀ o ∈ ordW m, X b wy o = Y b wy o) : srW n m X = srW n m Y := by
  refine find_congr _ fun b hb => ?_
  refine find_congr _ fun wy _ => ?_
  refine find_congr _ fun o ho => ?_
  unfold g3
  rw [h b (List.mem_range.mp hb) wy o ho]
theorem orders_ok {m : Nat} (h1 : 1 ≤ m) (h5 : m ≤ 5) (B : Bs) : f_orders_of [.int (m : Nat)] B = .ok (.lst ((ordW m).map oD)) B ∧ f__law_orders [.int (m : Nat)] B = .ok (.lst ((ordW m).map oD)) B := by
  rcases five h1 h5 with rfl | rfl | rfl | rfl | rfl <;> exact ⟨by kernel_rfl, by kernel_rfl⟩
theorem backwards_ok {ws : List (List Int)} (h1 : 1 ≤ ws.length) (h16 : ws.length ≤ 16) (B : Bs) : f_backwards [wsD ws] B = .ok (wsD (backW ws)) B := by
  cases ws with
  | nil => simp at h1
  | cons w r =>
    have hs : r.length + 1 ≤ sizeLine := Nat.le_trans (show r.length + 1 ≤ 1000000 by simp at h16; omega) size_big
    simp [f_backwards, m_backwards, fIx, atI, ixN, fBk1, szL, hs]
theorem back_G (ws : List (List Int)) : backW ws = baG ws := by cases ws <;> rfl
section
variable {m : Nat} {ws us : List (List Int)}
abbrev A8 (ws us : List (List Int)) (b : Nat) (ah : D) (wy : Bool) (ot : D) (o6 o7 : Option (Bool × D)) : Sl := [some (false, codeD ws), some (false, codeD us), some (false, .int b), some (false, ah), some (false, wyD wy), some (false, ot), o6, o7]
abbrev exF (m : Nat) (ws us : List (List Int)) (b : Nat) (wy : Bool) (o : List Nat) : Option (List Nat) := exW m ws (unG wy b ws.length us) o
theorem isn_op (x : Option (List Nat)) (B : Bs) : fIsNot (opD x) .none B = .ok (.bool x.isSome) B := by cases x <;> rfl
theorem al_in (W : OkW m ws) (U : OkW m us) (hn : us.length = ws.length) {b : Nat} (wy : Bool) (ah : D) (B : Bs) (o6 o7 : Option (Bool × D)) :
    (∃ v, g2 m (exF m ws us) b wy = some v ∧ forL (gN 6) (mSeq aC4b2b2b1 aC4b2b2b2) ((ordW m).map oD) (A8 ws us b ah wy (wsD (unG wy b ws.length us)) o6 o7) B = .ret v B) ∨
    (g2 m (exF m ws us) b wy = none ∧ ∃ σ2, forL (gN 6) (mSeq aC4b2b2b1 aC4b2b2b2) ((ordW m).map oD) (A8 ws us b ah wy (wsD (unG wy b ws.length us)) o6 o7) B = .next σ2 B ∧ ∃ a c, σ2 = A8 ws us b ah wy (wsD (unG wy b ws.length us)) a c) := by
  refine forL_find (t := gN 6) (b := mSeq aC4b2b2b1 aC4b2b2b2) (B := B) (fun σ => ∃ a c, σ = A8 ws us b ah wy (wsD (unG wy b ws.length us)) a c) oD (g3 (exF m ws us) b wy) (ordW m) ?_ _ ⟨o6, o7, rfl⟩
  rintro o ho σ ⟨a, c, rfl⟩
  have hp := ord_perm W.m5 ho
  have vl : (unG wy b ws.length us).length = ws.length := by rw [un_len, hn]
  have ex : f_exchanged [wsD ws, wsD (unG wy b ws.length us), oD o] B = .ok (opD (exF m ws us b wy o)) B := exchanged_ok W (vs := unG wy b ws.length us) (fun w hw => U.wid w (un_mem hw)) vl hp B
  have wk := words_ok ws B
  have k1 : aC4b2b2b1 (A8 ws us b ah wy (wsD (unG wy b ws.length us)) (some (false, oD o)) c) B = .next (A8 ws us b ah wy (wsD (unG wy b ws.length us)) (some (false, oD o)) (some (false, opD (exF m ws us b wy o)))) B := by
    unfold A8 aC4b2b2b1
    generalize codeD ws = C at *
    generalize codeD us = C2 at *
    generalize wsD ws = S at *
    generalize wsD (unG wy b ws.length us) = S2 at *
    generalize oD o = O at *
    generalize opD (exF m ws us b wy o) = R at *
    generalize f_exchanged = F at *
    generalize wyD wy = Y at *
    simp [wk, ex]
  have is := isn_op (exF m ws us b wy o) B
  have w4 : ∀ q0 q1 q2 q3 : D, szL [q0, q1, q2, q3] = true := fun _ _ _ _ => decide_eq_true (show 4 ≤ sizeLine by decide)
  refine ⟨A8 ws us b ah wy (wsD (unG wy b ws.length us)) (some (false, oD o)) c, rfl, ?_⟩
  unfold g3
  cases hx : exF m ws us b wy o with
  | none =>
    rw [hx] at k1 is
    refine .inr ⟨rfl, A8 ws us b ah wy (wsD (unG wy b ws.length us)) (some (false, oD o)) (some (false, opD none)), ?_, _, _, rfl⟩
    rw [z_mSeq, k1, z_seq_next]
    unfold A8 aC4b2b2b2
    generalize opD none = R at *
    generalize codeD ws = C at *
    generalize codeD us = C2 at *
    generalize wsD (unG wy b ws.length us) = S2 at *
    generalize oD o = O at *
    generalize wyD wy = Y at *
    simp only [Option.isSome_none] at is
    simp [is]
  | some ps =>
    rw [hx] at k1 is
    refine .inl ⟨foD b wy o ps, rfl, ?_⟩
    rw [z_mSeq, k1, z_seq_next]
    have eo : opD (some ps) = oD ps := rfl
    rw [eo] at is ⊢
    unfold A8 aC4b2b2b2 foD
    generalize oD ps = R at *
    generalize codeD ws = C at *
    generalize codeD us = C2 at *
    generalize wsD (unG wy b ws.length us) = S2 at *
    generalize oD o = O at *
    generalize wyD wy = Y at *
    simp only [Option.isSome_some] at is
    simp [is, w4]
theorem al_mid (W : OkW m ws) (U : OkW m us) (hn : us.length = ws.length) {b : Nat} (B : Bs) (o4 o5 o6 o7 : Option (Bool × D)) :
    (∃ v, g1 m (exF m ws us) b = some v ∧ forL (gN 4) (mSeq aC4b2b1 aC4b2b2) ([true, false].map wyD) [some (false, codeD ws), some (false, codeD us), some (false, .int b), some (false, wsD (tuG us ((ws.length - b) % ws.length))), o4, o5, o6, o7] B = .ret v B) ∨
    (g1 m (exF m ws us) b = none ∧ ∃ σ2, forL (gN 4) (mSeq aC4b2b1 aC4b2b2) ([true, false].map wyD) [some (false, codeD ws), some (false, codeD us), some (false, .int b), some (false, wsD (tuG us ((ws.length - b) % ws.length))), o4, o5, o6, o7] B = .next σ2 B ∧ ∃ a c d e, σ2 = [some (false, codeD ws), some (false, codeD us), some (false, .int b), some (false, wsD (tuG us ((ws.length - b) % ws.length))), a, c, d, e]) := by
  refine forL_find (t := gN 4) (b := mSeq aC4b2b1 aC4b2b2) (B := B) (fun σ => ∃ a c d e, σ = [some (false, codeD ws), some (false, codeD us), some (false, .int b), some (false, wsD (tuG us ((ws.length - b) % ws.length))), a, c, d, e]) wyD (g2 m (exF m ws us) b) [true, false] ?_ _ ⟨o4, o5, o6, o7, rfl⟩
  rintro wy hw σ ⟨a, c, d, e, rfl⟩
  have n2 := U.n2
  have n16 := U.n16
  have bw := backwards_ok (ws := tuG us ((ws.length - b) % ws.length)) (by rw [tuG_len]; omega) (by rw [tuG_len]; omega) B
  have q1 : fEq (wyD true) (.int 1) B = .ok (.bool false) B := by kernel_rfl
  have q2 : fEq (wyD false) (.int 1) B = .ok (.bool true) B := by kernel_rfl
  have k1 : aC4b2b1 [some (false, codeD ws), some (false, codeD us), some (false, .int b), some (false, wsD (tuG us ((ws.length - b) % ws.length))), some (false, wyD wy), c, d, e] B = .next (A8 ws us b (wsD (tuG us ((ws.length - b) % ws.length))) wy (wsD (unG wy b ws.length us)) d e) B := by
    rw [back_G] at bw
    cases wy
    · show _ = Ss.next (A8 ws us b (wsD (tuG us ((ws.length - b) % ws.length))) false (wsD (tuG us ((ws.length - b) % ws.length))) d e) B
      unfold A8 aC4b2b1
      generalize wsD (tuG us ((ws.length - b) % ws.length)) = S at *
      generalize codeD ws = C at *
      generalize codeD us = C2 at *
      generalize wyD false = Y at *
      generalize f_backwards = F at *
      simp [q2]
    · show _ = Ss.next (A8 ws us b (wsD (tuG us ((ws.length - b) % ws.length))) true (wsD (baG (tuG us ((ws.length - b) % ws.length)))) d e) B
      unfold A8 aC4b2b1
      generalize wsD (baG (tuG us ((ws.length - b) % ws.length))) = S2 at *
      generalize wsD (tuG us ((ws.length - b) % ws.length)) = S at *
      generalize codeD ws = C at *
      generalize codeD us = C2 at *
      generalize wyD true = Y at *
      generalize f_backwards = F at *
      simp [q1, bw]
  refine ⟨[some (false, codeD ws), some (false, codeD us), some (false, .int b), some (false, wsD (tuG us ((ws.length - b) % ws.length))), some (false, wyD wy), c, d, e], rfl, ?_⟩
  have od := (orders_ok W.m1 W.m5 B).1
  have bo := bits_ok W B
  have it : aC4b2b2i (A8 ws us b (wsD (tuG us ((ws.length - b) % ws.length))) wy (wsD (unG wy b ws.length us)) d e) B = .ok ((ordW m).map oD) B := by
    have io : itemsOf (.lst ((ordW m).map oD)) = some ((ordW m).map oD) := rfl
    unfold A8 aC4b2b2i
    generalize codeD ws = C at *
    generalize f_orders_of = F at *
    generalize (ordW m).map oD = L at *
    simp [bo, od, io]
  have k2 : ∀ r, forL (gN 6) (mSeq aC4b2b2b1 aC4b2b2b2) ((ordW m).map oD) (A8 ws us b (wsD (tuG us ((ws.length - b) % ws.length))) wy (wsD (unG wy b ws.length us)) d e) B = r → mSeq aC4b2b1 aC4b2b2 [some (false, codeD ws), some (false, codeD us), some (false, .int b), some (false, wsD (tuG us ((ws.length - b) % ws.length))), some (false, wyD wy), c, d, e] B = r := fun r hr => by
    rw [z_mSeq, k1, z_seq_next]
    unfold aC4b2b2 mFor
    rw [it, z_st_ok]
    exact hr
  rcases al_in W U hn (b := b) wy (wsD (tuG us ((ws.length - b) % ws.length))) B d e with ⟨v, g, h⟩ | ⟨g, σ2, h, x, y, rfl⟩
  · exact .inl ⟨v, g, k2 _ h⟩
  · exact .inr ⟨g, _, k2 _ h, _, _, _, _, rfl⟩
theorem alike_ok (W : OkW m ws) (U : OkW m us) (hn : us.length = ws.length) (B : Bs) : f_alike [codeD ws, codeD us] B = .ok ((srW ws.length m (exF m ws us)).getD .none) B := by
  have hm : f_alike [codeD ws, codeD us] B = (m_alike [some (false, codeD ws), some (false, codeD us), none, none, none, none, none, none] B).fin := rfl
  rw [hm, aCeq]
  have n2 := W.n2
  have n16 := W.n16
  have nc1 := need_code_ok ws B
  have nc2 := need_code_ok us B
  have l1 := len_code_ok ws n16 B
  have l2 := len_code_ok us U.n16 B
  rw [hn] at l2
  have b1 := bits_ok W B
  have b2 := bits_ok U B
  have w2 : ∀ q0 q1 : D, szL [q0, q1] = true := fun _ _ => decide_eq_true (show 2 ≤ sizeLine by decide)
  have nq := ne_nD [ws.length, m] [ws.length, m] B
  simp only [decide_true, Bool.not_true, nD, List.map_cons, List.map_nil] at nq
  have k123 : mSeq aC1 (mSeq aC2 (mSeq aC3 (mSeq aC4 aC5))) [some (false, codeD ws), some (false, codeD us), none, none, none, none, none, none] B = mSeq aC4 aC5 [some (false, codeD ws), some (false, codeD us), none, none, none, none, none, none] B := by
    have k1 : aC1 [some (false, codeD ws), some (false, codeD us), none, none, none, none, none, none] B = .next [some (false, codeD ws), some (false, codeD us), none, none, none, none, none, none] B := by
      unfold aC1
      generalize codeD ws = C at *
      generalize codeD us = C2 at *
      generalize f_need_code = F at *
      simp [nc1]
    have k2 : aC2 [some (false, codeD ws), some (false, codeD us), none, none, none, none, none, none] B = .next [some (false, codeD ws), some (false, codeD us), none, none, none, none, none, none] B := by
      unfold aC2
      generalize codeD ws = C at *
      generalize codeD us = C2 at *
      generalize f_need_code = F at *
      simp [nc2]
    have k3 : aC3 [some (false, codeD ws), some (false, codeD us), none, none, none, none, none, none] B = .next [some (false, codeD ws), some (false, codeD us), none, none, none, none, none, none] B := by
      unfold aC3
      generalize codeD ws = C at *
      generalize codeD us = C2 at *
      simp [l1, l2, b1, b2, w2, nq]
    simp only [z_mSeq, k1, k2, k3, z_seq_next]
  rw [k123]
  have it : aC4i [some (false, codeD ws), some (false, codeD us), none, none, none, none, none, none] B = .ok ((List.range ws.length).map fun i : Nat => D.int i) B := by
    have : rngD 0 ws.length = (List.range ws.length).map fun i : Nat => D.int i := rng_nD _
    rw [← this]
    unfold aC4i
    generalize codeD ws = C at *
    generalize codeD us = C2 at *
    simp only [z_mRng1, z_m1, z_mVar, List.getElem?_cons_zero, z_bind_ok, l1, z_asI, m_rngB (show ws.length ≤ 100 by omega), if_true, Int.toNat_natCast]
  have F := forL_find (t := gN 2) (b := mSeq aC4b1 aC4b2) (B := B) (fun σ => ∃ a b c d e f, σ = [some (false, codeD ws), some (false, codeD us), a, b, c, d, e, f]) (fun i : Nat => D.int i) (g1 m (exF m ws us)) (List.range ws.length) (by
    rintro b hb σ ⟨x2, x3, x4, x5, x6, x7, rfl⟩
    have hb := List.mem_range.mp hb
    refine ⟨[some (false, codeD ws), some (false, codeD us), some (false, .int b), x3, x4, x5, x6, x7], rfl, ?_⟩
    have bg := begun_ok (ws := us) (k := (ws.length - b) % ws.length) U.n16 B
    have wk := words_ok us B
    have md := z_fMod ((ws.length : Int) - (b : Int)) (ws.length : Int) B (by omega)
    have em : ((ws.length : Int) - (b : Int)) % (ws.length : Int) = (((ws.length - b) % ws.length : Nat) : Int) := by
      rw [Int.natCast_emod, Int.ofNat_sub (by omega)]
    rw [em] at md
    have k1 : aC4b1 [some (false, codeD ws), some (false, codeD us), some (false, .int b), x3, x4, x5, x6, x7] B = .next [some (false, codeD ws), some (false, codeD us), some (false, .int b), some (false, wsD (tuG us ((ws.length - b) % ws.length))), x4, x5, x6, x7] B := by
      have bg : f_begun [wsD us, .int ((ws.length - b) % ws.length : Nat)] B = .ok (wsD (tuG us ((ws.length - b) % ws.length))) B := bg
      unfold aC4b1
      generalize wsD (tuG us ((ws.length - b) % ws.length)) = S at *
      generalize (((ws.length - b) % ws.length : Nat) : Int) = K at *
      generalize codeD ws = C at *
      generalize codeD us = C2 at *
      generalize wsD us = S2 at *
      generalize f_begun = F at *
      simp [l1, wk, md, bg]
    have k2 : ∀ r, forL (gN 4) (mSeq aC4b2b1 aC4b2b2) ([true, false].map wyD) [some (false, codeD ws), some (false, codeD us), some (false, .int b), some (false, wsD (tuG us ((ws.length - b) % ws.length))), x4, x5, x6, x7] B = r → mSeq aC4b1 aC4b2 [some (false, codeD ws), some (false, codeD us), some (false, .int b), x3, x4, x5, x6, x7] B = r := fun r hr => by
      have iw : aC4b2i [some (false, codeD ws), some (false, codeD us), some (false, .int b), some (false, wsD (tuG us ((ws.length - b) % ws.length))), x4, x5, x6, x7] B = .ok ([true, false].map wyD) B := rfl
      rw [z_mSeq, k1, z_seq_next]
      unfold aC4b2 mFor
      rw [iw, z_st_ok]
      exact hr
    rcases al_mid W U hn (b := b) B x4 x5 x6 x7 with ⟨v, g, h⟩ | ⟨g, σ2, h, y4, y5, y6, y7, rfl⟩
    · exact .inl ⟨v, g, k2 _ h⟩
    · exact .inr ⟨g, _, k2 _ h, _, _, _, _, _, _, rfl⟩) _ ⟨none, none, none, none, none, none, rfl⟩
  have k4 : ∀ r, forL (gN 2) (mSeq aC4b1 aC4b2) ((List.range ws.length).map fun i : Nat => D.int i) [some (false, codeD ws), some (false, codeD us), none, none, none, none, none, none] B = r → aC4 [some (false, codeD ws), some (false, codeD us), none, none, none, none, none, none] B = r := fun r hr => by
    unfold aC4 mFor
    rw [it, z_st_ok]
    exact hr
  rcases F with ⟨v, g, h⟩ | ⟨g, σ2, h, _⟩
  · have g' : srW ws.length m (exF m ws us) = some v := g
    rw [z_mSeq, k4 _ h, g']
    rfl
  · have g' : srW ws.length m (exF m ws us) = none := g
    rw [z_mSeq, k4 _ h, g']
    rfl
end
end Hk

set_option Elab.async false
set_option linter.all false
set_option maxRecDepth 100000
namespace Hk
open PySem PySem.Spec PyProof.Rows L2 Hf

/-! ### k05: the law's search -/
theorem eqv5_ints : (u w : List Int) → PyData.eqvAll (u.map PyData.int) (w.map PyData.int) = decide (u = w)
  | [], [] => by simp [PyData.eqvAll]
  | [], _ :: _ => by simp [PyData.eqvAll]
  | _ :: _, [] => by simp [PyData.eqvAll]
  | x :: u, y :: w => by
    have ih := eqv5_ints u w
    simp only [List.map_cons, PyData.eqvAll, PyData.eqv, ih, List.cons.injEq]
    by_cases h : x = y <;> simp [h]
theorem eqv5_w (u w : List Int) : PyData.eqv (toPy (wD u)) (toPy (wD w)) = decide (u = w) := by
  rw [toPy_w, toPy_w]
  simp only [PyData.eqv]; exact eqv5_ints u w
theorem eqv5_wss : (a b : List (List Int)) → PyData.eqvAll (toPys (a.map wD)) (toPys (b.map wD)) = decide (a = b)
  | [], [] => by simp [toPys, PyData.eqvAll]
  | [], _ :: _ => by simp [toPys, PyData.eqvAll]
  | _ :: _, [] => by simp [toPys, PyData.eqvAll]
  | x :: a, y :: b => by
    have ih := eqv5_wss a b
    simp only [List.map_cons, toPys, PyData.eqvAll, ih, eqv5_w, List.cons.injEq]
    by_cases h : x = y <;> simp [h]
theorem eq5_ws {m k : Nat} {a b : List (List Int)} (A : OkW m a) (C : OkW k b) (B : Bs) : fEq (wsD a) (wsD b) B = .ok (.bool (decide (a = b))) B := by
  have s1 := A.sm.shp (by omega)
  have s2 := C.sm.shp (by omega)
  have e : eqD (wsD a) (wsD b) = decide (a = b) := by
    simp only [eqD, wsD, toPy, PyData.eqv]
    exact eqv5_wss a b
  simp only [fEq, s1, s2, e, Bool.and_self, if_true]
theorem fl_nil (w : List Int) : flW [] w = w := by
  refine List.ext_getElem? fun i => ?_
  by_cases hi : i < w.length
  · rw [fl_at hi, List.getElem?_eq_getElem hi]
    simp
  · rw [List.getElem?_eq_none (by rw [flW_len]; omega), List.getElem?_eq_none (by omega)]
theorem fl_nils (ws : List (List Int)) : ws.map (flW []) = ws := by
  conv => rhs; rw [← List.map_id ws]
  exact List.map_congr_left fun w _ => fl_nil w
abbrev rsW (wy : Bool) (o ps : List Nat) (ws : List (List Int)) : List (List Int) := if wy then baG ((ws.map (flW ps)).map (plW o)) else (ws.map (flW ps)).map (plW o)
theorem baG_perm {α : Type} (l : List α) : (baG l).Perm l := by
  cases l with
  | nil => exact .refl _
  | cons w r => exact List.Perm.cons _ (List.reverse_perm r)
theorem rs_ok {m : Nat} {ws : List (List Int)} (W : OkW m ws) {o : List Nat} (ho : o.Perm (List.range m)) (ps : List Nat) (wy : Bool) : OkW m (rsW wy o ps ws) := by
  cases wy
  · exact (W.fl ps).pl ho
  · exact ((W.fl ps).pl ho).perm (baG_perm _)
theorem tuG_perm {α : Type} (l : List α) (k : Nat) : (tuG l k).Perm l := by
  refine List.perm_append_comm.trans ?_
  rw [List.take_append_drop]
theorem rest_ok {m : Nat} {ws : List (List Int)} (W : OkW m ws) {o : List Nat} (ho : o.Perm (List.range m)) (ps : List Nat) (wy : Bool) (B : Bs) : f__law_rest [wsD ws, oD o, oD ps, wyD wy] B = .ok (wsD (rsW wy o ps ws)) B := by
  have hm : f__law_rest [wsD ws, oD o, oD ps, wyD wy] B = (m__law_rest [some (false, wsD ws), some (false, oD o), some (false, oD ps), some (false, wyD wy), none] B).fin := rfl
  rw [hm, m__law_rest]
  have f1 : f__law_flipped_words [wsD ws, oD ps] B = .ok (wsD (ws.map (flW ps))) B := flipped_words_ok W B
  have f2 : f__law_renamed_words [wsD (ws.map (flW ps)), oD o] B = .ok (wsD ((ws.map (flW ps)).map (plW o))) B := renamed_words_ok (W.fl ps) ho B
  have f3 := back_words_ok ((W.fl ps).pl ho) B
  rw [back_G] at f3
  have q1 : fEq (wyD true) (.int (-1)) B = .ok (.bool true) B := by kernel_rfl
  have q2 : fEq (wyD false) (.int (-1)) B = .ok (.bool false) B := by kernel_rfl
  unfold rsW
  generalize (ws.map (flW ps)).map (plW o) = L at *
  generalize wsD (ws.map (flW ps)) = S2 at *
  generalize wsD ws = S at *
  generalize oD o = O at *
  generalize oD ps = P at *
  generalize f__law_flipped_words = F1 at *
  generalize f__law_renamed_words = F2 at *
  generalize f__law_back_words = F3 at *
  cases wy
  · generalize wyD false = Y at *
    simp only [Bool.false_eq_true, if_false]
    generalize wsD L = S3 at *
    simp [f1, f2, q2]
  · generalize wyD true = Y at *
    simp only [if_true]
    generalize wsD (baG L) = S4 at *
    generalize wsD L = S3 at *
    simp [f1, f2, f3, q1]
theorem go_rs (wy : Bool) (b : Nat) (o ps : List Nat) (ws : List (List Int)) : tuG (rsW wy o ps ws) b = goG wy b ((ws.map (flW ps)).map (plW o)) := by cases wy <;> rfl
theorem went_ok {m : Nat} {ws : List (List Int)} (W : OkW m ws) {o : List Nat} (ho : o.Perm (List.range m)) (ps : List Nat) (wy : Bool) (b : Nat) (B : Bs) : f__law_turned_words [wsD (rsW wy o ps ws), .int b] B = .ok (wsD (goG wy b ((ws.map (flW ps)).map (plW o)))) B := by
  have := turned_words_ok (ws := rsW wy o ps ws) (k := b) (rs_ok W ho ps wy).n16 B
  rw [← go_rs]
  exact this
theorem go_ok {m : Nat} {ws : List (List Int)} (W : OkW m ws) {o : List Nat} (ho : o.Perm (List.range m)) (ps : List Nat) (wy : Bool) (b : Nat) : OkW m (goG wy b ((ws.map (flW ps)).map (plW o))) := by
  rw [← go_rs]
  exact (rs_ok W ho ps wy).perm (tuG_perm _ _)
theorem ws_ix {m : Nat} {ws : List (List Int)} (W : OkW m ws) (B : Bs) : fIx (wsD ws) (.int 0) B = .ok (wD (ws.getD 0 [])) B ∧ (ws.getD 0 []).length = m := by
  have h0 : 0 < ws.length := by have := W.n2; omega
  have e : ws.getD 0 [] = ws[0] := by simp [h0]
  rw [e]
  exact ⟨by simp [fIx, atI, ixN, h0], W.wid _ (List.getElem_mem h0)⟩
section
variable {m : Nat} {ws us : List (List Int)}
abbrev E8 (ws us : List (List Int)) (b : Nat) (wy : Bool) (o4 o5 o6 o7 : Option (Bool × D)) : Sl := [some (false, wsD ws), some (false, wsD us), some (false, .int b), some (false, wyD wy), o4, o5, o6, o7]
abbrev lwF (m : Nat) (ws us : List (List Int)) (b : Nat) (wy : Bool) (o : List Nat) : Option (List Nat) := lwW m ws us o wy b
theorem du_in (W : OkW m ws) (U : OkW m us) {b : Nat} (wy : Bool) (B : Bs) (o4 o5 o6 o7 : Option (Bool × D)) :
    (∃ v, g2 m (lwF m ws us) b wy = some v ∧ forL (gN 4) (mSeq dC2b1b1b1 (mSeq dC2b1b1b2 dC2b1b1b3)) ((ordW m).map oD) (E8 ws us b wy o4 o5 o6 o7) B = .ret v B) ∨
    (g2 m (lwF m ws us) b wy = none ∧ ∃ σ2, forL (gN 4) (mSeq dC2b1b1b1 (mSeq dC2b1b1b2 dC2b1b1b3)) ((ordW m).map oD) (E8 ws us b wy o4 o5 o6 o7) B = .next σ2 B ∧ ∃ a c d e, σ2 = E8 ws us b wy a c d e) := by
  refine forL_find (t := gN 4) (b := mSeq dC2b1b1b1 (mSeq dC2b1b1b2 dC2b1b1b3)) (B := B) (fun σ => ∃ a c d e, σ = E8 ws us b wy a c d e) oD (g3 (lwF m ws us) b wy) (ordW m) ?_ _ ⟨o4, o5, o6, o7, rfl⟩
  rintro o ho σ ⟨a, c, d, e, rfl⟩
  have hp := ord_perm W.m5 ho
  have h5 := W.m5
  have ol := perm_len hp
  have r0 : f__law_rest [wsD ws, oD o, .tup [], wyD wy] B = .ok (wsD (rsW wy o [] ws)) B := rest_ok W hp [] wy B
  have t0 := went_ok W hp [] wy b B
  have G0 := go_ok W hp [] wy b
  rw [fl_nils] at t0 G0
  have hu := ws_ix G0 B
  have hw := ws_ix U B
  have k1 : dC2b1b1b1 (E8 ws us b wy (some (false, oD o)) c d e) B = .next (E8 ws us b wy (some (false, oD o)) (some (false, wsD (goG wy b (ws.map (plW o))))) d e) B := by
    unfold E8 dC2b1b1b1
    generalize wsD (goG wy b (ws.map (plW o))) = R at *
    generalize wsD (rsW wy o [] ws) = R0 at *
    generalize wsD ws = S at *
    generalize wsD us = S2 at *
    generalize oD o = O at *
    generalize wyD wy = Y at *
    generalize f__law_rest = F1 at *
    generalize f__law_turned_words = F2 at *
    have z0 : szL [] = true := rfl
    simp [r0, t0, z0]
  have lo : fLen (oD o) B = .ok (.int (m : Nat)) B := by simp [fLen, nD, ol]
  obtain ⟨u, hu'⟩ : ∃ u, u = (goG wy b (ws.map (plW o))).getD 0 [] := ⟨_, rfl⟩
  obtain ⟨w, hw'⟩ : ∃ w, w = us.getD 0 [] := ⟨_, rfl⟩
  have es : lwF m ws us b wy o = if goG wy b ((ws.map (flW (spW m u w o))).map (plW o)) = us then some (spW m u w o) else none := by rw [hu', hw']; rfl
  rw [← hu'] at hu
  rw [← hw'] at hw
  clear hu' hw'
  obtain ⟨hu1, hul⟩ := hu
  obtain ⟨hw1, hwl⟩ := hw
  have fo : ∀ i, i < m → o.getD i 0 < m := fun i hi => by
    have hl : i < o.length := by omega
    have : o.getD i 0 = o[i] := by simp [hl]
    rw [this]
    exact (mem_perm hp).mp (List.getElem_mem hl)
  have c2 := mk_lc (j := 7) (mi := mRng1 (m1 fLen (mVar 4))) (mu := mBin fIx (mBin fIx (mVar 5) (mC (.int 0))) (mBin fIx (mVar 4) (mVar 7))) (mw := mBin fIx (mBin fIx (mVar 1) (mC (.int 0))) (mBin fIx (mVar 4) (mVar 7))) (σ := E8 ws us b wy (some (false, oD o)) (some (false, wsD (goG wy b (ws.map (plW o))))) d e) (B := B) hul hwl h5 (by
      unfold E8
      simp only [z_mRng1, z_m1, z_mVar, List.getElem?_cons_succ, List.getElem?_cons_zero, z_bind_ok, lo, z_asI, m_rngB (show m ≤ 100 by omega), if_true, Int.toNat_natCast]) (fun i => o.getD i 0) fo fun i hi => by
    have hl : i < o.length := by omega
    have xo : fIx (oD o) (.int (i : Nat)) B = .ok (.int (o.getD i 0 : Nat)) B := by
      have : o.getD i 0 = o[i] := by simp [hl]
      rw [this]
      simp [fIx, atI, ixN, hl, nD]
    have hf := fo i hi
    generalize o.getD i 0 = j at *
    have ju : j < u.length := by omega
    have jw : j < w.length := by omega
    have p := wx ju B
    have q := wx jw B
    rw [wget ju, wget jw]
    generalize u[j] = ub at *
    generalize w[j] = wb at *
    unfold E8
    generalize wsD (goG wy b (ws.map (plW o))) = R at *
    generalize wsD ws = S at *
    generalize wsD us = S2 at *
    generalize oD o = O at *
    generalize wyD wy = Y at *
    generalize wD u = U1 at *
    generalize wD w = V1 at *
    refine ⟨?_, ?_, rfl⟩
    · simp [wipeI, hu1, xo, p]
    · simp [wipeI, hw1, xo, q]
  have c2 : mLc [7] (gN 7) (mRng1 (m1 fLen (mVar 4))) (mCmpT fNe (mBin fIx (mBin fIx (mVar 5) (mC (.int 0))) (mBin fIx (mVar 4) (mVar 7))) (mBin fIx (mBin fIx (mVar 1) (mC (.int 0))) (mBin fIx (mVar 4) (mVar 7)))) (mVar 7) (E8 ws us b wy (some (false, oD o)) (some (false, wsD (goG wy b (ws.map (plW o))))) d e) B = .ok (.lst (nD (spW m u w o))) B := c2
  have k2 : dC2b1b1b2 (E8 ws us b wy (some (false, oD o)) (some (false, wsD (goG wy b (ws.map (plW o))))) d e) B = .next (E8 ws us b wy (some (false, oD o)) (some (false, wsD (goG wy b (ws.map (plW o))))) (some (false, oD (spW m u w o))) e) B := by
    unfold dC2b1b1b2
    rw [z_mSet, z_m1, c2]
    rfl
  have r1 := rest_ok W hp (spW m u w o) wy B
  have t1 := went_ok W hp (spW m u w o) wy b B
  have eq := eq5_ws (go_ok W hp (spW m u w o) wy b) U B
  have w4 : ∀ q0 q1 q2 q3 : D, szL [q0, q1, q2, q3] = true := fun _ _ _ _ => decide_eq_true (show 4 ≤ sizeLine by decide)
  refine ⟨E8 ws us b wy (some (false, oD o)) c d e, rfl, ?_⟩
  unfold g3
  rw [es, z_mSeq, k1, z_seq_next, z_mSeq, k2, z_seq_next]
  by_cases z : goG wy b ((ws.map (flW (spW m u w o))).map (plW o)) = us
  · rw [if_pos z]
    rw [decide_eq_true z] at eq
    refine .inl ⟨foD b wy o (spW m u w o), rfl, ?_⟩
    unfold E8 dC2b1b1b3 foD
    generalize wsD (goG wy b ((ws.map (flW (spW m u w o))).map (plW o))) = R1 at *
    generalize wsD (rsW wy o (spW m u w o) ws) = R2 at *
    generalize wsD (goG wy b (ws.map (plW o))) = R at *
    generalize wsD ws = S at *
    generalize wsD us = S2 at *
    generalize oD (spW m u w o) = O2 at *
    generalize oD o = O at *
    generalize wyD wy = Y at *
    generalize f__law_rest = F1 at *
    generalize f__law_turned_words = F2 at *
    simp [r1, t1, eq, w4]
  · rw [if_neg z]
    rw [decide_eq_false z] at eq
    refine .inr ⟨rfl, E8 ws us b wy (some (false, oD o)) (some (false, wsD (goG wy b (ws.map (plW o))))) (some (false, oD (spW m u w o))) e, ?_, _, _, _, _, rfl⟩
    unfold E8 dC2b1b1b3
    generalize wsD (goG wy b ((ws.map (flW (spW m u w o))).map (plW o))) = R1 at *
    generalize wsD (rsW wy o (spW m u w o) ws) = R2 at *
    generalize wsD (goG wy b (ws.map (plW o))) = R at *
    generalize wsD ws = S at *
    generalize wsD us = S2 at *
    generalize oD (spW m u w o) = O2 at *
    generalize oD o = O at *
    generalize wyD wy = Y at *
    generalize f__law_rest = F1 at *
    generalize f__law_turned_words = F2 at *
    simp [r1, t1, eq]
theorem du_mid (W : OkW m ws) (U : OkW m us) {b : Nat} (B : Bs) (o3 o4 o5 o6 o7 : Option (Bool × D)) :
    (∃ v, g1 m (lwF m ws us) b = some v ∧ forL (gN 3) dC2b1b1 ([true, false].map wyD) [some (false, wsD ws), some (false, wsD us), some (false, .int b), o3, o4, o5, o6, o7] B = .ret v B) ∨
    (g1 m (lwF m ws us) b = none ∧ ∃ σ2, forL (gN 3) dC2b1b1 ([true, false].map wyD) [some (false, wsD ws), some (false, wsD us), some (false, .int b), o3, o4, o5, o6, o7] B = .next σ2 B ∧ ∃ a c d e f, σ2 = [some (false, wsD ws), some (false, wsD us), some (false, .int b), a, c, d, e, f]) := by
  refine forL_find (t := gN 3) (b := dC2b1b1) (B := B) (fun σ => ∃ a c d e f, σ = [some (false, wsD ws), some (false, wsD us), some (false, .int b), a, c, d, e, f]) wyD (g2 m (lwF m ws us) b) [true, false] ?_ _ ⟨o3, o4, o5, o6, o7, rfl⟩
  rintro wy hw σ ⟨a, c, d, e, f, rfl⟩
  refine ⟨E8 ws us b wy c d e f, rfl, ?_⟩
  have od := (orders_ok W.m1 W.m5 B).2
  have x0 := ws_ix W B
  have it : dC2b1b1i (E8 ws us b wy c d e f) B = .ok ((ordW m).map oD) B := by
    have io : itemsOf (.lst ((ordW m).map oD)) = some ((ordW m).map oD) := rfl
    have x1 := x0.1
    have x2 : fLen (wD (ws.getD 0 [])) B = .ok (.int (m : Nat)) B := by
      simp only [fLen, List.length_map, x0.2]
    unfold E8 dC2b1b1i
    generalize wD (ws.getD 0 []) = w0 at *
    generalize wsD ws = S at *
    generalize wsD us = S2 at *
    generalize f__law_orders = F at *
    generalize (ordW m).map oD = L at *
    simp [x1, x2, od, io]
  have k2 : ∀ r, forL (gN 4) (mSeq dC2b1b1b1 (mSeq dC2b1b1b2 dC2b1b1b3)) ((ordW m).map oD) (E8 ws us b wy c d e f) B = r → dC2b1b1 (E8 ws us b wy c d e f) B = r := fun r hr => by
    unfold dC2b1b1 mFor
    rw [it, z_st_ok]
    exact hr
  rcases du_in W U (b := b) wy B c d e f with ⟨v, g, h⟩ | ⟨g, σ2, h, y1, y2, y3, y4, rfl⟩
  · exact .inl ⟨v, g, k2 _ h⟩
  · exact .inr ⟨g, _, k2 _ h, _, _, _, _, _, rfl⟩
theorem due_ok (W : OkW m ws) (U : OkW m us) (hn : us.length = ws.length) (B : Bs) : f__law_due [wsD ws, wsD us] B = .ok ((srW ws.length m (lwF m ws us)).getD .none) B := by
  have hm : f__law_due [wsD ws, wsD us] B = (m__law_due [some (false, wsD ws), some (false, wsD us), none, none, none, none, none, none] B).fin := rfl
  rw [hm, dCeq]
  have n16 := W.n16
  have x1 := ws_ix W B
  have x2 := ws_ix U B
  have l1 : fLen (wsD ws) B = .ok (.int (ws.length : Nat)) B := by simp [fLen]
  have l2 : fLen (wsD us) B = .ok (.int (ws.length : Nat)) B := by simp [fLen, hn]
  have l3 : fLen (wD (ws.getD 0 [])) B = .ok (.int (m : Nat)) B := by simp only [fLen, List.length_map, x1.2]
  have l4 : fLen (wD (us.getD 0 [])) B = .ok (.int (m : Nat)) B := by simp only [fLen, List.length_map, x2.2]
  have x1 := x1.1
  have x2 := x2.1
  have k1 : dC1 [some (false, wsD ws), some (false, wsD us), none, none, none, none, none, none] B = .next [some (false, wsD ws), some (false, wsD us), none, none, none, none, none, none] B := by
    unfold dC1
    generalize wD (ws.getD 0 []) = w1 at *
    generalize wD (us.getD 0 []) = w2 at *
    generalize wsD ws = S at *
    generalize wsD us = S2 at *
    simp [l1, l2, l3, l4, x1, x2, fNeI]
  have it : dC2i [some (false, wsD ws), some (false, wsD us), none, none, none, none, none, none] B = .ok ((List.range ws.length).map fun i : Nat => D.int i) B := by
    have : rngD 0 ws.length = (List.range ws.length).map fun i : Nat => D.int i := rng_nD _
    rw [← this]
    unfold dC2i
    generalize wsD ws = S at *
    simp only [z_mRng1, z_m1, z_mVar, List.getElem?_cons_zero, z_bind_ok, l1, z_asI, m_rngB (show ws.length ≤ 100 by omega), if_true, Int.toNat_natCast]
  have F := forL_find (t := gN 2) (b := dC2b1) (B := B) (fun σ => ∃ a b c d e f, σ = [some (false, wsD ws), some (false, wsD us), a, b, c, d, e, f]) (fun i : Nat => D.int i) (g1 m (lwF m ws us)) (List.range ws.length) (by
    rintro b hb σ ⟨x2, x3, x4, x5, x6, x7, rfl⟩
    refine ⟨[some (false, wsD ws), some (false, wsD us), some (false, .int b), x3, x4, x5, x6, x7], rfl, ?_⟩
    have k2 : ∀ r, forL (gN 3) dC2b1b1 ([true, false].map wyD) [some (false, wsD ws), some (false, wsD us), some (false, .int b), x3, x4, x5, x6, x7] B = r → dC2b1 [some (false, wsD ws), some (false, wsD us), some (false, .int b), x3, x4, x5, x6, x7] B = r := fun r hr => by
      have iw : dC2b1i [some (false, wsD ws), some (false, wsD us), some (false, .int b), x3, x4, x5, x6, x7] B = .ok ([true, false].map wyD) B := rfl
      unfold dC2b1 mFor
      rw [iw, z_st_ok]
      exact hr
    rcases du_mid W U (b := b) B x3 x4 x5 x6 x7 with ⟨v, g, h⟩ | ⟨g, σ2, h, y3, y4, y5, y6, y7, rfl⟩
    · exact .inl ⟨v, g, k2 _ h⟩
    · exact .inr ⟨g, _, k2 _ h, _, _, _, _, _, _, rfl⟩) _ ⟨none, none, none, none, none, none, rfl⟩
  have k4 : ∀ r, forL (gN 2) dC2b1 ((List.range ws.length).map fun i : Nat => D.int i) [some (false, wsD ws), some (false, wsD us), none, none, none, none, none, none] B = r → dC2 [some (false, wsD ws), some (false, wsD us), none, none, none, none, none, none] B = r := fun r hr => by
    unfold dC2 mFor
    rw [it, z_st_ok]
    exact hr
  rw [z_mSeq, k1, z_seq_next]
  rcases F with ⟨v, g, h⟩ | ⟨g, σ2, h, _⟩
  · have g' : srW ws.length m (lwF m ws us) = some v := g
    rw [z_mSeq, k4 _ h, g']
    rfl
  · have g' : srW ws.length m (lwF m ws us) = none := g
    rw [z_mSeq, k4 _ h, g']
    rfl
end
end Hk

set_option Elab.async false
set_option linter.all false
set_option maxRecDepth 100000
namespace Hk
open PySem PySem.Spec PyProof.Rows L2 Hf

/-! ### k05: what is found is the same, and can be told -/
section
variable {m k : Nat} {ws us : List (List Int)}
theorem alike_no (W : OkW m ws) (U : OkW k us) (hn : ¬ ([ws.length, m] = [us.length, k])) (B : Bs) : f_alike [codeD ws, codeD us] B = .ok .none B := by
  have hm : f_alike [codeD ws, codeD us] B = (m_alike [some (false, codeD ws), some (false, codeD us), none, none, none, none, none, none] B).fin := rfl
  rw [hm, aCeq]
  have nc1 := need_code_ok ws B
  have nc2 := need_code_ok us B
  have l1 := len_code_ok ws W.n16 B
  have l2 := len_code_ok us U.n16 B
  have b1 := bits_ok W B
  have b2 := bits_ok U B
  have w2 : ∀ q0 q1 : D, szL [q0, q1] = true := fun _ _ => decide_eq_true (show 2 ≤ sizeLine by decide)
  have nq := ne_nD [ws.length, m] [us.length, k] B
  rw [decide_eq_false hn] at nq
  simp only [Bool.not_false, nD, List.map_cons, List.map_nil] at nq
  have k1 : aC1 [some (false, codeD ws), some (false, codeD us), none, none, none, none, none, none] B = .next [some (false, codeD ws), some (false, codeD us), none, none, none, none, none, none] B := by
    unfold aC1
    generalize codeD ws = C at *
    generalize codeD us = C2 at *
    generalize f_need_code = F at *
    simp [nc1]
  have k2 : aC2 [some (false, codeD ws), some (false, codeD us), none, none, none, none, none, none] B = .next [some (false, codeD ws), some (false, codeD us), none, none, none, none, none, none] B := by
    unfold aC2
    generalize codeD ws = C at *
    generalize codeD us = C2 at *
    generalize f_need_code = F at *
    simp [nc2]
  have k3 : aC3 [some (false, codeD ws), some (false, codeD us), none, none, none, none, none, none] B = .ret .none B := by
    unfold aC3
    generalize codeD ws = C at *
    generalize codeD us = C2 at *
    simp [l1, l2, b1, b2, w2, nq]
  rw [z_mSeq, k1, z_seq_next, z_mSeq, k2, z_seq_next, z_mSeq, k3]
  rfl
theorem due_no (W : OkW m ws) (U : OkW k us) (hn : ¬ ([ws.length, m] = [us.length, k])) (B : Bs) : f__law_due [wsD ws, wsD us] B = .ok .none B := by
  have hm : f__law_due [wsD ws, wsD us] B = (m__law_due [some (false, wsD ws), some (false, wsD us), none, none, none, none, none, none] B).fin := rfl
  rw [hm, dCeq]
  have x1 := ws_ix W B
  have x2 := ws_ix U B
  have l1 : fLen (wsD ws) B = .ok (.int (ws.length : Nat)) B := by simp [fLen]
  have l2 : fLen (wsD us) B = .ok (.int (us.length : Nat)) B := by simp [fLen]
  have l3 : fLen (wD (ws.getD 0 [])) B = .ok (.int (m : Nat)) B := by simp only [fLen, List.length_map, x1.2]
  have l4 : fLen (wD (us.getD 0 [])) B = .ok (.int (k : Nat)) B := by simp only [fLen, List.length_map, x2.2]
  have x1 := x1.1
  have x2 := x2.1
  have k1 : dC1 [some (false, wsD ws), some (false, wsD us), none, none, none, none, none, none] B = .ret .none B := by
    unfold dC1
    generalize ws.length = n1 at *
    generalize us.length = n2 at *
    generalize wD (ws.getD 0 []) = w1 at *
    generalize wD (us.getD 0 []) = w2 at *
    generalize wsD ws = S at *
    generalize wsD us = S2 at *
    by_cases q : n1 = n2
    · have : ¬ m = k := fun z => hn (by rw [q, z])
      have : ¬ (m : Int) = (k : Int) := by omega
      subst q
      simp [l1, l2, l3, l4, x1, x2, fNeI, this]
    · have : ¬ (n1 : Int) = (n2 : Int) := by omega
      simp [l1, l2, l3, l4, x1, x2, fNeI, this]
  rw [z_mSeq, k1]
  rfl
theorem sr_mem {n : Nat} {X : Nat → Bool → List Nat → Option (List Nat)} {v : D} (h : srW n m X = some v) : ∃ b wy o ps, b < n ∧ o ∈ ordW m ∧ X b wy o = some ps ∧ v = foD b wy o ps := by
  obtain ⟨b, hb, h⟩ := List.exists_of_findSome?_eq_some h
  obtain ⟨wy, _, h⟩ := List.exists_of_findSome?_eq_some h
  obtain ⟨o, ho, h⟩ := List.exists_of_findSome?_eq_some h
  obtain ⟨ps, hp, e⟩ := Option.map_eq_some_iff.mp h
  exact ⟨b, wy, o, ps, List.mem_range.mp hb, ho, hp, e.symm⟩
theorem sm_nD {o : List Nat} (h : ∀ i ∈ o, i < 5) (hl : o.length ≤ 5) : Sm 1 55 (oD o) := by
  have : Sm 1 ((nD o).length * 11) (oD o) := sm_tup fun d hd => by
    obtain ⟨i, hi, rfl⟩ := List.mem_map.mp hd
    exact sm_nat (by have := h i hi; omega)
  exact this.mono (by omega) (by rw [List.length_map]; omega)
theorem sm_fo {b : Nat} {wy : Bool} {o ps : List Nat} (hb : b ≤ 600) (ho : ∀ i ∈ o, i < 5) (hl : o.length ≤ 5) (hp : ∀ i ∈ ps, i < 5) (hpl : ps.length ≤ 5) : Sm 2 224 (foD b wy o ps) := by
  have h : ∀ d ∈ [D.int b, wyD wy, oD o, oD ps], Sm 1 55 d := fun d hd => by
    simp only [List.mem_cons, List.not_mem_nil, or_false] at hd
    rcases hd with rfl | rfl | rfl | rfl
    · exact (sm_nat hb).mono (by decide) (by decide)
    · cases wy
      · exact (sm_int (i := 1) (by decide) (by decide)).mono (by decide) (by decide)
      · exact (sm_int (i := -1) (by decide) (by decide)).mono (by decide) (by decide)
    · exact sm_nD ho hl
    · exact sm_nD hp hpl
  exact (sm_tup h).mono (by decide) (by simp)
theorem found_ok (W : OkW m ws) (U : OkW k us) (B : Bs) : ∃ v, f_alike [codeD ws, codeD us] B = .ok v B ∧ f__law_due [wsD ws, wsD us] B = .ok v B ∧ Sm 2 224 v := by
  by_cases q : [ws.length, m] = [us.length, k]
  · simp only [List.cons.injEq, and_true] at q
    obtain ⟨hn, rfl⟩ := q
    have e : srW ws.length m (exF m ws us) = srW ws.length m (lwF m ws us) := sr_congr fun b hb wy o ho => ex_lw W U hn.symm (ord_perm W.m5 ho) wy hb
    have a := alike_ok W U hn.symm B
    have d := due_ok W U hn.symm B
    rw [e] at a
    refine ⟨_, a, d, ?_⟩
    cases hs : srW ws.length m (lwF m ws us) with
    | none => exact sm_none.mono (by decide) (by decide)
    | some v =>
      obtain ⟨b, wy, o, ps, hb, ho, hp, rfl⟩ := sr_mem hs
      have n16 := W.n16
      have m5 := W.m5
      have pm := ord_perm W.m5 ho
      have hq : ps = spW m ((goG wy b (ws.map (plW o))).getD 0 []) (us.getD 0 []) o := by
        have hp : lwW m ws us o wy b = some ps := hp
        unfold lwW at hp
        split at hp
        · exact (Option.some.inj hp).symm
        · cases hp
      refine sm_fo (by omega) (fun i hi => ?_) ?_ (fun i hi => ?_) ?_
      · have := (mem_perm pm).mp hi
        omega
      · rw [perm_len pm]
        exact m5
      · rw [hq] at hi
        have := List.mem_range.mp (List.mem_filter.mp hi).1
        omega
      · rw [hq]
        refine Nat.le_trans (List.length_filter_le ..) ?_
        simpa using m5
  · exact ⟨.none, alike_no W U q B, due_no W U q B, sm_none.mono (by decide) (by decide)⟩
theorem told_ok {v : D} (h : Sm 2 224 v) (B : Bs) : f__law_same [.lst [v, v], .lst [v, v]] B = .ok (.bool true) B := by
  have : Sm 3 ([v, v].length * 225) (.lst [v, v]) := sm_lst fun d hd => by
    simp only [List.mem_cons, List.not_mem_nil, or_false, or_self] at hd
    subst hd
    exact h
  exact this.same rfl (by decide) (by simp) B
end
/-! ### k05: words near to others -/
theorem lcL_any {t : Tg} {mt : Et} {me : Ev} {σ : Sl} (I : Bs → Prop) (Q : D → Prop) : (ds : List D) → (B : Bs) → (h : ∀ d ∈ ds, ∀ B, I B → ∃ σ' q B', t d σ = some σ' ∧ mt σ' B = .ok q B' ∧ I B' ∧ ∃ e, me σ' B' = .ok e B' ∧ Q e) → I B →
    ∃ es B', lcL t mt me σ ds B = .ok es B' ∧ I B' ∧ es.length ≤ ds.length ∧ ∀ e ∈ es, Q e
  | [], B, _, hI => ⟨[], B, rfl, hI, Nat.le_refl _, fun e h => by cases h⟩
  | d :: ds, B, h, hI => by
    obtain ⟨σ', q, B1, h1, h2, h3, e, h4, h5⟩ := h d (List.mem_cons_self ..) B hI
    obtain ⟨es, B2, g1, g2, g3, g4⟩ := lcL_any (t := t) (mt := mt) (me := me) (σ := σ) I Q ds B1 (fun d hd => h d (List.mem_cons_of_mem _ hd)) h3
    cases q
    · exact ⟨es, B2, by simp [lcL, h1, h2, g1], g2, by simp; omega, g4⟩
    · refine ⟨e :: es, B2, by simp [lcL, h1, h2, h4, g1], g2, by simp; omega, fun x hx => ?_⟩
      rcases List.mem_cons.mp hx with rfl | hx
      · exact h5
      · exact g4 x hx
def nB1 : Ms := (mAsg (gT (gsC (gN 2) (gsC (gN 3) gs0))) (mTup (mCons (m1 fLen (mBin fIx (mVar 1) (mC (.int 0)))) (mCons (mCall f__law_draw [] (mCons (mVar 0) (mCons (m1 fLen (mVar 1)) mNil))) mNil))))
def nB2 : Ms := (mAsg (gT (gsC (gN 4) (gsC (gN 5) gs0))) (mTup (mCons (m1 fTupO (mCall f__law_mixed [] (mCons (mVar 0) (mCons (m1 (fRg1 D.lst) (mVar 2)) mNil)))) (mCons (mBin fIx (mLst (mCons (mNeg (mC (.int 1))) (mCons (mC (.int 1)) mNil))) (mCall f__law_draw [] (mCons (mVar 0) (mCons (mC (.int 2)) mNil)))) mNil))))
def nB3l : Ev := (mLc [7] (gN 7) (mRng1 (mVar 2)) (mCmpT fEq (mCall f__law_draw [] (mCons (mVar 0) (mCons (mC (.int 2)) mNil))) (mC (.int 0))) (mVar 7))
def nB3 : Ms := (mSet 6 (m1 fTupO nB3l))
def nB4 : Ms := (mSet 8 (mCall f__law_turned_words [] (mCons (mCall f__law_rest [] (mCons (mVar 1) (mCons (mVar 4) (mCons (mVar 6) (mCons (mVar 5) mNil))))) (mCons (mVar 3) mNil))))
def nB5 : Ms := (mIf (mCmpT fGt (mCall f__law_draw [] (mCons (mVar 0) (mCons (mC (.int 3)) mNil))) (mC (.int 0))) (mRet (mVar 8)) mSkip)
def nB6 : Ms := (mRet (mBin fAdd (mBin fAdd (mSl11 (mVar 8) (mC (.int 1)) (mC (.int 2))) (mSl01 (mVar 8) (mC (.int 1)))) (mSl10 (mVar 8) (mC (.int 2)))))
theorem nBeq : m__law_near = mSeq nB1 (mSeq nB2 (mSeq nB3 (mSeq nB4 (mSeq nB5 nB6)))) := rfl
theorem pick_way (v : Int) (h0 : 0 ≤ v) (h1 : v < 2) (B : Bs) : ∃ wy, fIx (.lst [.int (-1), .int 1]) (.int v) B = .ok (wyD wy) B := by
  have : v = 0 ∨ v = 1 := by omega
  rcases this with rfl | rfl
  · exact ⟨true, rfl⟩
  · exact ⟨false, rfl⟩
theorem nats_of : (es : List D) → (∀ e ∈ es, ∃ i : Nat, e = .int i) → ∃ ps : List Nat, es = nD ps
  | [], _ => ⟨[], rfl⟩
  | e :: es, h => by
    obtain ⟨i, rfl⟩ := h e (List.mem_cons_self ..)
    obtain ⟨ps, rfl⟩ := nats_of es fun e he => h e (List.mem_cons_of_mem _ he)
    exact ⟨i :: ps, rfl⟩
theorem near_ok {m n : Nat} {ws : List (List Int)} {B : Bs} (W : OkW m ws) (P : PenOk B n) : ∃ us B', f__law_near [.box n, wsD ws] B = .ok (wsD us) B' ∧ OkW m us ∧ PenOk B' n := by
  have hm : f__law_near [.box n, wsD ws] B = (m__law_near [some (false, .box n), some (false, wsD ws), none, none, none, none, none, none, none] B).fin := rfl
  rw [hm, nBeq]
  have n2 := W.n2
  have n16 := W.n16
  have m5 := W.m5
  have w2 : ∀ q0 q1 : D, szL [q0, q1] = true := fun _ _ => decide_eq_true (show 2 ≤ sizeLine by decide)
  obtain ⟨v, B1, d1, v0, v1, S1⟩ := law_draw_ok (k := (ws.length : Nat)) P (by omega) (by omega)
  obtain ⟨b, rfl⟩ : ∃ b : Nat, v = b := ⟨v.toNat, by omega⟩
  have k1 : nB1 [some (false, .box n), some (false, wsD ws), none, none, none, none, none, none, none] B = .next [some (false, .box n), some (false, wsD ws), some (false, .int m), some (false, .int b), none, none, none, none, none] B1 := by
    have x := ws_ix W B
    have l1 : fLen (wsD ws) B = .ok (.int (ws.length : Nat)) B := by simp [fLen]
    have l3 : fLen (wD (ws.getD 0 [])) B = .ok (.int (m : Nat)) B := by simp only [fLen, List.length_map, x.2]
    have x := x.1
    unfold nB1
    generalize wD (ws.getD 0 []) = w1 at *
    generalize wsD ws = S at *
    generalize f__law_draw = F at *
    simp [l1, l3, x, d1, w2]
  obtain ⟨o, B2, e2, ho, P2⟩ := order_ok (m := m) S1.ok m5
  obtain ⟨v2, B3, d3, a3, b3, S3⟩ := law_draw_ok (k := 2) P2 (by omega) (by omega)
  obtain ⟨wy, pw⟩ := pick_way v2 a3 b3 B3
  have k2 : nB2 [some (false, .box n), some (false, wsD ws), some (false, .int m), some (false, .int b), none, none, none, none, none] B1 = .next [some (false, .box n), some (false, wsD ws), some (false, .int m), some (false, .int b), some (false, oD o), some (false, wyD wy), none, none, none] B3 := by
    have lr := lstRg (m := m) m5 B1
    have tl : fTupO (.lst (nD o)) B2 = .ok (oD o) B2 := rfl
    unfold nB2
    generalize D.lst (nD o) = L at *
    generalize oD o = O at *
    generalize wyD wy = Y at *
    generalize D.lst (rngD 0 m) = R at *
    generalize wsD ws = S at *
    generalize f__law_draw = F at *
    generalize f__law_mixed = G at *
    simp [lr, e2, tl, d3, pw, w2]
  obtain ⟨es, B4, l4, P4, len4, q4⟩ := lcL_any (t := gN 7) (mt := mCmpT fEq (mCall f__law_draw [] (mCons (mVar 0) (mCons (mC (.int 2)) mNil))) (mC (.int 0))) (me := mVar 7) (σ := wipeI [some (false, .box n), some (false, wsD ws), some (false, .int m), some (false, .int b), some (false, oD o), some (false, wyD wy), none, none, none] [7])
    (fun B => PenOk B n) (fun e => ∃ i : Nat, e = .int i) (rngD 0 m) B3 (by
      intro d hd B P
      obtain ⟨v, B1, d1, v0, v1, S1⟩ := law_draw_ok (k := 2) P (by omega) (by omega)
      rw [rng_nD] at hd
      obtain ⟨i, _, rfl⟩ := List.mem_map.mp hd
      refine ⟨_, v == 0, B1, rfl, ?_, S1.ok, _, rfl, i, rfl⟩
      have fe : fEq (.int v) (.int 0) B1 = .ok (.bool (v == 0)) B1 := by simp [fEq, shp_int, eqD, toPy, PyData.eqv]
      generalize f__law_draw = F at *
      generalize wsD ws = S at *
      generalize oD o = O at *
      generalize wyD wy = Y at *
      simp [wipeI, d1, fe]) S3.ok
  obtain ⟨ps, rfl⟩ := nats_of es q4
  have k3 : nB3 [some (false, .box n), some (false, wsD ws), some (false, .int m), some (false, .int b), some (false, oD o), some (false, wyD wy), none, none, none] B3 = .next [some (false, .box n), some (false, wsD ws), some (false, .int m), some (false, .int b), some (false, oD o), some (false, wyD wy), some (false, oD ps), none, none] B4 := by
    have hs : szL (nD ps) = true := decide_eq_true (Nat.le_trans (Nat.le_trans len4 (by simp [rngD]; omega)) (show 5 ≤ sizeLine by decide))
    have lc : nB3l [some (false, .box n), some (false, wsD ws), some (false, .int m), some (false, .int b), some (false, oD o), some (false, wyD wy), none, none, none] B3 = .ok (.lst (nD ps)) B4 := by
      unfold nB3l mLc
      have : mRng1 (mVar 2) [some (false, .box n), some (false, wsD ws), some (false, .int m), some (false, .int b), some (false, oD o), some (false, wyD wy), none, none, none] B3 = .ok (rngD 0 m) B3 := by
        simp only [z_mRng1, z_mVar, List.getElem?_cons_succ, List.getElem?_cons_zero, z_bind_ok, z_asI, m_rngB (show m ≤ 100 by omega), if_true, Int.toNat_natCast]
      rw [this, z_bind_ok, l4]
      simp [hs]
    unfold nB3
    rw [z_mSet, z_m1, lc]
    rfl
  have r4 := rest_ok W ho ps wy B4
  have t4 := went_ok W ho ps wy b B4
  have G4 := go_ok W ho ps wy b
  have len4 : (goG wy b ((ws.map (flW ps)).map (plW o))).length = ws.length := by rw [go_len]; simp
  generalize goG wy b ((ws.map (flW ps)).map (plW o)) = us at t4 G4 len4
  have k4 : nB4 [some (false, .box n), some (false, wsD ws), some (false, .int m), some (false, .int b), some (false, oD o), some (false, wyD wy), some (false, oD ps), none, none] B4 = .next [some (false, .box n), some (false, wsD ws), some (false, .int m), some (false, .int b), some (false, oD o), some (false, wyD wy), some (false, oD ps), none, some (false, wsD us)] B4 := by
    unfold nB4
    generalize wsD us = S2 at *
    generalize wsD (rsW wy o ps ws) = S3 at *
    generalize wsD ws = S at *
    generalize oD o = O at *
    generalize oD ps = O2 at *
    generalize wyD wy = Y at *
    generalize f__law_rest = F at *
    generalize f__law_turned_words = F2 at *
    simp [r4, t4]
  obtain ⟨v5, B5, d5, a5, b5, S5⟩ := law_draw_ok (k := 3) P4 (by omega) (by omega)
  by_cases z : v5 > 0
  · refine ⟨us, B5, ?_, G4, S5.ok⟩
    have k5 : nB5 [some (false, .box n), some (false, wsD ws), some (false, .int m), some (false, .int b), some (false, oD o), some (false, wyD wy), some (false, oD ps), none, some (false, wsD us)] B4 = .ret (wsD us) B5 := by
      unfold nB5
      generalize wsD us = S2 at *
      generalize wsD ws = S at *
      generalize oD o = O at *
      generalize oD ps = O2 at *
      generalize wyD wy = Y at *
      generalize f__law_draw = F at *
      simp [d5, z]
    simp only [z_mSeq, k1, k2, k3, k4, k5, z_seq_next]
    rfl
  · have k5 : nB5 [some (false, .box n), some (false, wsD ws), some (false, .int m), some (false, .int b), some (false, oD o), some (false, wyD wy), some (false, oD ps), none, some (false, wsD us)] B4 = .next [some (false, .box n), some (false, wsD ws), some (false, .int m), some (false, .int b), some (false, oD o), some (false, wyD wy), some (false, oD ps), none, some (false, wsD us)] B5 := by
      unfold nB5
      generalize wsD us = S2 at *
      generalize wsD ws = S at *
      generalize oD o = O at *
      generalize oD ps = O2 at *
      generalize wyD wy = Y at *
      generalize f__law_draw = F at *
      simp [d5, z]
    match us, len4, G4, k4, k5 with
    | [], h, _, _, _ => simp at h; omega
    | [x], h, _, _, _ => simp at h; omega
    | x :: y :: r, h, G4, k4, k5 =>
      refine ⟨y :: x :: r, B5, ?_, G4.perm (List.Perm.swap x y r), S5.ok⟩
      have h : r.length + 2 = ws.length := by simpa using h
      have c1 : fSl (wsD (x :: y :: r)) (some 1) (some 2) B5 = .ok (.tup [wD y]) B5 := by
        have e : cut (wD x :: wD y :: r.map wD) (some 1) (some 2) = [wD y] := by
          unfold cut HT.sIx
          simp
        show Rs.ok (D.tup (cut (wD x :: wD y :: r.map wD) (some 1) (some 2))) B5 = _
        rw [e]
      have c2 : fSl (wsD (x :: y :: r)) none (some 1) B5 = .ok (.tup [wD x]) B5 := by
        show Rs.ok (D.tup (cut (wD x :: wD y :: r.map wD) none (some ((1 : Nat) : Int)))) B5 = _
        rw [cut_hi]
        rfl
      have c3 : fSl (wsD (x :: y :: r)) (some 2) none B5 = .ok (.tup (r.map wD)) B5 := by
        show Rs.ok (D.tup (cut (wD x :: wD y :: r.map wD) (some ((2 : Nat) : Int)) none)) B5 = _
        rw [cut_lo]
        rfl
      have p1 := add_tup (a := [wD y]) (b := [wD x]) (by simp) B5
      have p2 := add_tup (a := [wD y] ++ [wD x]) (b := r.map wD) (by simp; omega) B5
      have k6 : nB6 [some (false, .box n), some (false, wsD ws), some (false, .int m), some (false, .int b), some (false, oD o), some (false, wyD wy), some (false, oD ps), none, some (false, wsD (x :: y :: r))] B5 = .ret (wsD (y :: x :: r)) B5 := by
        unfold nB6
        have e : wsD (y :: x :: r) = .tup ([wD y] ++ [wD x] ++ r.map wD) := rfl
        rw [e]
        generalize D.tup ([wD y] ++ [wD x] ++ r.map wD) = T5 at *
        generalize D.tup ([wD y] ++ [wD x]) = T4 at *
        generalize D.tup [wD y] = T1 at *
        generalize D.tup [wD x] = T2 at *
        generalize D.tup (r.map wD) = T3 at *
        generalize wsD (x :: y :: r) = S2 at *
        generalize wsD ws = S at *
        generalize oD o = O at *
        generalize oD ps = O2 at *
        generalize wyD wy = Y at *
        simp [c1, c2, c3, p1, p2]
      simp only [z_mSeq, k1, k2, k3, k4, k5, k6, z_seq_next]
      rfl
end Hk

set_option Elab.async false
set_option linter.all false
set_option maxRecDepth 100000
namespace Hk
open PySem PySem.Spec PyProof.Rows L2 Hf

/-! ### k05: the law holds -/
theorem OkW.take5 {m : Nat} {ws : List (List Int)} (W : OkW m ws) {k : Nat} (h : 2 ≤ k) : OkW m (ws.take k) :=
  ⟨by have := W.n2; rw [List.length_take]; omega, by have := W.n16; rw [List.length_take]; omega, W.m1, W.m5, fun w hw => W.wid w (List.mem_of_mem_take hw), fun w hw => W.bits w (List.mem_of_mem_take hw), (List.take_sublist _ _).nodup W.nd⟩
theorem pick_turn {t : Nat} (h : t < 5) (B : Bs) : ∃ (a : Int) (b : Nat), fIx (.lst [.int 3, .int 4, .int 3, .int 5, .int 2]) (.int t) B = .ok (.int a) B ∧ 1 ≤ a ∧ a ≤ 5 ∧ fIx (.lst [.int 8, .int 9, .int 8, .int 6, .int 8]) (.int t) B = .ok (.int b) B ∧ 2 ≤ b := by
  have : t = 0 ∨ t = 1 ∨ t = 2 ∨ t = 3 ∨ t = 4 := by omega
  rcases this with rfl | rfl | rfl | rfl | rfl
  · exact ⟨3, 8, rfl, by decide, by decide, rfl, by decide⟩
  · exact ⟨4, 9, rfl, by decide, by decide, rfl, by decide⟩
  · exact ⟨3, 8, rfl, by decide, by decide, rfl, by decide⟩
  · exact ⟨5, 6, rfl, by decide, by decide, rfl, by decide⟩
  · exact ⟨2, 8, rfl, by decide, by decide, rfl, by decide⟩
def gB1 : Ms := (mSet 4 (mSl01 (mCall f__law_words [] (mCons (mVar 2) (mCons (mBin fIx (mLst (mCons (mC (.int 3)) (mCons (mC (.int 4)) (mCons (mC (.int 3)) (mCons (mC (.int 5)) (mCons (mC (.int 2)) mNil)))))) (mVar 3)) mNil))) (mBin fIx (mLst (mCons (mC (.int 8)) (mCons (mC (.int 9)) (mCons (mC (.int 8)) (mCons (mC (.int 6)) (mCons (mC (.int 8)) mNil)))))) (mVar 3))))
def gB2i : Ei := (mItems (mLst (mCons (mVar 4) (mCons (mCall f__law_near [] (mCons (mVar 2) (mCons (mVar 4) mNil))) (mCons (mCall f__law_near [] (mCons (mVar 2) (mCons (mVar 4) mNil))) (mCons (mCall f__law_words [] (mCons (mVar 2) (mCons (mC (.int 3)) mNil))) mNil))))))
def gB2a : Ms := (mAsg (gT (gsC (gN 6) (gsC (gN 7) (gsC (gN 8) gs0)))) (mTup (mCons (mCall f__law_due [] (mCons (mVar 4) (mCons (mVar 5) mNil))) (mCons (mCall f__law_made [] (mCons (mVar 4) mNil)) (mCons (mCall f__law_made [] (mCons (mVar 5) mNil)) mNil)))))
def gB2b : Ms := (mIf (mNotT (mT (mCall f__law_same [] (mCons (mLst (mCons (mCall f_alike [] (mCons (mVar 7) (mCons (mVar 8) mNil))) (mCons (mCall f_alike [] (mCons (mVar 7) (mCons (mVar 8) mNil))) mNil))) (mCons (mLst (mCons (mVar 6) (mCons (mVar 6) mNil))) mNil))))) (mRet (mC (.bool false))) mSkip)
def gB2 : Ms := mFor (gN 5) gB2i (mSeq gB2a gB2b)
def gB : Ms := (mFor (gN 3) (mRng1 (mC (.int 5))) (mSeq gB1 gB2))
abbrev L9 (s : D) (k n : Nat) (o3 o4 o5 o6 o7 o8 : Option (Bool × D)) : Sl := [some (false, s), some (false, .int k), some (false, .box n), o3, o4, o5, o6, o7, o8]
theorem pair_ok {m j : Nat} {ws us : List (List Int)} (W : OkW m ws) (U : OkW j us) (s : D) (k n : Nat) (B : Bs) (o3 o6 o7 o8 : Option (Bool × D)) :
    ∃ a b c, mSeq gB2a gB2b (L9 s k n o3 (some (false, wsD ws)) (some (false, wsD us)) o6 o7 o8) B = .next (L9 s k n o3 (some (false, wsD ws)) (some (false, wsD us)) a b c) B := by
  obtain ⟨v, e1, e2, hv⟩ := found_ok W U B
  have e3 := told_ok hv B
  have m1 := made_ok W B
  have m2 := made_ok U B
  have w2 : ∀ q0 q1 : D, szL [q0, q1] = true := fun _ _ => decide_eq_true (show 2 ≤ sizeLine by decide)
  have w3 : ∀ q0 q1 q2 : D, szL [q0, q1, q2] = true := fun _ _ _ => decide_eq_true (show 3 ≤ sizeLine by decide)
  refine ⟨some (false, v), some (false, codeD ws), some (false, codeD us), ?_⟩
  unfold L9 gB2a gB2b
  generalize codeD ws = C at *
  generalize codeD us = C2 at *
  generalize wsD ws = S at *
  generalize wsD us = S2 at *
  generalize f__law_due = F1 at *
  generalize f__law_made = F2 at *
  generalize f__law_same = F3 at *
  generalize f_alike = F4 at *
  simp [e1, e2, e3, m1, m2, w2, w3]
theorem turn_ok {n : Nat} {B : Bs} (P : PenOk B n) (s : D) (k t : Nat) (ht : t < 5) (o4 o5 o6 o7 o8 : Option (Bool × D)) :
    ∃ B' a b c d e, mSeq gB1 gB2 (L9 s k n (some (false, .int t)) o4 o5 o6 o7 o8) B = .next (L9 s k n (some (false, .int t)) a b c d e) B' ∧ PenOk B' n := by
  obtain ⟨a, b, x1, a1, a5, x2, b2⟩ := pick_turn ht B
  obtain ⟨m, ws0, B1, e1, W0, P1⟩ := law_words_ok (most := a) P a1 a5
  have W := W0.take5 b2
  have x2' : fIx (.lst [.int 8, .int 9, .int 8, .int 6, .int 8]) (.int t) B1 = .ok (.int b) B1 := by
    obtain ⟨a', b', _, _, _, y, _⟩ := pick_turn ht B1
    have e : ∀ B, fIx (.lst [.int 8, .int 9, .int 8, .int 6, .int 8]) (.int t) B = .ok (.int ((([8, 9, 8, 6, 8] : List Int)[t]?).getD 0)) B := fun B => by
      have : t = 0 ∨ t = 1 ∨ t = 2 ∨ t = 3 ∨ t = 4 := by omega
      rcases this with rfl | rfl | rfl | rfl | rfl <;> rfl
    rw [e] at x2 ⊢
    injection x2 with h1 h2
    rw [h1]
  have c := cut_hi (ws0.map wD) b
  rw [← List.map_take] at c
  have k1 : gB1 (L9 s k n (some (false, .int t)) o4 o5 o6 o7 o8) B = .next (L9 s k n (some (false, .int t)) (some (false, wsD (ws0.take b))) o5 o6 o7 o8) B1 := by
    have e1' : f__law_words [.box n, .int a] B = .ok (.tup (ws0.map wD)) B1 := e1
    have sl : fSl (.tup (ws0.map wD)) none (some (b : Int)) B1 = .ok (wsD (ws0.take b)) B1 := by
      simp only [fSl, c]
    have w5 : ∀ q0 q1 q2 q3 q4 : D, szL [q0, q1, q2, q3, q4] = true := fun _ _ _ _ _ => decide_eq_true (show 5 ≤ sizeLine by decide)
    unfold L9 gB1
    generalize wsD (ws0.take b) = Y at *
    generalize D.tup (ws0.map wD) = Z at *
    generalize f__law_words = F at *
    simp [e1', sl, x1, x2', w5]
  generalize ws0.take b = ws at W k1
  obtain ⟨u1, B2, e2, U1, P2⟩ := near_ok W P1
  obtain ⟨u2, B3, e3, U2, P3⟩ := near_ok W P2
  obtain ⟨m4, u3, B4, e4, U3, P4⟩ := law_words_ok (most := 3) P3 (by decide) (by decide)
  have it : gB2i (L9 s k n (some (false, .int t)) (some (false, wsD ws)) o5 o6 o7 o8) B1 = .ok [wsD ws, wsD u1, wsD u2, wsD u3] B4 := by
    have w4 : ∀ q0 q1 q2 q3 : D, szL [q0, q1, q2, q3] = true := fun _ _ _ _ => decide_eq_true (show 4 ≤ sizeLine by decide)
    have io : ∀ l, itemsOf (.lst l) = some l := fun _ => rfl
    unfold L9 gB2i
    generalize wsD ws = S at *
    generalize wsD u1 = S1 at *
    generalize wsD u2 = S2 at *
    generalize wsD u3 = S3 at *
    generalize f__law_words = F at *
    generalize f__law_near = G at *
    simp [e2, e3, e4, w4, io]
  obtain ⟨σ', B', f1, y5, y6, y7, y8, rfl, rfl⟩ := forL_inv (t := gN 5) (b := mSeq gB2a gB2b)
    (fun i σ B' => ∃ o5 o6 o7 o8, σ = L9 s k n (some (false, .int t)) (some (false, wsD ws)) o5 o6 o7 o8 ∧ B' = B4) [wsD ws, wsD u1, wsD u2, wsD u3] 0 (L9 s k n (some (false, .int t)) (some (false, wsD ws)) o5 o6 o7 o8) B4 (by
      rintro i d σ B hd ⟨o5, o6, o7, o8, rfl, rfl⟩
      have hd : d ∈ [wsD ws, wsD u1, wsD u2, wsD u3] := List.mem_of_getElem? hd
      obtain ⟨j, us, rfl, U⟩ : ∃ j us, d = wsD us ∧ OkW j us := by
        simp only [List.mem_cons, List.not_mem_nil, or_false] at hd
        rcases hd with rfl | rfl | rfl | rfl
        · exact ⟨_, _, rfl, W⟩
        · exact ⟨_, _, rfl, U1⟩
        · exact ⟨_, _, rfl, U2⟩
        · exact ⟨_, _, rfl, U3⟩
      obtain ⟨a, b, c, e⟩ := pair_ok W U s k n B (some (false, .int t)) o6 o7 o8
      exact ⟨_, rfl, _, B, e, _, _, _, _, rfl, rfl⟩) ⟨o5, o6, o7, o8, rfl, rfl⟩
  refine ⟨B', some (false, wsD ws), y5, y6, y7, y8, ?_, P4⟩
  rw [z_mSeq, k1, z_seq_next]
  unfold gB2 mFor
  rw [it, z_st_ok]
  exact f1
theorem inner_ok {n : Nat} {B : Bs} (P : PenOk B n) (s : D) (k : Nat) (a3 a4 a5 a6 a7 a8 : Option (Bool × D)) : ∃ r' B', r'.length = 6 ∧ gB (some (false, s) :: some (false, .int k) :: some (false, .box n) :: [a3, a4, a5, a6, a7, a8]) B = .next (some (false, s) :: some (false, .int k) :: some (false, .box n) :: r') B' := by
  obtain ⟨σ', B', f1, o3, o4, o5, o6, o7, o8, rfl, Pn'⟩ := forL_inv (t := gN 3) (b := mSeq gB1 gB2)
    (fun i σ B' => ∃ o3 o4 o5 o6 o7 o8, σ = L9 s k n o3 o4 o5 o6 o7 o8 ∧ PenOk B' n) (rngD 0 5) 0 (L9 s k n a3 a4 a5 a6 a7 a8) B (by
      rintro i d σ B2 hd ⟨o3, o4, o5, o6, o7, o8, rfl, Pn2⟩
      obtain ⟨rfl, hi⟩ := rngD_get hd
      have hi : i < 5 := by omega
      obtain ⟨B3, a, b, c, d, e, h, P3⟩ := turn_ok Pn2 s k i hi o4 o5 o6 o7 o8
      refine ⟨L9 s k n (some (false, .int i)) o4 o5 o6 o7 o8, ?_, _, B3, h, _, _, _, _, _, _, rfl, P3⟩
      simp) ⟨a3, a4, a5, a6, a7, a8, rfl, P⟩
  refine ⟨[o3, o4, o5, o6, o7, o8], B', rfl, ?_⟩
  have it : ∀ σ, mRng1 (mC (.int 5)) σ B = .ok (rngD 0 5) B := fun σ => rfl
  unfold gB mFor
  rw [it, z_st_ok]
  exact f1
theorem law_true (ns : List Int) (hl : ns.length ≤ 63) : ∃ B, f_law [.scr (ns.map D.int)] [] = .ok (.bool true) B := by
  obtain ⟨B', e⟩ := law_outer (c := 2) (N := 6) (hc := by decide) (ns := ns) (inner := gB) (h := fun n k B r hr P => by
    match r, hr with
    | [a3, a4, a5, a6, a7, a8], _ => exact inner_ok P (.scr (ns.map D.int)) k a3 a4 a5 a6 a7 a8) (r := [none, none, none, none, none, none]) (hr := rfl) (B := [])
  exact ⟨B', by
    have : f_law [.scr (ns.map D.int)] [] = (m_law [some (false, .scr (ns.map D.int)), none, none, none, none, none, none, none, none] []).fin := rfl
    rw [this]
    exact congrArg Ss.fin e⟩
end Hk

open PySem PySem.W PyProof.Rows
set_option maxRecDepth 100000 in
set_option maxHeartbeats 0 in
theorem PySem.Challenge.cw_halfread_k05_alike_codes_holds : PySem.Challenge.rw_halfread_k05_alike_codes.Holds := by
  w_on; o_law
  refine HandSHeadRun.head_any (r := PySem.W.OpenLaw.row PySem.Challenge.rw_halfread_k05_alike_codes) (q := Hk.qv) (H := Hk.hk) (ob := Hk.ob) (M := 12000) (loose := Hk.names) (d := HandSHeadRun.topDef (PySem.W.OpenLaw.row PySem.Challenge.rw_halfread_k05_alike_codes).prog 47) (kwd := []) Hq.obF_eq
    (by kernel_rfl) (fun s => by kernel_rfl) Hk.run (by kernel_rfl) (by kernel_rfl) (by kernel_rfl) (by rfl) (by first | assumption | decide +kernel) (by decide +kernel) ⟨rfl, rfl, rfl, rfl, rfl, by decide +kernel⟩ ?hw ?hc
  case hw => w_witness2
  case hc => exact Hk.walk (by kernel_rfl) (by kernel_rfl) Hk.law_true


