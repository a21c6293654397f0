import PyProof.Rows.All
import Wide.All
import OpenK.AllK
import Wide.FinOn
import KE.KStateDown
import KE.KNest
import KE.KNestM
import KE.KExcSuper
import KE.KSuper
import HandS.Exc
import HandS.Words
import HandS.HeadHook4
import HandS.Head2
import PySem.Challenge.RW_halfread_k16_exceptions_made
import KE.KDictKeyed
import HandS.ForMost
import HandS.WordsExc
import HandS.Lambda
import HandS.HotCalls
import HandS.Star
import HandS.TupAny
import HandS.TupMul
import HandS.Deep
import HandS.Flow
import HandS.IsInst
import KE.GoesNew
import HandS.Property
import HandS.ClsMeth
import HandS.TupSets
import PyProof.WalksMore
import PyProof.TupleIter
import HandS.SortInts
import HandS.Text
import HandS.Strs
import HandS.Conv
import HandS.Style
import PyProof.TupleOfSeq
import PyProof.Rows.StrStep
import PyProof.SliceStr2
import HandS.DictComp
import KE.KOpsOwn
import OpenK.KMeth
import PyProof.ReprRoads
import HandS.EndBits
import HandS.ExcIs
import HandS.ExcCtx
import HandS.ExcField
import KE.KExcIs
import HandS.EndOwn
import HandS.SetTxt0
import HandS.ExcValue
import HandS.ExcInit
import HandS.CallSlots
set_option Elab.async false
set_option linter.all false
set_option maxRecDepth 100000
set_option maxHeartbeats 4000000
/-! ### the head by one run of the kernel: what the end leans on, by names -/
namespace Hq
open PySem PySem.Spec PyProof.Rows
abbrev Fr := PySem.W.Frag
/-- addresses by names -/
def fdO (K : Fr) (a : Addr) : FuncData := match K.lookup a with
  | some ⟨_, _, .func fd, _⟩ => fd
  | _ => default
def clO (K : Fr) (a : Addr) : Value := match K.lookup a with
  | some o => o.cls
  | _ => default
def diO (K : Fr) (a : Addr) : Option Addr := match K.lookup a with
  | some o => o.dict
  | _ => default
def slO (K : Fr) (a : Addr) : Array (Option Value) := match K.lookup a with
  | some o => o.slots
  | _ => default
def flO (K : Fr) (a : Addr) : Array Value := match K.lookup a with
  | some ⟨_, _, .fields vs, _⟩ => vs
  | _ => default
def isFl (K : Fr) (a : Addr) : Bool := match K.lookup a with
  | some ⟨_, _, .fields _, _⟩ => true
  | _ => false
def ceO (K : Fr) (a : Addr) : Option Value := match K.lookup a with
  | some ⟨_, _, .cell v, _⟩ => v
  | _ => none
def noO (K : Fr) (a : Addr) : Bool := match K.lookup a with
  | none => true
  | _ => false
def rfV : Value → Addr
  | .ref a => a
  | _ => 0
def tkV : Value → Tok
  | .int _ t => t
  | .str _ t => t
  | _ => 0
def inV : Value → Int
  | .int i _ => i
  | _ => 0
def boV : Value → Bool
  | .bool b => b
  | _ => false
def stV : Value → Str
  | .str s _ => s
  | _ => default
def ooV : Option (Option Value) → Value
  | some (some v) => v
  | _ => default
def gv (K : Fr) (x : Str) : Value := ooV (PySem.W.nsIn K mainGlobals x)
def ga (K : Fr) (x : Str) : Addr := rfV (gv K x)
def mv (K : Fr) (C : Addr) (m : Str) : Value := ooV (PySem.W.findIn K (.ref C) m)
def ma (K : Fr) (C : Addr) (m : Str) : Addr := rfV (mv K C m)
/-- the namespace of a class -/
def nsO (K : Fr) (C : Addr) : Addr := match K.lookup C with
  | some ⟨_, _, .cls cd, _⟩ => cd.ns
  | _ => 0
/-- an own exception's class -/
def excB (K : Fr) (X : Addr) : Bool := match K.lookup X with
  | some ⟨.type c, _, .cls ⟨_, _, .ref X' :: bm, _, _, true, _, _, _, _, false⟩, sl⟩ => (c == "type") && ((X' == X) && (PySem.HandSPX.refsVE bm && (decide (sl.size = 6) && decide (sl[4]? = some (some (.builtin "ValueError.__new__"))))))
  | _ => false
theorem arr6 {α : Type} {a : Array α} (h : a.size = 6) : ∃ x0 x1 x2 x3 x4 x5, a = #[x0, x1, x2, x3, x4, x5] := by
  obtain ⟨l⟩ := a
  match l, h with
  | [a, b, c, d, e, f], _ => exact ⟨a, b, c, d, e, f, rfl⟩
theorem excB_ok {K : Fr} {X : Addr} (h : excB K X = true) : ∃ nm q N bs bm sn sub ab col dd k0 k1 k2 k3 k5, K.lookup X = some (PySem.excClassObj nm q X N bs bm true sn sub ab col dd k0 k1 k2 k3 k5 "ValueError.__new__") ∧ PySem.HandSPX.refsVE bm = true := by
  unfold excB at h
  split at h
  · rename_i c dd nm bs X' bm N q sn sub ab col sl e
    simp only [Bool.and_eq_true, beq_iff_eq, decide_eq_true_eq] at h
    obtain ⟨rfl, rfl, h1, h2, h3⟩ := h
    obtain ⟨k0, k1, k2, k3, k4, k5, rfl⟩ := arr6 h2
    simp at h3
    subst h3
    exact ⟨nm, q, N, bs, bm, sn, sub, ab, col, dd, k0, k1, k2, k3, k5, e, h1⟩
  · cases h
theorem fl_ok {K : Fr} {a : Addr} (h : isFl K a = true) : K.lookup a = some ⟨clO K a, diO K a, .fields (flO K a), slO K a⟩ := by
  unfold isFl at h
  split at h
  · rename_i c d vs s e
    simp only [clO, diO, flO, slO, e]
  · cases h
theorem flc_ok {K : Fr} {a : Addr} (h : isFl K a = true) {v : Value} (hc : clO K a = v) : K.lookup a = some ⟨v, diO K a, .fields (flO K a), slO K a⟩ := by
  rw [← hc]; exact fl_ok h
theorem ce_ok {K : Fr} {a : Addr} {v : Value} (h : ceO K a = some v) : K.lookup a = some ⟨clO K a, diO K a, .cell (some v), slO K a⟩ := by
  unfold ceO at h
  split at h
  · rename_i c d u s e
    subst h
    simp only [clO, diO, slO, e]
  · cases h
theorem no_ok {K : Fr} {a : Addr} (h : noO K a = true) : K.lookup a = none := by
  unfold noO at h
  split at h
  · rename_i e; exact e
  · cases h
/-! a def as it stands -/
structure DfE where
  at_ : Fr → Addr
  name : Str
  qual : Str
  st : Stmt
  cl : Bool := false
abbrev OvE := Option (Str × Str × Arguments × FuncBody × Scope × Addr × List Str × Addr)
def ovE (K : Fr) (a : Addr) : OvE := match K.lookup a with
  | some ⟨_, _, .func fd, _⟩ => some (fd.name, fd.qualname, fd.params, fd.body, fd.scope, fd.globals, fd.closure.map (·.1), fd.builtins)
  | _ => none
def DfE.val (d : DfE) : OvE := some (d.name, d.qual, L2.defArgs d.st, .stmts (L2.defBody d.st), L2.defScope d.st, mainGlobals, (match d.cl with | true => ["__class__"] | false => []), builtinsNs)
def ccO (K : Fr) (a : Addr) : Addr := match (fdO K a).closure with
  | (_, c) :: _ => c
  | _ => 0
theorem fn_l {K : Fr} {a : Addr} {d : DfE} (e : ovE K a = d.val) (hc : d.cl = false) {dV : Value} (hd : (fdO K a).defaults = dV) :
    K.lookup a = some ⟨clO K a, diO K a, .func (PySem.W.fnOf d.name d.qual (L2.defArgs d.st) (L2.defBody d.st) (L2.defScope d.st) dV (fdO K a).kwdefaults (fdO K a).doc (fdO K a).pyModule (fdO K a).annotations (fdO K a).code (fdO K a).closureTuple), slO K a⟩ := by
  unfold ovE at e
  split at e
  · rename_i c di fd sl q
    unfold DfE.val at e
    rw [hc] at e
    simp only [Option.some.injEq, Prod.mk.injEq] at e
    obtain ⟨h1, h2, h3, h4, h5, h6, h7, h8⟩ := e
    have h7' : fd.closure = [] := by simpa using h7
    have hf : fdO K a = fd := by simp only [fdO, q]
    subst hd
    rw [hf]
    obtain ⟨n1, n2, n3, n4, n5, n6, n7, n8, n9, n10, n11, n12, n13, n14, n15⟩ := fd
    simp only at h1 h2 h3 h4 h5 h6 h7' h8
    subst h1 h2 h3 h4 h5 h6 h7' h8
    simp only [clO, diO, slO, q]
  · cases e
theorem fn_lc {K : Fr} {a : Addr} {d : DfE} (e : ovE K a = d.val) (hc : d.cl = true) {dV : Value} (hd : (fdO K a).defaults = dV) {ca : Addr} (hk : (fdO K a).code = .ref ca) :
    K.lookup a = some ⟨clO K a, diO K a, .func (PySem.W.fnX d.name d.qual (L2.defArgs d.st) (L2.defBody d.st) (L2.defScope d.st) [("__class__", ccO K a)] dV (fdO K a).kwdefaults (fdO K a).doc (fdO K a).pyModule (fdO K a).annotations (.ref ca) (fdO K a).closureTuple), slO K a⟩ := by
  unfold ovE at e
  split at e
  · rename_i c di fd sl q
    unfold DfE.val at e
    rw [hc] at e
    simp only [Option.some.injEq, Prod.mk.injEq] at e
    obtain ⟨h1, h2, h3, h4, h5, h6, h7, h8⟩ := e
    have hf : fdO K a = fd := by simp only [fdO, q]
    have h7' : fd.closure = ([("__class__", ccO K a)] : List (Str × Addr)) := by
      unfold ccO
      rw [hf]
      revert h7
      cases fd.closure with
      | nil => intro h7; cases h7
      | cons x r =>
        obtain ⟨y, z⟩ := x
        cases r with
        | nil => intro h7; simp at h7; subst h7; rfl
        | cons _ _ => intro h7; simp at h7
    rw [hf] at hd hk
    rw [hf]
    generalize ccO K a = cc at h7' ⊢
    subst hd
    obtain ⟨n1, n2, n3, n4, n5, n6, n7, n8, n9, n10, n11, n12, n13, n14, n15⟩ := fd
    simp only at h1 h2 h3 h4 h5 h6 h7' h8 hk
    subst h1 h2 h3 h4 h5 h6 h7' h8 hk
    simp only [clO, diO, slO, q]
  · cases e
/-! the hook -/
def tabB (g : Addr → Option Obj) (P : Addr) : Bool := match g P with
  | some o => He.emptyTab o
  | none => false
abbrev Stg := List (Fr → List Addr)
/-- part by part -/
def frE (g : Addr → Option Obj) : Stg → List Addr → Fr
  | [], as => He.frT g as
  | f :: r, as => frE g r (as ++ f (He.frT g as))
theorem frE_in {h : Heap} : ∀ (n : Stg) (as : List Addr), (frE h.get? n as).In h
  | [], _ => He.frT_in
  | _ :: r, _ => frE_in r _
abbrev AlE := List OvE × Bool
def obsE (n : Stg) (fn : List DfE) (tp : Fr → List Addr) (ex : Fr → Bool) (g : Addr → Option Obj) : AlE := (fn.map (fun d => ovE (frE g n [mainGlobals, cStatics]) (d.at_ (frE g n [mainGlobals, cStatics]))), ex (frE g n [mainGlobals, cStatics]) && (tp (frE g n [mainGlobals, cStatics])).all (tabB g))
structure SaysE (fn : List DfE) (tp : Fr → List Addr) (ex : Fr → Bool) (h : Heap) (K : Fr) : Prop where
  df : fn.map (fun d => ovE K (d.at_ K)) = fn.map DfE.val
  ex : ex K = true
  tb : ∀ P ∈ tp K, h.get? P = some { cls := .none, data := .fields #[] }
theorem says_of {n : Stg} {fn : List DfE} {tp : Fr → List Addr} {ex : Fr → Bool} {h : Heap} (e : obsE n fn tp ex h.get? = (fn.map DfE.val, true)) : SaysE fn tp ex h (frE h.get? n [mainGlobals, cStatics]) := by
  obtain ⟨e1, e2⟩ := Prod.mk.inj (show (fn.map (fun d => ovE (frE h.get? n [mainGlobals, cStatics]) (d.at_ (frE h.get? n [mainGlobals, cStatics]))), ex (frE h.get? n [mainGlobals, cStatics]) && (tp (frE h.get? n [mainGlobals, cStatics])).all (tabB h.get?)) = (fn.map DfE.val, true) from e)
  obtain ⟨e3, e4⟩ := Bool.and_eq_true_iff.mp e2
  refine ⟨e1, e3, fun P hP => ?_⟩
  have z := List.all_eq_true.mp e4 P hP
  unfold tabB at z
  split at z
  · rename_i o q
    rw [q, He.emptyTab_eq z]
  · cases z
def hookF (n : Stg) (fn : List DfE) (tp : Fr → List Addr) (ex : Fr → Bool) : PySem.W.Hook where
  α := AlE
  obs := fun s => obsE n fn tp ex s.heap.get?
  val := fun _ => (fn.map DfE.val, true)
  says := fun _ h => ∃ K : Fr, K.In h ∧ SaysE fn tp ex h K
  of := fun _ _ e => ⟨_, frE_in _ _, says_of e⟩
  keeps := fun _ _ _ ⟨K, hK, c⟩ k => ⟨K, PySem.W.Frag.In.keeps hK k, ⟨c.df, c.ex, fun P hP => k _ _ (c.tb P hP)⟩⟩
def obF (n : Stg) (fn : List DfE) (tp : Fr → List Addr) (ex : Fr → Bool) (s : PySem.W.SharedT) : AlE := obsE n fn tp ex (HandSHeadRun.getT s)
theorem obF_eq {n : Stg} {fn : List DfE} {tp : Fr → List Addr} {ex : Fr → Bool} (s : PySem.W.SharedT) : obF n fn tp ex s = (hookF n fn tp ex).obs s.abs := by
  have e : HandSHeadRun.getT s = s.abs.heap.get? := funext (HandSHeadRun.getT_eq s)
  unfold obF
  rw [e]
  rfl
theorem SaysE.def_ {fn : List DfE} {tp : Fr → List Addr} {ex : Fr → Bool} {h : Heap} {K : Fr} (c : SaysE fn tp ex h K) (i : Nat) {d : DfE} (hi : fn[i]? = some d := by rfl) : ovE K (d.at_ K) = d.val := by
  have e2 : (fn.map fun d => ovE K (d.at_ K))[i]? = (fn.map DfE.val)[i]? := by rw [c.df]
  rw [List.getElem?_map, List.getElem?_map, hi] at e2
  exact Option.some.inj e2
end Hq

set_option Elab.async false
set_option linter.all false
set_option maxRecDepth 100000
set_option maxHeartbeats 0
namespace Hk
open PySem PySem.Spec PyProof.Rows L2
def top (i : Nat) : Stmt := PySem.Challenge.pw_halfread_k16_exceptions_made.main.body.getD i (.Pass ⟨0, 0, 0, 0⟩)
abbrev t__law_said : Stmt := top 41
abbrev t_TooManyInit : Stmt := inClass (top 18) 0
abbrev t_BrokenInit : Stmt := inClass (top 19) 0
abbrev t__law_pen : Stmt := top 35
abbrev t__law_draw : Stmt := top 36
abbrev t__law_pick : Stmt := top 38
abbrev t__law_cell_at : Stmt := top 34
abbrev t__law_word : Stmt := top 40
abbrev t_is_between : Stmt := top 26
abbrev t_are_bits : Stmt := top 27
abbrev t_are_words : Stmt := top 28
abbrev t_CodeX_initX : Stmt := inClass (top 30) 0
abbrev t_law : Stmt := top 42
def A_C0 (K : Hq.Fr) : Addr := Hq.ga K "Code"
def A_X10 (K : Hq.Fr) : Addr := Hq.ga K "ReadError"
def A_X11 (K : Hq.Fr) : Addr := Hq.ga K "NoWords"
def A_X12 (K : Hq.Fr) : Addr := Hq.ga K "NoCode"
def A_X13 (K : Hq.Fr) : Addr := Hq.ga K "NoValue"
def A_X14 (K : Hq.Fr) : Addr := Hq.ga K "NoWord"
def A_X15 (K : Hq.Fr) : Addr := Hq.ga K "NoOrder"
def A_X16 (K : Hq.Fr) : Addr := Hq.ga K "NoPlaces"
def A_X17 (K : Hq.Fr) : Addr := Hq.ga K "NoText"
def A_X18 (K : Hq.Fr) : Addr := Hq.ga K "NoSpan"
def A_X19 (K : Hq.Fr) : Addr := Hq.ga K "NoNumber"
def A_X20 (K : Hq.Fr) : Addr := Hq.ga K "NoBridge"
def A_X21 (K : Hq.Fr) : Addr := Hq.ga K "NoState"
def A_X22 (K : Hq.Fr) : Addr := Hq.ga K "NoBeat"
def A_X23 (K : Hq.Fr) : Addr := Hq.ga K "NoLap"
def A_X24 (K : Hq.Fr) : Addr := Hq.ga K "NoLook"
def A_X25 (K : Hq.Fr) : Addr := Hq.ga K "NothingDone"
def A_X26 (K : Hq.Fr) : Addr := Hq.ga K "TooMuch"
def A_X27 (K : Hq.Fr) : Addr := Hq.ga K "TooMany"
def A_X28 (K : Hq.Fr) : Addr := Hq.ga K "Broken"
def A_f__law_pen_ (K : Hq.Fr) : Addr := Hq.ga K "_law_pen"
def A_f__law_draw_ (K : Hq.Fr) : Addr := Hq.ga K "_law_draw"
def A_f__law_pick_ (K : Hq.Fr) : Addr := Hq.ga K "_law_pick"
def A_f__law_cell_at_ (K : Hq.Fr) : Addr := Hq.ga K "_law_cell_at"
def A_f__law_word_ (K : Hq.Fr) : Addr := Hq.ga K "_law_word"
def A_f_is_between_ (K : Hq.Fr) : Addr := Hq.ga K "is_between"
def A_f_are_bits_ (K : Hq.Fr) : Addr := Hq.ga K "are_bits"
def A_f_are_words_ (K : Hq.Fr) : Addr := Hq.ga K "are_words"
def A_f_CodeX_initX_ (K : Hq.Fr) : Addr := Hq.ma K (A_C0 K) "__init__"
def A_f_law_ (K : Hq.Fr) : Addr := Hq.ga K "law"
def A_f__law_said_ (K : Hq.Fr) : Addr := Hq.ga K "_law_said"
def A_fi27_ (K : Hq.Fr) : Addr := Hq.ma K (A_X27 K) "__init__"
def A_cc27 (K : Hq.Fr) : Addr := Hq.ccO K (A_fi27_ K)
def A_ca27 (K : Hq.Fr) : Addr := Hq.rfV (Hq.fdO K (A_fi27_ K)).code
def A_fi28_ (K : Hq.Fr) : Addr := Hq.ma K (A_X28 K) "__init__"
def A_cc28 (K : Hq.Fr) : Addr := Hq.ccO K (A_fi28_ K)
def A_ca28 (K : Hq.Fr) : Addr := Hq.rfV (Hq.fdO K (A_fi28_ K)).code
def A_k0law (K : Hq.Fr) : Addr := Hq.rfV (Hq.fdO K (A_f_law_ K)).code
def A_Plaw (K : Hq.Fr) : Addr := Hq.rfV ((Hq.flO K (A_k0law K)).getD 11 .none)
/-! the defs -/
def D__law_pen : Hq.DfE := ⟨fun K => A_f__law_pen_ K, "_law_pen", "_law_pen", t__law_pen, false⟩
def D__law_draw : Hq.DfE := ⟨fun K => A_f__law_draw_ K, "_law_draw", "_law_draw", t__law_draw, false⟩
def D__law_pick : Hq.DfE := ⟨fun K => A_f__law_pick_ K, "_law_pick", "_law_pick", t__law_pick, false⟩
def D__law_cell_at : Hq.DfE := ⟨fun K => A_f__law_cell_at_ K, "_law_cell_at", "_law_cell_at", t__law_cell_at, false⟩
def D__law_word : Hq.DfE := ⟨fun K => A_f__law_word_ K, "_law_word", "_law_word", t__law_word, false⟩
def D_is_between : Hq.DfE := ⟨fun K => A_f_is_between_ K, "is_between", "is_between", t_is_between, false⟩
def D_are_bits : Hq.DfE := ⟨fun K => A_f_are_bits_ K, "are_bits", "are_bits", t_are_bits, false⟩
def D_are_words : Hq.DfE := ⟨fun K => A_f_are_words_ K, "are_words", "are_words", t_are_words, false⟩
def D_CodeX_initX : Hq.DfE := ⟨fun K => A_f_CodeX_initX_ K, "__init__", "Code.__init__", t_CodeX_initX, false⟩
def D_law : Hq.DfE := ⟨fun K => A_f_law_ K, "law", "law", t_law, false⟩
def D__law_said : Hq.DfE := ⟨fun K => A_f__law_said_ K, "_law_said", "_law_said", t__law_said, false⟩
def D_TooManyInit : Hq.DfE := ⟨fun K => A_fi27_ K, "__init__", "TooMany.__init__", t_TooManyInit, true⟩
def D_BrokenInit : Hq.DfE := ⟨fun K => A_fi28_ K, "__init__", "Broken.__init__", t_BrokenInit, true⟩
def fnL0 : List Hq.DfE := [D__law_pen, D__law_draw, D__law_pick, D__law_cell_at, D__law_word, D_is_between, D_are_bits, D_are_words, D_CodeX_initX, D_law, D__law_said, D_TooManyInit, D_BrokenInit]
def fnL : List Hq.DfE := fnL0
def tpL (K : Hq.Fr) : List Addr := [A_Plaw K]
/-! the facts -/
abbrev FG0 (K : Hq.Fr) : Prop := (PySem.W.nsIn K mainGlobals "Code" = some (some (.ref (A_C0 K)))) ∧ (PySem.W.plainGet K (A_C0 K) Str.empty = true) ∧ (PySem.W.hasDictIn K (A_C0 K) = true) ∧ (PySem.W.plainOver K (A_C0 K) = true) ∧ (PySem.W.findIn K (.ref (A_C0 K)) "__setattr__" = some (some (.builtin "object.__setattr__"))) ∧ (PySem.W.makesIn K (A_C0 K) = true) ∧ (PySem.W.keepIn K (.ref (A_C0 K)) = true) ∧ (PySem.W.findIn K (.ref (A_C0 K)) "row" = some none) ∧ (PySem.W.findIn K (.ref (A_C0 K)) "known" = some none) ∧ (PySem.W.findIn K (.ref (A_C0 K)) "__class__" = some (some (.builtin "object.__class__"))) ∧ (PySem.W.mroIn K (A_C0 K) (.type "object") = some true) ∧ (PySem.W.mroIn K (A_C0 K) (.type "int") = some false) ∧ (PySem.W.mroIn K (A_C0 K) (.type "bool") = some false) ∧ (PySem.W.mroIn K (A_C0 K) (.type "tuple") = some false) ∧ (PySem.W.mroIn K (A_C0 K) (.type "str") = some false) ∧ (PySem.W.mroIn K (A_C0 K) (.type "list") = some false) ∧ (PySem.W.isClsIn K (A_C0 K) = true) ∧ (PySem.W.typeIn K (.ref (A_C0 K)) = some (.type "type")) ∧ (PySem.W.specialIn K (.builtin "object.__class__") "__get__" = some (some (.builtin "getset_descriptor.__get__"))) ∧ (PySem.W.takesIn K (.builtin "object.__class__") = some true) ∧ (PySem.W.nsIn K mainGlobals "ReadError" = some (some (.ref (A_X10 K)))) ∧ (PySem.W.isClsIn K (A_X10 K) = true) ∧ (PySem.W.typeIn K (.ref (A_X10 K)) = some (.type "type")) ∧ (PySem.W.mroIn K (A_X10 K) (.ref (A_X10 K)) = some true)
abbrev FG1 (K : Hq.Fr) : Prop := (PySem.W.nsIn K mainGlobals "NoWords" = some (some (.ref (A_X11 K)))) ∧ (PySem.W.isClsIn K (A_X11 K) = true) ∧ (PySem.W.typeIn K (.ref (A_X11 K)) = some (.type "type")) ∧ (PySem.W.mroIn K (A_X11 K) (.ref (A_X11 K)) = some true) ∧ (PySem.W.nsIn K mainGlobals "NoCode" = some (some (.ref (A_X12 K)))) ∧ (PySem.W.isClsIn K (A_X12 K) = true) ∧ (PySem.W.typeIn K (.ref (A_X12 K)) = some (.type "type")) ∧ (PySem.W.mroIn K (A_X12 K) (.ref (A_X12 K)) = some true) ∧ (PySem.W.nsIn K mainGlobals "NoValue" = some (some (.ref (A_X13 K)))) ∧ (PySem.W.isClsIn K (A_X13 K) = true) ∧ (PySem.W.typeIn K (.ref (A_X13 K)) = some (.type "type")) ∧ (PySem.W.mroIn K (A_X13 K) (.ref (A_X13 K)) = some true) ∧ (PySem.W.nsIn K mainGlobals "NoWord" = some (some (.ref (A_X14 K)))) ∧ (PySem.W.isClsIn K (A_X14 K) = true) ∧ (PySem.W.typeIn K (.ref (A_X14 K)) = some (.type "type")) ∧ (PySem.W.mroIn K (A_X14 K) (.ref (A_X14 K)) = some true) ∧ (PySem.W.nsIn K mainGlobals "NoOrder" = some (some (.ref (A_X15 K)))) ∧ (PySem.W.isClsIn K (A_X15 K) = true) ∧ (PySem.W.typeIn K (.ref (A_X15 K)) = some (.type "type")) ∧ (PySem.W.mroIn K (A_X15 K) (.ref (A_X15 K)) = some true) ∧ (PySem.W.nsIn K mainGlobals "NoPlaces" = some (some (.ref (A_X16 K)))) ∧ (PySem.W.isClsIn K (A_X16 K) = true) ∧ (PySem.W.typeIn K (.ref (A_X16 K)) = some (.type "type")) ∧ (PySem.W.mroIn K (A_X16 K) (.ref (A_X16 K)) = some true)
abbrev FG2 (K : Hq.Fr) : Prop := (PySem.W.nsIn K mainGlobals "NoText" = some (some (.ref (A_X17 K)))) ∧ (PySem.W.isClsIn K (A_X17 K) = true) ∧ (PySem.W.typeIn K (.ref (A_X17 K)) = some (.type "type")) ∧ (PySem.W.mroIn K (A_X17 K) (.ref (A_X17 K)) = some true) ∧ (PySem.W.nsIn K mainGlobals "NoSpan" = some (some (.ref (A_X18 K)))) ∧ (PySem.W.isClsIn K (A_X18 K) = true) ∧ (PySem.W.typeIn K (.ref (A_X18 K)) = some (.type "type")) ∧ (PySem.W.mroIn K (A_X18 K) (.ref (A_X18 K)) = some true) ∧ (PySem.W.nsIn K mainGlobals "NoNumber" = some (some (.ref (A_X19 K)))) ∧ (PySem.W.isClsIn K (A_X19 K) = true) ∧ (PySem.W.typeIn K (.ref (A_X19 K)) = some (.type "type")) ∧ (PySem.W.mroIn K (A_X19 K) (.ref (A_X19 K)) = some true) ∧ (PySem.W.nsIn K mainGlobals "NoBridge" = some (some (.ref (A_X20 K)))) ∧ (PySem.W.isClsIn K (A_X20 K) = true) ∧ (PySem.W.typeIn K (.ref (A_X20 K)) = some (.type "type")) ∧ (PySem.W.mroIn K (A_X20 K) (.ref (A_X20 K)) = some true) ∧ (PySem.W.nsIn K mainGlobals "NoState" = some (some (.ref (A_X21 K)))) ∧ (PySem.W.isClsIn K (A_X21 K) = true) ∧ (PySem.W.typeIn K (.ref (A_X21 K)) = some (.type "type")) ∧ (PySem.W.mroIn K (A_X21 K) (.ref (A_X21 K)) = some true) ∧ (PySem.W.nsIn K mainGlobals "NoBeat" = some (some (.ref (A_X22 K)))) ∧ (PySem.W.isClsIn K (A_X22 K) = true) ∧ (PySem.W.typeIn K (.ref (A_X22 K)) = some (.type "type")) ∧ (PySem.W.mroIn K (A_X22 K) (.ref (A_X22 K)) = some true)
abbrev FG3 (K : Hq.Fr) : Prop := (PySem.W.nsIn K mainGlobals "NoLap" = some (some (.ref (A_X23 K)))) ∧ (PySem.W.isClsIn K (A_X23 K) = true) ∧ (PySem.W.typeIn K (.ref (A_X23 K)) = some (.type "type")) ∧ (PySem.W.mroIn K (A_X23 K) (.ref (A_X23 K)) = some true) ∧ (PySem.W.nsIn K mainGlobals "NoLook" = some (some (.ref (A_X24 K)))) ∧ (PySem.W.isClsIn K (A_X24 K) = true) ∧ (PySem.W.typeIn K (.ref (A_X24 K)) = some (.type "type")) ∧ (PySem.W.mroIn K (A_X24 K) (.ref (A_X24 K)) = some true) ∧ (PySem.W.nsIn K mainGlobals "NothingDone" = some (some (.ref (A_X25 K)))) ∧ (PySem.W.isClsIn K (A_X25 K) = true) ∧ (PySem.W.typeIn K (.ref (A_X25 K)) = some (.type "type")) ∧ (PySem.W.mroIn K (A_X25 K) (.ref (A_X25 K)) = some true) ∧ (PySem.W.nsIn K mainGlobals "TooMuch" = some (some (.ref (A_X26 K)))) ∧ (PySem.W.isClsIn K (A_X26 K) = true) ∧ (PySem.W.typeIn K (.ref (A_X26 K)) = some (.type "type")) ∧ (PySem.W.mroIn K (A_X26 K) (.ref (A_X26 K)) = some true) ∧ (PySem.W.nsIn K mainGlobals "TooMany" = some (some (.ref (A_X27 K)))) ∧ (PySem.W.isClsIn K (A_X27 K) = true) ∧ (PySem.W.typeIn K (.ref (A_X27 K)) = some (.type "type")) ∧ (PySem.W.mroIn K (A_X27 K) (.ref (A_X27 K)) = some true) ∧ (PySem.W.nsIn K mainGlobals "Broken" = some (some (.ref (A_X28 K)))) ∧ (PySem.W.isClsIn K (A_X28 K) = true) ∧ (PySem.W.typeIn K (.ref (A_X28 K)) = some (.type "type")) ∧ (PySem.W.mroIn K (A_X28 K) (.ref (A_X28 K)) = some true)
abbrev FG4 (K : Hq.Fr) : Prop := (PySem.W.subIn K (.ref (A_X10 K)) (.type "BaseException") = some true) ∧ (PySem.W.hasDictIn K (A_X10 K) = true) ∧ (PySem.W.nsIn K mainGlobals "ValueError" = some none) ∧ (PySem.W.keepIn K (.ref (A_X11 K)) = true) ∧ (PySem.W.findIn K (.ref (A_X11 K)) "kind" = some none) ∧ (PySem.W.excIn K (A_X11 K) [.type "ValueError", .type "Exception", .type "BaseException", .type "object"] "ValueError.__new__" = true) ∧ (PySem.W.subIn K (.ref (A_X11 K)) (.type "BaseException") = some true) ∧ (PySem.W.findIn K (.ref (A_X11 K)) "__getattribute__" = some (some (.builtin "BaseException.__getattribute__"))) ∧ (PySem.W.findIn K (.ref (A_X11 K)) "__getattr__" = some none) ∧ (PySem.W.hasDictIn K (A_X11 K) = true) ∧ (PySem.W.findIn K (.ref (A_X11 K)) "__class__" = some (some (.builtin "object.__class__"))) ∧ (PySem.W.mroIn K (A_X11 K) (.type "object") = some true) ∧ (PySem.W.mroIn K (A_X11 K) (.type "ValueError") = some true) ∧ (PySem.W.mroIn K (A_X11 K) (.ref (A_X10 K)) = some true) ∧ (PySem.W.mroIn K (A_X11 K) (.ref (A_X12 K)) = some false) ∧ (PySem.W.mroIn K (A_X11 K) (.ref (A_X13 K)) = some false) ∧ (PySem.W.mroIn K (A_X11 K) (.ref (A_X14 K)) = some false) ∧ (PySem.W.mroIn K (A_X11 K) (.ref (A_X15 K)) = some false) ∧ (PySem.W.mroIn K (A_X11 K) (.ref (A_X16 K)) = some false) ∧ (PySem.W.mroIn K (A_X11 K) (.ref (A_X17 K)) = some false) ∧ (PySem.W.mroIn K (A_X11 K) (.ref (A_X18 K)) = some false) ∧ (PySem.W.mroIn K (A_X11 K) (.ref (A_X19 K)) = some false) ∧ (PySem.W.mroIn K (A_X11 K) (.ref (A_X20 K)) = some false) ∧ (PySem.W.mroIn K (A_X11 K) (.ref (A_X21 K)) = some false)
abbrev FG5 (K : Hq.Fr) : Prop := (PySem.W.mroIn K (A_X11 K) (.ref (A_X22 K)) = some false) ∧ (PySem.W.mroIn K (A_X11 K) (.ref (A_X23 K)) = some false) ∧ (PySem.W.mroIn K (A_X11 K) (.ref (A_X24 K)) = some false) ∧ (PySem.W.mroIn K (A_X11 K) (.ref (A_X25 K)) = some false) ∧ (PySem.W.mroIn K (A_X11 K) (.ref (A_X26 K)) = some false) ∧ (PySem.W.mroIn K (A_X11 K) (.ref (A_X27 K)) = some false) ∧ (PySem.W.mroIn K (A_X11 K) (.ref (A_X28 K)) = some false) ∧ (PySem.W.keepIn K (.ref (A_X12 K)) = true) ∧ (PySem.W.findIn K (.ref (A_X12 K)) "kind" = some none) ∧ (PySem.W.excIn K (A_X12 K) [.type "ValueError", .type "Exception", .type "BaseException", .type "object"] "ValueError.__new__" = true) ∧ (PySem.W.subIn K (.ref (A_X12 K)) (.type "BaseException") = some true) ∧ (PySem.W.findIn K (.ref (A_X12 K)) "__getattribute__" = some (some (.builtin "BaseException.__getattribute__"))) ∧ (PySem.W.findIn K (.ref (A_X12 K)) "__getattr__" = some none) ∧ (PySem.W.hasDictIn K (A_X12 K) = true) ∧ (PySem.W.findIn K (.ref (A_X12 K)) "__class__" = some (some (.builtin "object.__class__"))) ∧ (PySem.W.mroIn K (A_X12 K) (.type "object") = some true) ∧ (PySem.W.mroIn K (A_X12 K) (.type "ValueError") = some true) ∧ (PySem.W.mroIn K (A_X12 K) (.ref (A_X10 K)) = some true) ∧ (PySem.W.mroIn K (A_X12 K) (.ref (A_X11 K)) = some false) ∧ (PySem.W.mroIn K (A_X12 K) (.ref (A_X13 K)) = some false) ∧ (PySem.W.mroIn K (A_X12 K) (.ref (A_X14 K)) = some false) ∧ (PySem.W.mroIn K (A_X12 K) (.ref (A_X15 K)) = some false) ∧ (PySem.W.mroIn K (A_X12 K) (.ref (A_X16 K)) = some false) ∧ (PySem.W.mroIn K (A_X12 K) (.ref (A_X17 K)) = some false)
abbrev FG6 (K : Hq.Fr) : Prop := (PySem.W.mroIn K (A_X12 K) (.ref (A_X18 K)) = some false) ∧ (PySem.W.mroIn K (A_X12 K) (.ref (A_X19 K)) = some false) ∧ (PySem.W.mroIn K (A_X12 K) (.ref (A_X20 K)) = some false) ∧ (PySem.W.mroIn K (A_X12 K) (.ref (A_X21 K)) = some false) ∧ (PySem.W.mroIn K (A_X12 K) (.ref (A_X22 K)) = some false) ∧ (PySem.W.mroIn K (A_X12 K) (.ref (A_X23 K)) = some false) ∧ (PySem.W.mroIn K (A_X12 K) (.ref (A_X24 K)) = some false) ∧ (PySem.W.mroIn K (A_X12 K) (.ref (A_X25 K)) = some false) ∧ (PySem.W.mroIn K (A_X12 K) (.ref (A_X26 K)) = some false) ∧ (PySem.W.mroIn K (A_X12 K) (.ref (A_X27 K)) = some false) ∧ (PySem.W.mroIn K (A_X12 K) (.ref (A_X28 K)) = some false) ∧ (PySem.W.keepIn K (.ref (A_X13 K)) = true) ∧ (PySem.W.findIn K (.ref (A_X13 K)) "kind" = some none) ∧ (PySem.W.excIn K (A_X13 K) [.type "ValueError", .type "Exception", .type "BaseException", .type "object"] "ValueError.__new__" = true) ∧ (PySem.W.subIn K (.ref (A_X13 K)) (.type "BaseException") = some true) ∧ (PySem.W.findIn K (.ref (A_X13 K)) "__getattribute__" = some (some (.builtin "BaseException.__getattribute__"))) ∧ (PySem.W.findIn K (.ref (A_X13 K)) "__getattr__" = some none) ∧ (PySem.W.hasDictIn K (A_X13 K) = true) ∧ (PySem.W.findIn K (.ref (A_X13 K)) "__class__" = some (some (.builtin "object.__class__"))) ∧ (PySem.W.mroIn K (A_X13 K) (.type "object") = some true) ∧ (PySem.W.mroIn K (A_X13 K) (.type "ValueError") = some true) ∧ (PySem.W.mroIn K (A_X13 K) (.ref (A_X10 K)) = some true) ∧ (PySem.W.mroIn K (A_X13 K) (.ref (A_X11 K)) = some false) ∧ (PySem.W.mroIn K (A_X13 K) (.ref (A_X12 K)) = some false)
abbrev FG7 (K : Hq.Fr) : Prop := (PySem.W.mroIn K (A_X13 K) (.ref (A_X14 K)) = some false) ∧ (PySem.W.mroIn K (A_X13 K) (.ref (A_X15 K)) = some false) ∧ (PySem.W.mroIn K (A_X13 K) (.ref (A_X16 K)) = some false) ∧ (PySem.W.mroIn K (A_X13 K) (.ref (A_X17 K)) = some false) ∧ (PySem.W.mroIn K (A_X13 K) (.ref (A_X18 K)) = some false) ∧ (PySem.W.mroIn K (A_X13 K) (.ref (A_X19 K)) = some false) ∧ (PySem.W.mroIn K (A_X13 K) (.ref (A_X20 K)) = some false) ∧ (PySem.W.mroIn K (A_X13 K) (.ref (A_X21 K)) = some false) ∧ (PySem.W.mroIn K (A_X13 K) (.ref (A_X22 K)) = some false) ∧ (PySem.W.mroIn K (A_X13 K) (.ref (A_X23 K)) = some false) ∧ (PySem.W.mroIn K (A_X13 K) (.ref (A_X24 K)) = some false) ∧ (PySem.W.mroIn K (A_X13 K) (.ref (A_X25 K)) = some false) ∧ (PySem.W.mroIn K (A_X13 K) (.ref (A_X26 K)) = some false) ∧ (PySem.W.mroIn K (A_X13 K) (.ref (A_X27 K)) = some false) ∧ (PySem.W.mroIn K (A_X13 K) (.ref (A_X28 K)) = some false) ∧ (PySem.W.keepIn K (.ref (A_X14 K)) = true) ∧ (PySem.W.findIn K (.ref (A_X14 K)) "kind" = some none) ∧ (PySem.W.excIn K (A_X14 K) [.type "ValueError", .type "Exception", .type "BaseException", .type "object"] "ValueError.__new__" = true) ∧ (PySem.W.subIn K (.ref (A_X14 K)) (.type "BaseException") = some true) ∧ (PySem.W.findIn K (.ref (A_X14 K)) "__getattribute__" = some (some (.builtin "BaseException.__getattribute__"))) ∧ (PySem.W.findIn K (.ref (A_X14 K)) "__getattr__" = some none) ∧ (PySem.W.hasDictIn K (A_X14 K) = true) ∧ (PySem.W.findIn K (.ref (A_X14 K)) "__class__" = some (some (.builtin "object.__class__"))) ∧ (PySem.W.mroIn K (A_X14 K) (.type "object") = some true)
abbrev FG8 (K : Hq.Fr) : Prop := (PySem.W.mroIn K (A_X14 K) (.type "ValueError") = some true) ∧ (PySem.W.mroIn K (A_X14 K) (.ref (A_X10 K)) = some true) ∧ (PySem.W.mroIn K (A_X14 K) (.ref (A_X11 K)) = some false) ∧ (PySem.W.mroIn K (A_X14 K) (.ref (A_X12 K)) = some false) ∧ (PySem.W.mroIn K (A_X14 K) (.ref (A_X13 K)) = some false) ∧ (PySem.W.mroIn K (A_X14 K) (.ref (A_X15 K)) = some false) ∧ (PySem.W.mroIn K (A_X14 K) (.ref (A_X16 K)) = some false) ∧ (PySem.W.mroIn K (A_X14 K) (.ref (A_X17 K)) = some false) ∧ (PySem.W.mroIn K (A_X14 K) (.ref (A_X18 K)) = some false) ∧ (PySem.W.mroIn K (A_X14 K) (.ref (A_X19 K)) = some false) ∧ (PySem.W.mroIn K (A_X14 K) (.ref (A_X20 K)) = some false) ∧ (PySem.W.mroIn K (A_X14 K) (.ref (A_X21 K)) = some false) ∧ (PySem.W.mroIn K (A_X14 K) (.ref (A_X22 K)) = some false) ∧ (PySem.W.mroIn K (A_X14 K) (.ref (A_X23 K)) = some false) ∧ (PySem.W.mroIn K (A_X14 K) (.ref (A_X24 K)) = some false) ∧ (PySem.W.mroIn K (A_X14 K) (.ref (A_X25 K)) = some false) ∧ (PySem.W.mroIn K (A_X14 K) (.ref (A_X26 K)) = some false) ∧ (PySem.W.mroIn K (A_X14 K) (.ref (A_X27 K)) = some false) ∧ (PySem.W.mroIn K (A_X14 K) (.ref (A_X28 K)) = some false) ∧ (PySem.W.keepIn K (.ref (A_X15 K)) = true) ∧ (PySem.W.findIn K (.ref (A_X15 K)) "kind" = some none) ∧ (PySem.W.excIn K (A_X15 K) [.type "ValueError", .type "Exception", .type "BaseException", .type "object"] "ValueError.__new__" = true) ∧ (PySem.W.subIn K (.ref (A_X15 K)) (.type "BaseException") = some true) ∧ (PySem.W.findIn K (.ref (A_X15 K)) "__getattribute__" = some (some (.builtin "BaseException.__getattribute__")))
abbrev FG9 (K : Hq.Fr) : Prop := (PySem.W.findIn K (.ref (A_X15 K)) "__getattr__" = some none) ∧ (PySem.W.hasDictIn K (A_X15 K) = true) ∧ (PySem.W.findIn K (.ref (A_X15 K)) "__class__" = some (some (.builtin "object.__class__"))) ∧ (PySem.W.mroIn K (A_X15 K) (.type "object") = some true) ∧ (PySem.W.mroIn K (A_X15 K) (.type "ValueError") = some true) ∧ (PySem.W.mroIn K (A_X15 K) (.ref (A_X10 K)) = some true) ∧ (PySem.W.mroIn K (A_X15 K) (.ref (A_X11 K)) = some false) ∧ (PySem.W.mroIn K (A_X15 K) (.ref (A_X12 K)) = some false) ∧ (PySem.W.mroIn K (A_X15 K) (.ref (A_X13 K)) = some false) ∧ (PySem.W.mroIn K (A_X15 K) (.ref (A_X14 K)) = some false) ∧ (PySem.W.mroIn K (A_X15 K) (.ref (A_X16 K)) = some false) ∧ (PySem.W.mroIn K (A_X15 K) (.ref (A_X17 K)) = some false) ∧ (PySem.W.mroIn K (A_X15 K) (.ref (A_X18 K)) = some false) ∧ (PySem.W.mroIn K (A_X15 K) (.ref (A_X19 K)) = some false) ∧ (PySem.W.mroIn K (A_X15 K) (.ref (A_X20 K)) = some false) ∧ (PySem.W.mroIn K (A_X15 K) (.ref (A_X21 K)) = some false) ∧ (PySem.W.mroIn K (A_X15 K) (.ref (A_X22 K)) = some false) ∧ (PySem.W.mroIn K (A_X15 K) (.ref (A_X23 K)) = some false) ∧ (PySem.W.mroIn K (A_X15 K) (.ref (A_X24 K)) = some false) ∧ (PySem.W.mroIn K (A_X15 K) (.ref (A_X25 K)) = some false) ∧ (PySem.W.mroIn K (A_X15 K) (.ref (A_X26 K)) = some false) ∧ (PySem.W.mroIn K (A_X15 K) (.ref (A_X27 K)) = some false) ∧ (PySem.W.mroIn K (A_X15 K) (.ref (A_X28 K)) = some false) ∧ (PySem.W.keepIn K (.ref (A_X16 K)) = true)
abbrev FG10 (K : Hq.Fr) : Prop := (PySem.W.findIn K (.ref (A_X16 K)) "kind" = some none) ∧ (PySem.W.excIn K (A_X16 K) [.type "ValueError", .type "Exception", .type "BaseException", .type "object"] "ValueError.__new__" = true) ∧ (PySem.W.subIn K (.ref (A_X16 K)) (.type "BaseException") = some true) ∧ (PySem.W.findIn K (.ref (A_X16 K)) "__getattribute__" = some (some (.builtin "BaseException.__getattribute__"))) ∧ (PySem.W.findIn K (.ref (A_X16 K)) "__getattr__" = some none) ∧ (PySem.W.hasDictIn K (A_X16 K) = true) ∧ (PySem.W.findIn K (.ref (A_X16 K)) "__class__" = some (some (.builtin "object.__class__"))) ∧ (PySem.W.mroIn K (A_X16 K) (.type "object") = some true) ∧ (PySem.W.mroIn K (A_X16 K) (.type "ValueError") = some true) ∧ (PySem.W.mroIn K (A_X16 K) (.ref (A_X10 K)) = some true) ∧ (PySem.W.mroIn K (A_X16 K) (.ref (A_X11 K)) = some false) ∧ (PySem.W.mroIn K (A_X16 K) (.ref (A_X12 K)) = some false) ∧ (PySem.W.mroIn K (A_X16 K) (.ref (A_X13 K)) = some false) ∧ (PySem.W.mroIn K (A_X16 K) (.ref (A_X14 K)) = some false) ∧ (PySem.W.mroIn K (A_X16 K) (.ref (A_X15 K)) = some false) ∧ (PySem.W.mroIn K (A_X16 K) (.ref (A_X17 K)) = some false) ∧ (PySem.W.mroIn K (A_X16 K) (.ref (A_X18 K)) = some false) ∧ (PySem.W.mroIn K (A_X16 K) (.ref (A_X19 K)) = some false) ∧ (PySem.W.mroIn K (A_X16 K) (.ref (A_X20 K)) = some false) ∧ (PySem.W.mroIn K (A_X16 K) (.ref (A_X21 K)) = some false) ∧ (PySem.W.mroIn K (A_X16 K) (.ref (A_X22 K)) = some false) ∧ (PySem.W.mroIn K (A_X16 K) (.ref (A_X23 K)) = some false) ∧ (PySem.W.mroIn K (A_X16 K) (.ref (A_X24 K)) = some false) ∧ (PySem.W.mroIn K (A_X16 K) (.ref (A_X25 K)) = some false)
abbrev FG11 (K : Hq.Fr) : Prop := (PySem.W.mroIn K (A_X16 K) (.ref (A_X26 K)) = some false) ∧ (PySem.W.mroIn K (A_X16 K) (.ref (A_X27 K)) = some false) ∧ (PySem.W.mroIn K (A_X16 K) (.ref (A_X28 K)) = some false) ∧ (PySem.W.keepIn K (.ref (A_X17 K)) = true) ∧ (PySem.W.findIn K (.ref (A_X17 K)) "kind" = some none) ∧ (PySem.W.excIn K (A_X17 K) [.type "ValueError", .type "Exception", .type "BaseException", .type "object"] "ValueError.__new__" = true) ∧ (PySem.W.subIn K (.ref (A_X17 K)) (.type "BaseException") = some true) ∧ (PySem.W.findIn K (.ref (A_X17 K)) "__getattribute__" = some (some (.builtin "BaseException.__getattribute__"))) ∧ (PySem.W.findIn K (.ref (A_X17 K)) "__getattr__" = some none) ∧ (PySem.W.hasDictIn K (A_X17 K) = true) ∧ (PySem.W.findIn K (.ref (A_X17 K)) "__class__" = some (some (.builtin "object.__class__"))) ∧ (PySem.W.mroIn K (A_X17 K) (.type "object") = some true) ∧ (PySem.W.mroIn K (A_X17 K) (.type "ValueError") = some true) ∧ (PySem.W.mroIn K (A_X17 K) (.ref (A_X10 K)) = some true) ∧ (PySem.W.mroIn K (A_X17 K) (.ref (A_X11 K)) = some false) ∧ (PySem.W.mroIn K (A_X17 K) (.ref (A_X12 K)) = some false) ∧ (PySem.W.mroIn K (A_X17 K) (.ref (A_X13 K)) = some false) ∧ (PySem.W.mroIn K (A_X17 K) (.ref (A_X14 K)) = some false) ∧ (PySem.W.mroIn K (A_X17 K) (.ref (A_X15 K)) = some false) ∧ (PySem.W.mroIn K (A_X17 K) (.ref (A_X16 K)) = some false) ∧ (PySem.W.mroIn K (A_X17 K) (.ref (A_X18 K)) = some false) ∧ (PySem.W.mroIn K (A_X17 K) (.ref (A_X19 K)) = some false) ∧ (PySem.W.mroIn K (A_X17 K) (.ref (A_X20 K)) = some false) ∧ (PySem.W.mroIn K (A_X17 K) (.ref (A_X21 K)) = some false)
abbrev FG12 (K : Hq.Fr) : Prop := (PySem.W.mroIn K (A_X17 K) (.ref (A_X22 K)) = some false) ∧ (PySem.W.mroIn K (A_X17 K) (.ref (A_X23 K)) = some false) ∧ (PySem.W.mroIn K (A_X17 K) (.ref (A_X24 K)) = some false) ∧ (PySem.W.mroIn K (A_X17 K) (.ref (A_X25 K)) = some false) ∧ (PySem.W.mroIn K (A_X17 K) (.ref (A_X26 K)) = some false) ∧ (PySem.W.mroIn K (A_X17 K) (.ref (A_X27 K)) = some false) ∧ (PySem.W.mroIn K (A_X17 K) (.ref (A_X28 K)) = some false) ∧ (PySem.W.keepIn K (.ref (A_X18 K)) = true) ∧ (PySem.W.findIn K (.ref (A_X18 K)) "kind" = some none) ∧ (PySem.W.excIn K (A_X18 K) [.type "ValueError", .type "Exception", .type "BaseException", .type "object"] "ValueError.__new__" = true) ∧ (PySem.W.subIn K (.ref (A_X18 K)) (.type "BaseException") = some true) ∧ (PySem.W.findIn K (.ref (A_X18 K)) "__getattribute__" = some (some (.builtin "BaseException.__getattribute__"))) ∧ (PySem.W.findIn K (.ref (A_X18 K)) "__getattr__" = some none) ∧ (PySem.W.hasDictIn K (A_X18 K) = true) ∧ (PySem.W.findIn K (.ref (A_X18 K)) "__class__" = some (some (.builtin "object.__class__"))) ∧ (PySem.W.mroIn K (A_X18 K) (.type "object") = some true) ∧ (PySem.W.mroIn K (A_X18 K) (.type "ValueError") = some true) ∧ (PySem.W.mroIn K (A_X18 K) (.ref (A_X10 K)) = some true) ∧ (PySem.W.mroIn K (A_X18 K) (.ref (A_X11 K)) = some false) ∧ (PySem.W.mroIn K (A_X18 K) (.ref (A_X12 K)) = some false) ∧ (PySem.W.mroIn K (A_X18 K) (.ref (A_X13 K)) = some false) ∧ (PySem.W.mroIn K (A_X18 K) (.ref (A_X14 K)) = some false) ∧ (PySem.W.mroIn K (A_X18 K) (.ref (A_X15 K)) = some false) ∧ (PySem.W.mroIn K (A_X18 K) (.ref (A_X16 K)) = some false)
abbrev FG13 (K : Hq.Fr) : Prop := (PySem.W.mroIn K (A_X18 K) (.ref (A_X17 K)) = some false) ∧ (PySem.W.mroIn K (A_X18 K) (.ref (A_X19 K)) = some false) ∧ (PySem.W.mroIn K (A_X18 K) (.ref (A_X20 K)) = some false) ∧ (PySem.W.mroIn K (A_X18 K) (.ref (A_X21 K)) = some false) ∧ (PySem.W.mroIn K (A_X18 K) (.ref (A_X22 K)) = some false) ∧ (PySem.W.mroIn K (A_X18 K) (.ref (A_X23 K)) = some false) ∧ (PySem.W.mroIn K (A_X18 K) (.ref (A_X24 K)) = some false) ∧ (PySem.W.mroIn K (A_X18 K) (.ref (A_X25 K)) = some false) ∧ (PySem.W.mroIn K (A_X18 K) (.ref (A_X26 K)) = some false) ∧ (PySem.W.mroIn K (A_X18 K) (.ref (A_X27 K)) = some false) ∧ (PySem.W.mroIn K (A_X18 K) (.ref (A_X28 K)) = some false) ∧ (PySem.W.keepIn K (.ref (A_X19 K)) = true) ∧ (PySem.W.findIn K (.ref (A_X19 K)) "kind" = some none) ∧ (PySem.W.excIn K (A_X19 K) [.type "ValueError", .type "Exception", .type "BaseException", .type "object"] "ValueError.__new__" = true) ∧ (PySem.W.subIn K (.ref (A_X19 K)) (.type "BaseException") = some true) ∧ (PySem.W.findIn K (.ref (A_X19 K)) "__getattribute__" = some (some (.builtin "BaseException.__getattribute__"))) ∧ (PySem.W.findIn K (.ref (A_X19 K)) "__getattr__" = some none) ∧ (PySem.W.hasDictIn K (A_X19 K) = true) ∧ (PySem.W.findIn K (.ref (A_X19 K)) "__class__" = some (some (.builtin "object.__class__"))) ∧ (PySem.W.mroIn K (A_X19 K) (.type "object") = some true) ∧ (PySem.W.mroIn K (A_X19 K) (.type "ValueError") = some true) ∧ (PySem.W.mroIn K (A_X19 K) (.ref (A_X10 K)) = some true) ∧ (PySem.W.mroIn K (A_X19 K) (.ref (A_X11 K)) = some false) ∧ (PySem.W.mroIn K (A_X19 K) (.ref (A_X12 K)) = some false)
abbrev FG14 (K : Hq.Fr) : Prop := (PySem.W.mroIn K (A_X19 K) (.ref (A_X13 K)) = some false) ∧ (PySem.W.mroIn K (A_X19 K) (.ref (A_X14 K)) = some false) ∧ (PySem.W.mroIn K (A_X19 K) (.ref (A_X15 K)) = some false) ∧ (PySem.W.mroIn K (A_X19 K) (.ref (A_X16 K)) = some false) ∧ (PySem.W.mroIn K (A_X19 K) (.ref (A_X17 K)) = some false) ∧ (PySem.W.mroIn K (A_X19 K) (.ref (A_X18 K)) = some false) ∧ (PySem.W.mroIn K (A_X19 K) (.ref (A_X20 K)) = some false) ∧ (PySem.W.mroIn K (A_X19 K) (.ref (A_X21 K)) = some false) ∧ (PySem.W.mroIn K (A_X19 K) (.ref (A_X22 K)) = some false) ∧ (PySem.W.mroIn K (A_X19 K) (.ref (A_X23 K)) = some false) ∧ (PySem.W.mroIn K (A_X19 K) (.ref (A_X24 K)) = some false) ∧ (PySem.W.mroIn K (A_X19 K) (.ref (A_X25 K)) = some false) ∧ (PySem.W.mroIn K (A_X19 K) (.ref (A_X26 K)) = some false) ∧ (PySem.W.mroIn K (A_X19 K) (.ref (A_X27 K)) = some false) ∧ (PySem.W.mroIn K (A_X19 K) (.ref (A_X28 K)) = some false) ∧ (PySem.W.keepIn K (.ref (A_X20 K)) = true) ∧ (PySem.W.findIn K (.ref (A_X20 K)) "kind" = some none) ∧ (PySem.W.excIn K (A_X20 K) [.type "ValueError", .type "Exception", .type "BaseException", .type "object"] "ValueError.__new__" = true) ∧ (PySem.W.subIn K (.ref (A_X20 K)) (.type "BaseException") = some true) ∧ (PySem.W.findIn K (.ref (A_X20 K)) "__getattribute__" = some (some (.builtin "BaseException.__getattribute__"))) ∧ (PySem.W.findIn K (.ref (A_X20 K)) "__getattr__" = some none) ∧ (PySem.W.hasDictIn K (A_X20 K) = true) ∧ (PySem.W.findIn K (.ref (A_X20 K)) "__class__" = some (some (.builtin "object.__class__"))) ∧ (PySem.W.mroIn K (A_X20 K) (.type "object") = some true)
abbrev FG15 (K : Hq.Fr) : Prop := (PySem.W.mroIn K (A_X20 K) (.type "ValueError") = some true) ∧ (PySem.W.mroIn K (A_X20 K) (.ref (A_X10 K)) = some true) ∧ (PySem.W.mroIn K (A_X20 K) (.ref (A_X11 K)) = some false) ∧ (PySem.W.mroIn K (A_X20 K) (.ref (A_X12 K)) = some false) ∧ (PySem.W.mroIn K (A_X20 K) (.ref (A_X13 K)) = some false) ∧ (PySem.W.mroIn K (A_X20 K) (.ref (A_X14 K)) = some false) ∧ (PySem.W.mroIn K (A_X20 K) (.ref (A_X15 K)) = some false) ∧ (PySem.W.mroIn K (A_X20 K) (.ref (A_X16 K)) = some false) ∧ (PySem.W.mroIn K (A_X20 K) (.ref (A_X17 K)) = some false) ∧ (PySem.W.mroIn K (A_X20 K) (.ref (A_X18 K)) = some false) ∧ (PySem.W.mroIn K (A_X20 K) (.ref (A_X19 K)) = some false) ∧ (PySem.W.mroIn K (A_X20 K) (.ref (A_X21 K)) = some false) ∧ (PySem.W.mroIn K (A_X20 K) (.ref (A_X22 K)) = some false) ∧ (PySem.W.mroIn K (A_X20 K) (.ref (A_X23 K)) = some false) ∧ (PySem.W.mroIn K (A_X20 K) (.ref (A_X24 K)) = some false) ∧ (PySem.W.mroIn K (A_X20 K) (.ref (A_X25 K)) = some false) ∧ (PySem.W.mroIn K (A_X20 K) (.ref (A_X26 K)) = some false) ∧ (PySem.W.mroIn K (A_X20 K) (.ref (A_X27 K)) = some false) ∧ (PySem.W.mroIn K (A_X20 K) (.ref (A_X28 K)) = some false) ∧ (PySem.W.keepIn K (.ref (A_X21 K)) = true) ∧ (PySem.W.findIn K (.ref (A_X21 K)) "kind" = some none) ∧ (PySem.W.excIn K (A_X21 K) [.type "ValueError", .type "Exception", .type "BaseException", .type "object"] "ValueError.__new__" = true) ∧ (PySem.W.subIn K (.ref (A_X21 K)) (.type "BaseException") = some true) ∧ (PySem.W.findIn K (.ref (A_X21 K)) "__getattribute__" = some (some (.builtin "BaseException.__getattribute__")))
abbrev FG16 (K : Hq.Fr) : Prop := (PySem.W.findIn K (.ref (A_X21 K)) "__getattr__" = some none) ∧ (PySem.W.hasDictIn K (A_X21 K) = true) ∧ (PySem.W.findIn K (.ref (A_X21 K)) "__class__" = some (some (.builtin "object.__class__"))) ∧ (PySem.W.mroIn K (A_X21 K) (.type "object") = some true) ∧ (PySem.W.mroIn K (A_X21 K) (.type "ValueError") = some true) ∧ (PySem.W.mroIn K (A_X21 K) (.ref (A_X10 K)) = some true) ∧ (PySem.W.mroIn K (A_X21 K) (.ref (A_X11 K)) = some false) ∧ (PySem.W.mroIn K (A_X21 K) (.ref (A_X12 K)) = some false) ∧ (PySem.W.mroIn K (A_X21 K) (.ref (A_X13 K)) = some false) ∧ (PySem.W.mroIn K (A_X21 K) (.ref (A_X14 K)) = some false) ∧ (PySem.W.mroIn K (A_X21 K) (.ref (A_X15 K)) = some false) ∧ (PySem.W.mroIn K (A_X21 K) (.ref (A_X16 K)) = some false) ∧ (PySem.W.mroIn K (A_X21 K) (.ref (A_X17 K)) = some false) ∧ (PySem.W.mroIn K (A_X21 K) (.ref (A_X18 K)) = some false) ∧ (PySem.W.mroIn K (A_X21 K) (.ref (A_X19 K)) = some false) ∧ (PySem.W.mroIn K (A_X21 K) (.ref (A_X20 K)) = some false) ∧ (PySem.W.mroIn K (A_X21 K) (.ref (A_X22 K)) = some false) ∧ (PySem.W.mroIn K (A_X21 K) (.ref (A_X23 K)) = some false) ∧ (PySem.W.mroIn K (A_X21 K) (.ref (A_X24 K)) = some false) ∧ (PySem.W.mroIn K (A_X21 K) (.ref (A_X25 K)) = some false) ∧ (PySem.W.mroIn K (A_X21 K) (.ref (A_X26 K)) = some false) ∧ (PySem.W.mroIn K (A_X21 K) (.ref (A_X27 K)) = some false) ∧ (PySem.W.mroIn K (A_X21 K) (.ref (A_X28 K)) = some false) ∧ (PySem.W.keepIn K (.ref (A_X22 K)) = true)
abbrev FG17 (K : Hq.Fr) : Prop := (PySem.W.findIn K (.ref (A_X22 K)) "kind" = some none) ∧ (PySem.W.excIn K (A_X22 K) [.type "ValueError", .type "Exception", .type "BaseException", .type "object"] "ValueError.__new__" = true) ∧ (PySem.W.subIn K (.ref (A_X22 K)) (.type "BaseException") = some true) ∧ (PySem.W.findIn K (.ref (A_X22 K)) "__getattribute__" = some (some (.builtin "BaseException.__getattribute__"))) ∧ (PySem.W.findIn K (.ref (A_X22 K)) "__getattr__" = some none) ∧ (PySem.W.hasDictIn K (A_X22 K) = true) ∧ (PySem.W.findIn K (.ref (A_X22 K)) "__class__" = some (some (.builtin "object.__class__"))) ∧ (PySem.W.mroIn K (A_X22 K) (.type "object") = some true) ∧ (PySem.W.mroIn K (A_X22 K) (.type "ValueError") = some true) ∧ (PySem.W.mroIn K (A_X22 K) (.ref (A_X10 K)) = some true) ∧ (PySem.W.mroIn K (A_X22 K) (.ref (A_X11 K)) = some false) ∧ (PySem.W.mroIn K (A_X22 K) (.ref (A_X12 K)) = some false) ∧ (PySem.W.mroIn K (A_X22 K) (.ref (A_X13 K)) = some false) ∧ (PySem.W.mroIn K (A_X22 K) (.ref (A_X14 K)) = some false) ∧ (PySem.W.mroIn K (A_X22 K) (.ref (A_X15 K)) = some false) ∧ (PySem.W.mroIn K (A_X22 K) (.ref (A_X16 K)) = some false) ∧ (PySem.W.mroIn K (A_X22 K) (.ref (A_X17 K)) = some false) ∧ (PySem.W.mroIn K (A_X22 K) (.ref (A_X18 K)) = some false) ∧ (PySem.W.mroIn K (A_X22 K) (.ref (A_X19 K)) = some false) ∧ (PySem.W.mroIn K (A_X22 K) (.ref (A_X20 K)) = some false) ∧ (PySem.W.mroIn K (A_X22 K) (.ref (A_X21 K)) = some false) ∧ (PySem.W.mroIn K (A_X22 K) (.ref (A_X23 K)) = some false) ∧ (PySem.W.mroIn K (A_X22 K) (.ref (A_X24 K)) = some false) ∧ (PySem.W.mroIn K (A_X22 K) (.ref (A_X25 K)) = some false)
abbrev FG18 (K : Hq.Fr) : Prop := (PySem.W.mroIn K (A_X22 K) (.ref (A_X26 K)) = some false) ∧ (PySem.W.mroIn K (A_X22 K) (.ref (A_X27 K)) = some false) ∧ (PySem.W.mroIn K (A_X22 K) (.ref (A_X28 K)) = some false) ∧ (PySem.W.keepIn K (.ref (A_X23 K)) = true) ∧ (PySem.W.findIn K (.ref (A_X23 K)) "kind" = some none) ∧ (PySem.W.excIn K (A_X23 K) [.type "ValueError", .type "Exception", .type "BaseException", .type "object"] "ValueError.__new__" = true) ∧ (PySem.W.subIn K (.ref (A_X23 K)) (.type "BaseException") = some true) ∧ (PySem.W.findIn K (.ref (A_X23 K)) "__getattribute__" = some (some (.builtin "BaseException.__getattribute__"))) ∧ (PySem.W.findIn K (.ref (A_X23 K)) "__getattr__" = some none) ∧ (PySem.W.hasDictIn K (A_X23 K) = true) ∧ (PySem.W.findIn K (.ref (A_X23 K)) "__class__" = some (some (.builtin "object.__class__"))) ∧ (PySem.W.mroIn K (A_X23 K) (.type "object") = some true) ∧ (PySem.W.mroIn K (A_X23 K) (.type "ValueError") = some true) ∧ (PySem.W.mroIn K (A_X23 K) (.ref (A_X10 K)) = some true) ∧ (PySem.W.mroIn K (A_X23 K) (.ref (A_X11 K)) = some false) ∧ (PySem.W.mroIn K (A_X23 K) (.ref (A_X12 K)) = some false) ∧ (PySem.W.mroIn K (A_X23 K) (.ref (A_X13 K)) = some false) ∧ (PySem.W.mroIn K (A_X23 K) (.ref (A_X14 K)) = some false) ∧ (PySem.W.mroIn K (A_X23 K) (.ref (A_X15 K)) = some false) ∧ (PySem.W.mroIn K (A_X23 K) (.ref (A_X16 K)) = some false) ∧ (PySem.W.mroIn K (A_X23 K) (.ref (A_X17 K)) = some false) ∧ (PySem.W.mroIn K (A_X23 K) (.ref (A_X18 K)) = some false) ∧ (PySem.W.mroIn K (A_X23 K) (.ref (A_X19 K)) = some false) ∧ (PySem.W.mroIn K (A_X23 K) (.ref (A_X20 K)) = some false)
abbrev FG19 (K : Hq.Fr) : Prop := (PySem.W.mroIn K (A_X23 K) (.ref (A_X21 K)) = some false) ∧ (PySem.W.mroIn K (A_X23 K) (.ref (A_X22 K)) = some false) ∧ (PySem.W.mroIn K (A_X23 K) (.ref (A_X24 K)) = some false) ∧ (PySem.W.mroIn K (A_X23 K) (.ref (A_X25 K)) = some false) ∧ (PySem.W.mroIn K (A_X23 K) (.ref (A_X26 K)) = some false) ∧ (PySem.W.mroIn K (A_X23 K) (.ref (A_X27 K)) = some false) ∧ (PySem.W.mroIn K (A_X23 K) (.ref (A_X28 K)) = some false) ∧ (PySem.W.keepIn K (.ref (A_X24 K)) = true) ∧ (PySem.W.findIn K (.ref (A_X24 K)) "kind" = some none) ∧ (PySem.W.excIn K (A_X24 K) [.type "ValueError", .type "Exception", .type "BaseException", .type "object"] "ValueError.__new__" = true) ∧ (PySem.W.subIn K (.ref (A_X24 K)) (.type "BaseException") = some true) ∧ (PySem.W.findIn K (.ref (A_X24 K)) "__getattribute__" = some (some (.builtin "BaseException.__getattribute__"))) ∧ (PySem.W.findIn K (.ref (A_X24 K)) "__getattr__" = some none) ∧ (PySem.W.hasDictIn K (A_X24 K) = true) ∧ (PySem.W.findIn K (.ref (A_X24 K)) "__class__" = some (some (.builtin "object.__class__"))) ∧ (PySem.W.mroIn K (A_X24 K) (.type "object") = some true) ∧ (PySem.W.mroIn K (A_X24 K) (.type "ValueError") = some true) ∧ (PySem.W.mroIn K (A_X24 K) (.ref (A_X10 K)) = some true) ∧ (PySem.W.mroIn K (A_X24 K) (.ref (A_X11 K)) = some false) ∧ (PySem.W.mroIn K (A_X24 K) (.ref (A_X12 K)) = some false) ∧ (PySem.W.mroIn K (A_X24 K) (.ref (A_X13 K)) = some false) ∧ (PySem.W.mroIn K (A_X24 K) (.ref (A_X14 K)) = some false) ∧ (PySem.W.mroIn K (A_X24 K) (.ref (A_X15 K)) = some false) ∧ (PySem.W.mroIn K (A_X24 K) (.ref (A_X16 K)) = some false)
abbrev FG20 (K : Hq.Fr) : Prop := (PySem.W.mroIn K (A_X24 K) (.ref (A_X17 K)) = some false) ∧ (PySem.W.mroIn K (A_X24 K) (.ref (A_X18 K)) = some false) ∧ (PySem.W.mroIn K (A_X24 K) (.ref (A_X19 K)) = some false) ∧ (PySem.W.mroIn K (A_X24 K) (.ref (A_X20 K)) = some false) ∧ (PySem.W.mroIn K (A_X24 K) (.ref (A_X21 K)) = some false) ∧ (PySem.W.mroIn K (A_X24 K) (.ref (A_X22 K)) = some false) ∧ (PySem.W.mroIn K (A_X24 K) (.ref (A_X23 K)) = some false) ∧ (PySem.W.mroIn K (A_X24 K) (.ref (A_X25 K)) = some false) ∧ (PySem.W.mroIn K (A_X24 K) (.ref (A_X26 K)) = some false) ∧ (PySem.W.mroIn K (A_X24 K) (.ref (A_X27 K)) = some false) ∧ (PySem.W.mroIn K (A_X24 K) (.ref (A_X28 K)) = some false) ∧ (PySem.W.keepIn K (.ref (A_X25 K)) = true) ∧ (PySem.W.findIn K (.ref (A_X25 K)) "kind" = some none) ∧ (PySem.W.excIn K (A_X25 K) [.type "ValueError", .type "Exception", .type "BaseException", .type "object"] "ValueError.__new__" = true) ∧ (PySem.W.subIn K (.ref (A_X25 K)) (.type "BaseException") = some true) ∧ (PySem.W.findIn K (.ref (A_X25 K)) "__getattribute__" = some (some (.builtin "BaseException.__getattribute__"))) ∧ (PySem.W.findIn K (.ref (A_X25 K)) "__getattr__" = some none) ∧ (PySem.W.hasDictIn K (A_X25 K) = true) ∧ (PySem.W.findIn K (.ref (A_X25 K)) "__class__" = some (some (.builtin "object.__class__"))) ∧ (PySem.W.mroIn K (A_X25 K) (.type "object") = some true) ∧ (PySem.W.mroIn K (A_X25 K) (.type "ValueError") = some true) ∧ (PySem.W.mroIn K (A_X25 K) (.ref (A_X10 K)) = some true) ∧ (PySem.W.mroIn K (A_X25 K) (.ref (A_X11 K)) = some false) ∧ (PySem.W.mroIn K (A_X25 K) (.ref (A_X12 K)) = some false)
abbrev FG21 (K : Hq.Fr) : Prop := (PySem.W.mroIn K (A_X25 K) (.ref (A_X13 K)) = some false) ∧ (PySem.W.mroIn K (A_X25 K) (.ref (A_X14 K)) = some false) ∧ (PySem.W.mroIn K (A_X25 K) (.ref (A_X15 K)) = some false) ∧ (PySem.W.mroIn K (A_X25 K) (.ref (A_X16 K)) = some false) ∧ (PySem.W.mroIn K (A_X25 K) (.ref (A_X17 K)) = some false) ∧ (PySem.W.mroIn K (A_X25 K) (.ref (A_X18 K)) = some false) ∧ (PySem.W.mroIn K (A_X25 K) (.ref (A_X19 K)) = some false) ∧ (PySem.W.mroIn K (A_X25 K) (.ref (A_X20 K)) = some false) ∧ (PySem.W.mroIn K (A_X25 K) (.ref (A_X21 K)) = some false) ∧ (PySem.W.mroIn K (A_X25 K) (.ref (A_X22 K)) = some false) ∧ (PySem.W.mroIn K (A_X25 K) (.ref (A_X23 K)) = some false) ∧ (PySem.W.mroIn K (A_X25 K) (.ref (A_X24 K)) = some false) ∧ (PySem.W.mroIn K (A_X25 K) (.ref (A_X26 K)) = some false) ∧ (PySem.W.mroIn K (A_X25 K) (.ref (A_X27 K)) = some false) ∧ (PySem.W.mroIn K (A_X25 K) (.ref (A_X28 K)) = some false) ∧ (PySem.W.keepIn K (.ref (A_X26 K)) = true) ∧ (PySem.W.findIn K (.ref (A_X26 K)) "kind" = some none) ∧ (PySem.W.excIn K (A_X26 K) [.type "ValueError", .type "Exception", .type "BaseException", .type "object"] "ValueError.__new__" = true) ∧ (PySem.W.subIn K (.ref (A_X26 K)) (.type "BaseException") = some true) ∧ (PySem.W.findIn K (.ref (A_X26 K)) "__getattribute__" = some (some (.builtin "BaseException.__getattribute__"))) ∧ (PySem.W.findIn K (.ref (A_X26 K)) "__getattr__" = some none) ∧ (PySem.W.hasDictIn K (A_X26 K) = true) ∧ (PySem.W.findIn K (.ref (A_X26 K)) "__class__" = some (some (.builtin "object.__class__"))) ∧ (PySem.W.mroIn K (A_X26 K) (.type "object") = some true)
abbrev FG22 (K : Hq.Fr) : Prop := (PySem.W.mroIn K (A_X26 K) (.type "ValueError") = some true) ∧ (PySem.W.mroIn K (A_X26 K) (.ref (A_X10 K)) = some true) ∧ (PySem.W.mroIn K (A_X26 K) (.ref (A_X11 K)) = some false) ∧ (PySem.W.mroIn K (A_X26 K) (.ref (A_X12 K)) = some false) ∧ (PySem.W.mroIn K (A_X26 K) (.ref (A_X13 K)) = some false) ∧ (PySem.W.mroIn K (A_X26 K) (.ref (A_X14 K)) = some false) ∧ (PySem.W.mroIn K (A_X26 K) (.ref (A_X15 K)) = some false) ∧ (PySem.W.mroIn K (A_X26 K) (.ref (A_X16 K)) = some false) ∧ (PySem.W.mroIn K (A_X26 K) (.ref (A_X17 K)) = some false) ∧ (PySem.W.mroIn K (A_X26 K) (.ref (A_X18 K)) = some false) ∧ (PySem.W.mroIn K (A_X26 K) (.ref (A_X19 K)) = some false) ∧ (PySem.W.mroIn K (A_X26 K) (.ref (A_X20 K)) = some false) ∧ (PySem.W.mroIn K (A_X26 K) (.ref (A_X21 K)) = some false) ∧ (PySem.W.mroIn K (A_X26 K) (.ref (A_X22 K)) = some false) ∧ (PySem.W.mroIn K (A_X26 K) (.ref (A_X23 K)) = some false) ∧ (PySem.W.mroIn K (A_X26 K) (.ref (A_X24 K)) = some false) ∧ (PySem.W.mroIn K (A_X26 K) (.ref (A_X25 K)) = some false) ∧ (PySem.W.mroIn K (A_X26 K) (.ref (A_X27 K)) = some false) ∧ (PySem.W.mroIn K (A_X26 K) (.ref (A_X28 K)) = some false) ∧ (PySem.W.keepIn K (.ref (A_X27 K)) = true) ∧ (PySem.W.findIn K (.ref (A_X27 K)) "limit" = some none) ∧ (PySem.W.findIn K (.ref (A_X27 K)) "__setattr__" = some (some (.builtin "object.__setattr__"))) ∧ (PySem.W.findIn K (.ref (A_X27 K)) "__init__" = some (some (.ref (A_fi27_ K)))) ∧ (PySem.W.typeIn K (.ref (A_fi27_ K)) = some (.type "function"))
abbrev FG23 (K : Hq.Fr) : Prop := (PySem.W.codeIn K (.ref (A_ca27 K)) "TooMany.__init__" = true) ∧ ((Hq.flO K (A_ca27 K))[2]? = some (.str (Hq.stV ((Hq.flO K (A_ca27 K)).toList.getD 2 .none)) (Hq.tkV ((Hq.flO K (A_ca27 K)).toList.getD 2 .none)))) ∧ (((PySem.Challenge.rw_halfread_k16_exceptions_made.prog.main.file : Str) == (Hq.stV ((Hq.flO K (A_ca27 K)).toList.getD 2 .none))) = true) ∧ ((PySem.Challenge.rw_halfread_k16_exceptions_made.prog.main.scope.names.lookup ("super" : Str)).isSome = false) ∧ (PySem.W.nsIn K cStatics "thirdparty.any" = some none) ∧ (PySem.W.ks_superIn K (A_X27 K) (A_X27 K) "__init__" = some (some (.builtin "ValueError.__init__"))) ∧ (PySem.W.subIn K (.ref (A_X27 K)) (.type "ValueError") = some true) ∧ (PySem.W.nsIn K mainGlobals "super" = some none) ∧ (PySem.W.subIn K (.ref (A_X27 K)) (.type "BaseException") = some true) ∧ (PySem.W.findIn K (.ref (A_X27 K)) "__getattribute__" = some (some (.builtin "BaseException.__getattribute__"))) ∧ (PySem.W.findIn K (.ref (A_X27 K)) "__getattr__" = some none) ∧ (PySem.W.hasDictIn K (A_X27 K) = true) ∧ (PySem.W.findIn K (.ref (A_X27 K)) "__class__" = some (some (.builtin "object.__class__"))) ∧ (PySem.W.mroIn K (A_X27 K) (.type "object") = some true) ∧ (PySem.W.mroIn K (A_X27 K) (.type "ValueError") = some true) ∧ (PySem.W.mroIn K (A_X27 K) (.ref (A_X10 K)) = some true) ∧ (PySem.W.mroIn K (A_X27 K) (.ref (A_X11 K)) = some false) ∧ (PySem.W.mroIn K (A_X27 K) (.ref (A_X12 K)) = some false) ∧ (PySem.W.mroIn K (A_X27 K) (.ref (A_X13 K)) = some false) ∧ (PySem.W.mroIn K (A_X27 K) (.ref (A_X14 K)) = some false) ∧ (PySem.W.mroIn K (A_X27 K) (.ref (A_X15 K)) = some false) ∧ (PySem.W.mroIn K (A_X27 K) (.ref (A_X16 K)) = some false) ∧ (PySem.W.mroIn K (A_X27 K) (.ref (A_X17 K)) = some false) ∧ (PySem.W.mroIn K (A_X27 K) (.ref (A_X18 K)) = some false)
abbrev FG24 (K : Hq.Fr) : Prop := (PySem.W.mroIn K (A_X27 K) (.ref (A_X19 K)) = some false) ∧ (PySem.W.mroIn K (A_X27 K) (.ref (A_X20 K)) = some false) ∧ (PySem.W.mroIn K (A_X27 K) (.ref (A_X21 K)) = some false) ∧ (PySem.W.mroIn K (A_X27 K) (.ref (A_X22 K)) = some false) ∧ (PySem.W.mroIn K (A_X27 K) (.ref (A_X23 K)) = some false) ∧ (PySem.W.mroIn K (A_X27 K) (.ref (A_X24 K)) = some false) ∧ (PySem.W.mroIn K (A_X27 K) (.ref (A_X25 K)) = some false) ∧ (PySem.W.mroIn K (A_X27 K) (.ref (A_X26 K)) = some false) ∧ (PySem.W.mroIn K (A_X27 K) (.ref (A_X28 K)) = some false) ∧ (PySem.W.keepIn K (.ref (A_X28 K)) = true) ∧ (PySem.W.findIn K (.ref (A_X28 K)) "kind" = some none) ∧ (PySem.W.findIn K (.ref (A_X28 K)) "__setattr__" = some (some (.builtin "object.__setattr__"))) ∧ (PySem.W.findIn K (.ref (A_X28 K)) "__init__" = some (some (.ref (A_fi28_ K)))) ∧ (PySem.W.typeIn K (.ref (A_fi28_ K)) = some (.type "function")) ∧ (PySem.W.codeIn K (.ref (A_ca28 K)) "Broken.__init__" = true) ∧ ((Hq.flO K (A_ca28 K))[2]? = some (.str (Hq.stV ((Hq.flO K (A_ca28 K)).toList.getD 2 .none)) (Hq.tkV ((Hq.flO K (A_ca28 K)).toList.getD 2 .none)))) ∧ (((PySem.Challenge.rw_halfread_k16_exceptions_made.prog.main.file : Str) == (Hq.stV ((Hq.flO K (A_ca28 K)).toList.getD 2 .none))) = true) ∧ (PySem.W.ks_superIn K (A_X28 K) (A_X28 K) "__init__" = some (some (.builtin "ValueError.__init__"))) ∧ (PySem.W.subIn K (.ref (A_X28 K)) (.type "ValueError") = some true) ∧ (PySem.W.subIn K (.ref (A_X28 K)) (.type "BaseException") = some true) ∧ (PySem.W.findIn K (.ref (A_X28 K)) "__getattribute__" = some (some (.builtin "BaseException.__getattribute__"))) ∧ (PySem.W.findIn K (.ref (A_X28 K)) "__getattr__" = some none) ∧ (PySem.W.hasDictIn K (A_X28 K) = true) ∧ (PySem.W.findIn K (.ref (A_X28 K)) "__class__" = some (some (.builtin "object.__class__")))
abbrev FG25 (K : Hq.Fr) : Prop := (PySem.W.mroIn K (A_X28 K) (.type "object") = some true) ∧ (PySem.W.mroIn K (A_X28 K) (.type "ValueError") = some true) ∧ (PySem.W.mroIn K (A_X28 K) (.ref (A_X10 K)) = some true) ∧ (PySem.W.mroIn K (A_X28 K) (.ref (A_X11 K)) = some false) ∧ (PySem.W.mroIn K (A_X28 K) (.ref (A_X12 K)) = some false) ∧ (PySem.W.mroIn K (A_X28 K) (.ref (A_X13 K)) = some false) ∧ (PySem.W.mroIn K (A_X28 K) (.ref (A_X14 K)) = some false) ∧ (PySem.W.mroIn K (A_X28 K) (.ref (A_X15 K)) = some false) ∧ (PySem.W.mroIn K (A_X28 K) (.ref (A_X16 K)) = some false) ∧ (PySem.W.mroIn K (A_X28 K) (.ref (A_X17 K)) = some false) ∧ (PySem.W.mroIn K (A_X28 K) (.ref (A_X18 K)) = some false) ∧ (PySem.W.mroIn K (A_X28 K) (.ref (A_X19 K)) = some false) ∧ (PySem.W.mroIn K (A_X28 K) (.ref (A_X20 K)) = some false) ∧ (PySem.W.mroIn K (A_X28 K) (.ref (A_X21 K)) = some false) ∧ (PySem.W.mroIn K (A_X28 K) (.ref (A_X22 K)) = some false) ∧ (PySem.W.mroIn K (A_X28 K) (.ref (A_X23 K)) = some false) ∧ (PySem.W.mroIn K (A_X28 K) (.ref (A_X24 K)) = some false) ∧ (PySem.W.mroIn K (A_X28 K) (.ref (A_X25 K)) = some false) ∧ (PySem.W.mroIn K (A_X28 K) (.ref (A_X26 K)) = some false) ∧ (PySem.W.mroIn K (A_X28 K) (.ref (A_X27 K)) = some false) ∧ (PySem.W.nsIn K mainGlobals "len" = some none) ∧ (PySem.W.nsIn K mainGlobals "range" = some none) ∧ (PySem.W.nsIn K mainGlobals "isinstance" = some none) ∧ (PySem.W.nsIn K mainGlobals "tuple" = some none)
abbrev FG26 (K : Hq.Fr) : Prop := (PySem.W.nsIn K mainGlobals "list" = some none) ∧ (PySem.W.nsIn K mainGlobals "all" = some none) ∧ (PySem.W.nsIn K mainGlobals "any" = some none) ∧ (PySem.W.nsIn K mainGlobals "max" = some none) ∧ (PySem.W.nsIn K mainGlobals "min" = some none) ∧ (PySem.W.nsIn K mainGlobals "set" = some none) ∧ (PySem.W.nsIn K mainGlobals "sorted" = some none) ∧ (PySem.W.nsIn K mainGlobals "enumerate" = some none) ∧ (PySem.W.nsIn K mainGlobals "zip" = some none) ∧ (PySem.W.nsIn K mainGlobals "repr" = some none) ∧ (PySem.W.nsIn K mainGlobals "str" = some none) ∧ (PySem.W.nsIn K mainGlobals "int" = some none) ∧ (PySem.W.nsIn K mainGlobals "sum" = some none) ∧ (PySem.W.nsIn K mainGlobals "dict" = some none) ∧ (PySem.W.nsIn K mainGlobals "bool" = some none) ∧ (PySem.W.nsIn K mainGlobals "FEWEST_VALUES" = some (some (.int (2) (Hq.tkV (Hq.gv K "FEWEST_VALUES"))))) ∧ (PySem.W.nsIn K mainGlobals "MOST_VALUES" = some (some (.int (16) (Hq.tkV (Hq.gv K "MOST_VALUES"))))) ∧ (PySem.W.nsIn K mainGlobals "MOST_BITS" = some (some (.int (5) (Hq.tkV (Hq.gv K "MOST_BITS"))))) ∧ (PySem.W.nsIn K mainGlobals "_law_pen" = some (some (.ref (A_f__law_pen_ K)))) ∧ (PySem.W.codeIn K ((Hq.fdO K (A_f__law_pen_ K)).code) "_law_pen" = true) ∧ (PySem.W.keepIn K (.ref (A_f__law_pen_ K)) = true) ∧ (PySem.W.nsIn K mainGlobals "_law_draw" = some (some (.ref (A_f__law_draw_ K)))) ∧ (PySem.W.codeIn K ((Hq.fdO K (A_f__law_draw_ K)).code) "_law_draw" = true) ∧ (PySem.W.keepIn K (.ref (A_f__law_draw_ K)) = true)
abbrev FG27 (K : Hq.Fr) : Prop := (PySem.W.nsIn K mainGlobals "_law_pick" = some (some (.ref (A_f__law_pick_ K)))) ∧ (PySem.W.codeIn K ((Hq.fdO K (A_f__law_pick_ K)).code) "_law_pick" = true) ∧ (PySem.W.keepIn K (.ref (A_f__law_pick_ K)) = true) ∧ (PySem.W.nsIn K mainGlobals "_law_cell_at" = some (some (.ref (A_f__law_cell_at_ K)))) ∧ (PySem.W.codeIn K ((Hq.fdO K (A_f__law_cell_at_ K)).code) "_law_cell_at" = true) ∧ (PySem.W.keepIn K (.ref (A_f__law_cell_at_ K)) = true) ∧ (PySem.W.nsIn K mainGlobals "_law_word" = some (some (.ref (A_f__law_word_ K)))) ∧ (PySem.W.codeIn K ((Hq.fdO K (A_f__law_word_ K)).code) "_law_word" = true) ∧ (PySem.W.keepIn K (.ref (A_f__law_word_ K)) = true) ∧ (PySem.W.nsIn K mainGlobals "is_between" = some (some (.ref (A_f_is_between_ K)))) ∧ (PySem.W.codeIn K ((Hq.fdO K (A_f_is_between_ K)).code) "is_between" = true) ∧ (PySem.W.keepIn K (.ref (A_f_is_between_ K)) = true) ∧ (PySem.W.nsIn K mainGlobals "are_bits" = some (some (.ref (A_f_are_bits_ K)))) ∧ (PySem.W.codeIn K ((Hq.fdO K (A_f_are_bits_ K)).code) "are_bits" = true) ∧ (PySem.W.keepIn K (.ref (A_f_are_bits_ K)) = true) ∧ (PySem.W.nsIn K mainGlobals "are_words" = some (some (.ref (A_f_are_words_ K)))) ∧ (PySem.W.codeIn K ((Hq.fdO K (A_f_are_words_ K)).code) "are_words" = true) ∧ (PySem.W.keepIn K (.ref (A_f_are_words_ K)) = true) ∧ (PySem.W.findIn K (.ref (A_C0 K)) "__init__" = some (some (.ref (A_f_CodeX_initX_ K)))) ∧ (PySem.W.isFn K (.ref (A_f_CodeX_initX_ K)) = true) ∧ (PySem.W.codeIn K ((Hq.fdO K (A_f_CodeX_initX_ K)).code) "Code.__init__" = true) ∧ (PySem.W.keepIn K (.ref (A_f_CodeX_initX_ K)) = true) ∧ (PySem.W.nsIn K mainGlobals "law" = some (some (.ref (A_f_law_ K)))) ∧ (PySem.W.codeIn K ((Hq.fdO K (A_f_law_ K)).code) "law" = true)
abbrev FG28 (K : Hq.Fr) : Prop := (PySem.W.keepIn K (.ref (A_f_law_ K)) = true) ∧ (PySem.W.nsIn K mainGlobals "_law_said" = some (some (.ref (A_f__law_said_ K)))) ∧ (PySem.W.codeIn K ((Hq.fdO K (A_f__law_said_ K)).code) "_law_said" = true) ∧ (PySem.W.keepIn K (.ref (A_f__law_said_ K)) = true) ∧ (((Hq.fdO K (A_f_law_ K)).code) = .ref (A_k0law K)) ∧ ((Hq.flO K (A_k0law K))[11]? = some (.ref (A_Plaw K))) ∧ ((Hq.flO K (A_k0law K)).getD 11 .none = .ref (A_Plaw K)) ∧ ((Hq.flO K (A_k0law K)).getD 18 .none = .str (Hq.stV ((Hq.flO K (A_k0law K)).getD 18 .none)) (Hq.tkV ((Hq.flO K (A_k0law K)).getD 18 .none))) ∧ ((Hq.flO K (A_k0law K)).getD 7 .none = .int (Hq.inV ((Hq.flO K (A_k0law K)).getD 7 .none)) (Hq.tkV ((Hq.flO K (A_k0law K)).getD 7 .none))) ∧ ((Hq.flO K (A_k0law K)).getD 9 .none = .bool (Hq.boV ((Hq.flO K (A_k0law K)).getD 9 .none))) ∧ ((Hq.flO K (A_k0law K)).getD 10 .none = .int (Hq.inV ((Hq.flO K (A_k0law K)).getD 10 .none)) (Hq.tkV ((Hq.flO K (A_k0law K)).getD 10 .none))) ∧ ((A_k0law K) ≠ (A_Plaw K)) ∧ ((Hq.fdO K (A_f__law_pen_ K)).defaults = .none) ∧ ((Hq.fdO K (A_f__law_draw_ K)).defaults = .none) ∧ ((Hq.fdO K (A_f__law_pick_ K)).defaults = .none) ∧ ((Hq.fdO K (A_f__law_cell_at_ K)).defaults = .none) ∧ ((Hq.fdO K (A_f__law_word_ K)).defaults = .none) ∧ ((Hq.fdO K (A_f_is_between_ K)).defaults = .none) ∧ ((Hq.fdO K (A_f_are_bits_ K)).defaults = .none) ∧ ((Hq.fdO K (A_f_are_words_ K)).defaults = .none) ∧ ((Hq.fdO K (A_f_CodeX_initX_ K)).defaults = .none) ∧ ((Hq.fdO K (A_f_law_ K)).defaults = .none) ∧ ((Hq.fdO K (A_f__law_said_ K)).defaults = .none) ∧ ((Hq.fdO K (A_fi27_ K)).defaults = .none)
abbrev FG29 (K : Hq.Fr) : Prop := ((Hq.fdO K (A_fi27_ K)).code = .ref (A_ca27 K)) ∧ (Hq.excB K (A_X27 K) = true) ∧ (Hq.isFl K (A_ca27 K) = true) ∧ (Hq.ceO K (A_cc27 K) = some (.ref (A_X27 K))) ∧ ((Hq.fdO K (A_fi28_ K)).defaults = .none) ∧ ((Hq.fdO K (A_fi28_ K)).code = .ref (A_ca28 K)) ∧ (Hq.excB K (A_X28 K) = true) ∧ (Hq.isFl K (A_ca28 K) = true) ∧ (Hq.ceO K (A_cc28 K) = some (.ref (A_X28 K))) ∧ (Hq.isFl K (A_k0law K) = true) ∧ (Hq.clO K (A_k0law K) = .type "code") ∧ (Hq.noO K (A_Plaw K) = true)
def exL (K : Hq.Fr) : Bool := decide (FG0 K) && decide (FG1 K) && decide (FG2 K) && decide (FG3 K) && decide (FG4 K) && decide (FG5 K) && decide (FG6 K) && decide (FG7 K) && decide (FG8 K) && decide (FG9 K) && decide (FG10 K) && decide (FG11 K) && decide (FG12 K) && decide (FG13 K) && decide (FG14 K) && decide (FG15 K) && decide (FG16 K) && decide (FG17 K) && decide (FG18 K) && decide (FG19 K) && decide (FG20 K) && decide (FG21 K) && decide (FG22 K) && decide (FG23 K) && decide (FG24 K) && decide (FG25 K) && decide (FG26 K) && decide (FG27 K) && decide (FG28 K) && decide (FG29 K)
def stg0 (K : Hq.Fr) : List Addr := [A_C0 K, A_X10 K, A_X11 K, A_X12 K, A_X13 K, A_X14 K, A_X15 K, A_X16 K, A_X17 K, A_X18 K, A_X19 K, A_X20 K, A_X21 K, A_X22 K, A_X23 K, A_X24 K, A_X25 K, A_X26 K, A_X27 K, A_X28 K, A_f__law_pen_ K, A_f__law_draw_ K, A_f__law_pick_ K, A_f__law_cell_at_ K, A_f__law_word_ K, A_f_is_between_ K, A_f_are_bits_ K, A_f_are_words_ K, A_f_law_ K, A_f__law_said_ K]
def stg1 (K : Hq.Fr) : List Addr := [Hq.nsO K (A_C0 K), Hq.nsO K (A_X10 K), Hq.nsO K (A_X11 K), Hq.nsO K (A_X12 K), Hq.nsO K (A_X13 K), Hq.nsO K (A_X14 K), Hq.nsO K (A_X15 K), Hq.nsO K (A_X16 K), Hq.nsO K (A_X17 K), Hq.nsO K (A_X18 K), Hq.nsO K (A_X19 K), Hq.nsO K (A_X20 K), Hq.nsO K (A_X21 K), Hq.nsO K (A_X22 K), Hq.nsO K (A_X23 K), Hq.nsO K (A_X24 K), Hq.nsO K (A_X25 K), Hq.nsO K (A_X26 K), Hq.nsO K (A_X27 K), Hq.nsO K (A_X28 K)]
def stg2 (K : Hq.Fr) : List Addr := [A_f_CodeX_initX_ K, A_fi27_ K, A_fi28_ K]
def stg3 (K : Hq.Fr) : List Addr := [A_cc27 K, A_cc28 K]
def stg4 (K : Hq.Fr) : List Addr := [Hq.rfV (Hq.fdO K (A_f__law_pen_ K)).code, Hq.rfV (Hq.fdO K (A_f__law_draw_ K)).code, Hq.rfV (Hq.fdO K (A_f__law_pick_ K)).code, Hq.rfV (Hq.fdO K (A_f__law_cell_at_ K)).code, Hq.rfV (Hq.fdO K (A_f__law_word_ K)).code, Hq.rfV (Hq.fdO K (A_f_is_between_ K)).code, Hq.rfV (Hq.fdO K (A_f_are_bits_ K)).code, Hq.rfV (Hq.fdO K (A_f_are_words_ K)).code, Hq.rfV (Hq.fdO K (A_f_CodeX_initX_ K)).code, Hq.rfV (Hq.fdO K (A_f_law_ K)).code, Hq.rfV (Hq.fdO K (A_f__law_said_ K)).code, A_ca27 K, A_ca28 K]
def stg : Hq.Stg := [stg0, stg1, stg2, stg3, stg4]
def nm0 : List PySem.Str := ["__name__", "ReadError", "NoWords", "NoCode", "NoValue", "NoWord", "NoOrder", "NoPlaces", "NoText", "NoSpan", "NoNumber", "NoBridge", "NoState", "NoBeat", "NoLap", "NoLook", "NothingDone", "TooMuch", "TooMany", "Broken", "MOST_BITS", "FEWEST_VALUES", "MOST_VALUES", "NO_WORD", "SIGNS", "is_between", "are_bits", "are_words", "word_in", "Code"]
def nm1 : List PySem.Str := ["need_value", "backwards", "_law_cell_at", "_law_pen", "_law_draw", "_law_same", "_law_pick", "_law_mixed", "_law_word", "_law_said"]
def names : List PySem.Str := nm0 ++ nm1
abbrev Rw : PySem.W.OpenRow := PySem.W.OpenLaw.row PySem.Challenge.rw_halfread_k16_exceptions_made
abbrev qv : Program := PySem.W.view Rw.prog [42]
abbrev hk : PySem.W.Hook := Hq.hookF stg fnL tpL exL
abbrev ob : PySem.W.SharedT → hk.α := Hq.obF stg fnL tpL exL
/-- the run is asked twice: the kernel's memory holds one of the two alone -/
theorem map3 {α β γ δ : Type} {X : Option α} {a : α → β} {b : α → γ} {c : α → δ} {A : β} {B : γ} {C : δ} (h1 : X.map (fun s => (a s, b s)) = some (A, B)) (h2 : X.map c = some C) : X.map (fun s => (a s, b s, c s)) = some (A, B, C) := by
  cases X with
  | none => cases h1
  | some x =>
    obtain ⟨p, q⟩ := Prod.mk.inj (Option.some.inj h1)
    have r : c x = C := Option.some.inj h2
    show some (a x, b x, c x) = some (A, B, C)
    rw [p, q, r]
open HandSHeadRun PySem.W PySem.Calls in
theorem run_ab (w : World) (os : OsState) : (endF (stepQ (denQ tabQ) Rw.prog w) 12000 Rw.prog w os).map (fun s => (looksF Rw.prog (boot_heap w.params) s.abs, seenQ qv names (importedModules Rw.prog.main.body) (fun s => xlAt qv [] s && recOk Rw.toRowW.records s) s.abs)) = some (true, openGood qv names) := by kernel_rfl
open HandSHeadRun PySem.W PySem.Calls in
theorem run_c (w : World) (os : OsState) : (endF (stepQ (denQ tabQ) Rw.prog w) 12000 Rw.prog w os).map ob = some (hk.val w) := by kernel_rfl
theorem run (w : World) : HandSHeadRun.RunEq Rw qv hk ob 12000 names w := fun os => map3 (run_ab w os) (run_c w os)
end Hk

set_option maxHeartbeats 4000000
set_option Elab.async false
set_option linter.all false
set_option maxRecDepth 100000
set_option maxHeartbeats 4000000
namespace Hf
open PySem L2

/-- pure data -/
inductive D where
  | none | bool (b : Bool) | int (i : Int) | str (s : Str)
  | tup (ds : List D) | lst (ds : List D) | scr (ds : List D) | prs (ds : List D) | dct (ks vs : List D) | inst (c : Nat) (ds : List D) | box (n : Nat) | cls (c : Nat)
  /-- a bare address: an exception that is handled -/
  | ptr (a : Addr)
  /-- a dict of one entry, numbers -/
  | kd (k x : Int)
  /-- a lambda of the text that captures nothing -/
  | fnT (k : Nat)
  /-- an exception that is handled, at a; its dict, at dd, says x at f -/
  | exo (a dd : Addr) (f : Str) (x : D)
  /-- an exception as a value: its class, what its one field says -/
  | exn (c : Nat) (ds : List D)
  deriving Inhabited

abbrev Sl := List (Option (Bool × D))
abbrev Bs := List D

inductive Rs (α : Type) where
  | ok (a : α) (B : Bs) | exc (c : Nat) (x : Option D) (B : Bs) | bad
def Rs.bind {α β : Type} (m : Rs α) (f : α → Bs → Rs β) : Rs β := match m with
  | .ok a B => f a B
  | .exc c x B => .exc c x B
  | .bad => .bad
abbrev Ev := Sl → Bs → Rs D
abbrev Evs := Sl → Bs → Rs (List D)
abbrev Fn := List D → Bs → Rs D

/-- the names of the fields of the classes -/
def fldN : Nat → List Str
  | 0 => ["row", "known"]
  | 1 => ["own", "seen"]
  | 2 => ["own_bridge", "past"]
  | 3 => ["own_bridge", "past", "limit"]
  | 4 => ["own_bridge", "past"]
  | 5 => ["own_bridge", "past", "limit"]
  | _ => []
/-- the name of the one field of an exception -/
def excF : Nat → Str
  | 27 => "limit"
  | _ => "kind"

/-- a lambda of the text -/
structure LamI where
  q : Str
  prm : Arguments
  bd : Expr
  sc : Scope
/-- what is known of a lambda that captured something, while it is in another def's hands -/
structure LamD where
  live : Bool := false
  fa : Addr := 0
  ca : Addr := 0
  cell : Addr := 0
  y : Str := ⟨#[]⟩
  pm : Value := .none
  ct : Value := .none
  d : D := .none
  v : V := .non
/-- one object, as it is -/
def ObE (a : Addr) (o : Obj) : HO := .ext fun h => h.get? a = some o
structure Gs where
  prog : Program
  w : World
  base : Heap
  K : PySem.W.Frag
  mg : Str → Option Value
  cl : Nat → Addr
  has : Nat → Bool
  /-- the tables of the defs that hold lambdas -/
  tabs : List (Addr × Str) := []
  /-- the lambdas that are values -/
  lam : Nat → LamI
  lmd : Nat → LamD := fun _ => {}
structure Wd where
  P : Hp
  io : Nat → Option Addr
  /-- in an __init__: where the instance stands that is being made -/
  me : Option Addr := Option.none

/-! data as a key -/
mutual
def nkD : D → Option NestedKey
  | .none => some .none
  | .bool b => some (.num (if b = true then 1 else 0))
  | .int i => some (.num i)
  | .str x => some (.text x)
  | .tup ds => (nksD ds).map .tup
  | _ => Option.none
def nksD : List D → Option (List NestedKey)
  | [] => some []
  | d :: ds => match nkD d, nksD ds with
    | some k, some ks => some (k :: ks)
    | _, _ => Option.none
end
/-- a dict's object: its keys with their addresses and values -/
def dctO (g : Gs) (a : Addr) (xs : List (NestedKey × Addr × V)) : HO := .ext fun h => (a == sysModules) = false ∧ xs.length ≤ sizeLine ∧ (∀ p ∈ xs, p.1.depth ≤ 8) ∧ (xs.map (·.1)).Nodup ∧
  ∃ ys : List (NestedKey × Addr × Value), Paired (fun p q => p.1 = q.1 ∧ p.2.1 = q.2.1 ∧ RelV p.2.2 q.2.2) xs ys ∧ ∃ o es ep, h.get? a = some o ∧ o.ExactDict ∧ o.data = .dict es ep ∧ es.toList = ys.map (entryOfKey (nestedKind g.prog g.w))

/-- a tuple of which no dict is known to hang -/
def SqN (K : PySem.W.Frag) (H : Hp) (a : Addr) (xs : List V) : Prop :=
  (∃ o : Obj, H a = some (.frz o (.tup xs)) ∧ o.dict = Option.none) ∨
    ∃ (o : Obj) (us : Array Value) (j : Nat), K.lookup a = some o ∧ o.cls = .type "tuple" ∧ o.dict = Option.none ∧ o.data = .seq us j ∧ us.size ≤ sizeLine ∧ Vals xs us.toList
theorem SqN.T {K : PySem.W.Frag} {H : Hp} {a : Addr} {xs : List V} (h : SqN K H a xs) : SqT K H a xs := by
  rcases h with ⟨o, h, _⟩ | ⟨o, us, j, h1, h2, _, h4⟩
  · exact .inl (.inr ⟨o, h⟩)
  · exact .inr ⟨o, us, j, h1, h2, h4⟩
/-- an exception object of the class cls at a, its dict at d -/
def ExD (cls : Value) (d : Option Addr) (a : Addr) : HO := .ext fun h => ∃ (oe : Obj) (vs : Array Value), h.get? a = some oe ∧ oe.cls = cls ∧ oe.dict = d ∧ oe.data = .fields vs
mutual
def Rep (g : Gs) (w : Wd) : D → V → Prop
  | .none, v => v = .non
  | .bool b, v => v = .bl b
  | .int i, v => v = .int i
  | .str s, v => v = .str s
  | .tup ds, v => ∃ a vs, v = .ref a ∧ SqN g.K w.P a vs ∧ Reps g w ds vs
  | .prs ds, v => ∃ a vs, v = .ref a ∧ SqT g.K w.P a vs ∧ Reps g w ds vs
  | .lst ds, v => ∃ a vs, v = .ref a ∧ w.P a = some (.lst vs) ∧ Reps g w ds vs
  | .scr ds, v => ∃ a vs, v = .ref a ∧ SqL g.K w.P a vs ∧ Reps g w ds vs
  | .dct ks ds, v => ∃ a xs, v = .ref a ∧ w.P a = some (dctO g a xs) ∧ ks.map nkD = xs.map (fun p => some p.1) ∧ Reps g w ks (xs.map fun p => V.ref p.2.1) ∧ Reps g w ds (xs.map fun p => p.2.2)
  | .inst c ds, v => ∃ a dx vs, v = .ref a ∧ w.P a = some (.ins (g.cl c) dx ((fldN c).zip vs)) ∧ ds.length = (fldN c).length ∧ g.has c = true ∧ Reps g w ds vs
  | .box n, v => ∃ a, v = .ref a ∧ w.io n = some a
  | .cls c, v => v = .ref (g.cl c) ∧ g.has c = true
  | .ptr a, v => v = .ref a
  | .kd k x, v => ∃ a, v = .ref a ∧ w.P a = some (.dK [(.inl k, .int x)])
  | .exn c ds, v => ∃ a d vs, v = .ref a ∧ w.P a = some (ExD (.ref (g.cl c)) d a) ∧ Reps g w ds vs ∧ ((vs = [] ∧ d = Option.none) ∨ ∃ dd y, vs = [y] ∧ d = some dd ∧ w.P dd = some (.xd [(excF c, y)]))
  | .exo a dd f x, v => v = .ref a ∧ ∃ y, w.P dd = some (.xd [(f, y)]) ∧ Rep g w x y
  | .fnT k, v => ((g.lmd k).live = true ∧ v = .ref (g.lmd k).fa ∧ w.P (g.lmd k).ca = some (LamX.CodeO (g.lmd k).ca (g.lam k).q)) ∨ ∃ (a c' : Addr) (pm ct : Value), (g.lmd k).live = false ∧ v = .ref a ∧ w.P a = some (ObE a (PySem.W.kla_obj "<lambda>" (g.lam k).q (g.lam k).prm (g.lam k).bd (g.lam k).sc [] pm c' ct)) ∧ w.P c' = some (LamX.CodeO c' (g.lam k).q)
def Reps (g : Gs) (w : Wd) : List D → List V → Prop
  | [], vs => vs = []
  | d :: ds, vs => ∃ v us, vs = v :: us ∧ Rep g w d v ∧ Reps g w ds us
end

/-- what stands at the address of a container -/
def Cont (g : Gs) (w : Wd) : D → Addr → HO → Prop
  | .lst ds, _, o => ∃ vs, o = .lst vs ∧ Reps g w ds vs
  | .dct ks ds, a, o => ∃ xs, o = dctO g a xs ∧ ks.map nkD = xs.map (fun p => some p.1) ∧ Reps g w ks (xs.map fun p => V.ref p.2.1) ∧ Reps g w ds (xs.map fun p => p.2.2)
  | .inst c ds, _, o => ∃ dx vs, o = .ins (g.cl c) dx ((fldN c).zip vs) ∧ ds.length ≤ (fldN c).length ∧ g.has c = true ∧ Reps g w ds vs
  | _, _, _ => False

/-- no table, no code object -/
structure Nt (o : HO) : Prop where
  t : ∀ ps, o ≠ .tbl ps
  c : ∀ a q, o ≠ LamX.CodeO a q
  x : ∀ fs, o ≠ .xd fs
/-- what may become known of a thing that stands already -/
def PX (b : Addr) (o : HO) : Prop := (∃ q, o = LamX.CodeO b q) ∨ ∃ fs, o = .xd fs
theorem Nt.px {b : Addr} {o : HO} (n : Nt o) (h : PX b o) : False := h.elim (fun ⟨q, e⟩ => n.c _ _ e) fun ⟨fs, e⟩ => n.x _ e
def filO (c : Addr) (o1 o2 : Obj) : Heap := ⟨(Array.replicate c o1).push o2, {}⟩
theorem filO_at (c : Addr) (vs ws : Array Value) (a : Addr) (o : Obj) (h : (filO c { cls := .none, data := .fields vs } { cls := .none, data := .fields ws }).get? a = some o) : ∃ us, o.data = .fields us := by
  have hx : ∀ x, ((Array.replicate c ({ cls := .none, data := .fields vs } : Obj)).push { cls := .none, data := .fields ws })[a]? = some x → ∃ us, x.data = .fields us := fun x hx => by
    simp only [Array.getElem?_push, Array.size_replicate, Array.getElem?_replicate] at hx
    split at hx
    · cases hx; exact ⟨_, rfl⟩
    · split at hx
      · cases hx; exact ⟨_, rfl⟩
      · cases hx
  unfold filO Heap.get? at h
  simp only at h
  revert h
  cases e : ((Array.replicate c ({ cls := .none, data := .fields vs } : Obj)).push { cls := .none, data := .fields ws })[a]? with
  | none => intro h; cases h
  | some x =>
    obtain ⟨us, hu⟩ := hx x e
    obtain ⟨c1, d1, da, sl⟩ := x
    simp only at hu
    subst hu
    intro h
    cases h
    exact ⟨us, rfl⟩
theorem filO_c (c : Addr) (vs ws : Array Value) : (filO c { cls := .none, data := .fields vs } { cls := .none, data := .fields ws }).get? c = some { cls := .none, data := .fields ws } := by
  simp only [filO, Heap.get?, Array.getElem?_push, Array.size_replicate, if_true]
theorem codeO_dct (g : Gs) (a c : Addr) (xs : List (NestedKey × Addr × V)) (q : Str) : dctO g a xs ≠ LamX.CodeO c q := fun e => by
  unfold dctO LamX.CodeO at e
  have e := HO.ext.inj e
  have h1 := congrFun e (filO c { cls := .none, data := .fields #[] } { cls := .none, data := .fields #[.none, .str q default] })
  have h2 := h1.symm.mp ⟨_, _, default, filO_c c _ _, rfl, rfl⟩
  obtain ⟨_, _, _, _, ys, _, o, es, ep, hg, _, hd, _⟩ := h2
  obtain ⟨us, hu⟩ := filO_at _ _ _ _ _ hg
  rw [hu] at hd
  cases hd
theorem nt_lst (xs : List V) : Nt (.lst xs) := ⟨fun ps e => (nomatch e), fun a q e => (by unfold LamX.CodeO at e; cases e), fun fs e => nomatch e⟩
theorem nt_ins (C dx : Addr) (xs : List (Str × V)) : Nt (.ins C dx xs) := ⟨fun ps e => (nomatch e), fun a q e => (by unfold LamX.CodeO at e; cases e), fun fs e => nomatch e⟩
theorem nt_dct (g : Gs) (a : Addr) (xs : List (NestedKey × Addr × V)) : Nt (dctO g a xs) := ⟨fun ps e => (by unfold dctO at e; cases e), fun c q => codeO_dct g a c xs q, fun fs e => by unfold dctO at e; cases e⟩
theorem Cont.nt {g : Gs} {w : Wd} : ∀ {d : D} {a : Addr} {o : HO}, Cont g w d a o → Nt o := by
  intro d a o h
  cases d <;> simp only [Cont] at h
  · obtain ⟨vs, rfl, _⟩ := h; exact nt_lst vs
  · obtain ⟨xs, rfl, _⟩ := h; exact nt_dct g a xs
  · obtain ⟨dx, vs, rfl, _⟩ := h; exact nt_ins _ _ _
/-- what is no table and no code object may change -/
theorem tabs_upd {T : List (Addr × Str)} {H : Hp} {a : Addr} {o : HO} (t : LamX.Tabs T H) (h : ∀ u, H a = some u → Nt u) : LamX.Tabs T (upd H a o) := fun p hp => by
  obtain ⟨ps, h1, h2, h3⟩ := t p hp
  have na : ∀ b u, H b = some u → ¬ Nt u → b ≠ a := fun b u e n z => n (h u (z ▸ e))
  refine ⟨ps, by rw [upd_ne (na _ _ h1 fun z => z.t ps rfl)]; exact h1, h2, fun pos cv hc => ?_⟩
  obtain ⟨c, e1, e2⟩ := h3 pos cv hc
  exact ⟨c, e1, by rw [upd_ne (na _ _ e2 fun z => z.c _ _ rfl)]; exact e2⟩
structure Le (w w' : Wd) : Prop where
  P : Same w.P w'.P
  io : ∀ n a, w.io n = some a → w'.io n = some a
theorem Le.refl (w : Wd) : Le w w := ⟨Same.refl _, fun _ _ h => h⟩
theorem Le.trans {a b c : Wd} (x : Le a b) (y : Le b c) : Le a c := ⟨x.P.trans y.P, fun n p h => y.io n p (x.io n p h)⟩

theorem sqT_mono {K : PySem.W.Frag} {H H' : Hp} {a : Addr} {vs : List V} (e : Same H H') (h : SqT K H a vs) : SqT K H' a vs := by
  rcases h with (h | ⟨o, h⟩) | h
  · exact .inl (.inl (e _ _ h))
  · exact .inl (.inr ⟨o, e _ _ h⟩)
  · exact .inr h

theorem sqN_mono {K : PySem.W.Frag} {H H' : Hp} {a : Addr} {vs : List V} (e : Same H H') (h : SqN K H a vs) : SqN K H' a vs := by
  rcases h with ⟨o, h, hd⟩ | h
  · exact .inl ⟨o, e _ _ h, hd⟩
  · exact .inr h
mutual
theorem Rep.mono {g : Gs} {w w' : Wd} (l : Le w w') : ∀ (d : D) (v : V), Rep g w d v → Rep g w' d v
  | .none, v, h => by simpa only [Rep] using h
  | .bool b, v, h => by simpa only [Rep] using h
  | .int b, v, h => by simpa only [Rep] using h
  | .str b, v, h => by simpa only [Rep] using h
  | .tup ds, v, h => by
    simp only [Rep] at h ⊢
    obtain ⟨a, vs, e, q, r⟩ := h
    exact ⟨a, vs, e, sqN_mono l.P q, Reps.mono l ds vs r⟩
  | .prs ds, v, h => by
    simp only [Rep] at h ⊢
    obtain ⟨a, vs, e, q, r⟩ := h
    exact ⟨a, vs, e, sqT_mono l.P q, Reps.mono l ds vs r⟩
  | .lst ds, v, h => by
    simp only [Rep] at h ⊢
    obtain ⟨a, vs, e, q, r⟩ := h
    exact ⟨a, vs, e, l.P _ _ q, Reps.mono l ds vs r⟩
  | .scr ds, v, h => by
    simp only [Rep] at h ⊢
    obtain ⟨a, vs, e, q, r⟩ := h
    exact ⟨a, vs, e, l.P.seq q, Reps.mono l ds vs r⟩
  | .dct ks ds, v, h => by
    simp only [Rep] at h ⊢
    obtain ⟨a, xs, e, q, q2, r1, r⟩ := h
    exact ⟨a, xs, e, l.P _ _ q, q2, Reps.mono l ks _ r1, Reps.mono l ds _ r⟩
  | .inst c ds, v, h => by
    simp only [Rep] at h ⊢
    obtain ⟨a, dx, vs, e, q, q1, q2, r⟩ := h
    exact ⟨a, dx, vs, e, l.P _ _ q, q1, q2, Reps.mono l ds vs r⟩
  | .box n, v, h => by
    simp only [Rep] at h ⊢
    obtain ⟨a, e, q⟩ := h
    exact ⟨a, e, l.io _ _ q⟩
  | .cls c, v, h => by simpa only [Rep] using h
  | .ptr c, v, h => by simpa only [Rep] using h
  | .kd k x, v, h => by
    simp only [Rep] at h ⊢
    obtain ⟨a, e, q⟩ := h
    exact ⟨a, e, l.P _ _ q⟩
  | .exn c ds, v, h => by
    simp only [Rep] at h ⊢
    obtain ⟨a, d, vs, e, q, r, z⟩ := h
    exact ⟨a, d, vs, e, l.P _ _ q, Reps.mono l ds vs r, z.imp id fun ⟨dd, y, e1, e2, e3⟩ => ⟨dd, y, e1, e2, l.P _ _ e3⟩⟩
  | .exo a dd f x, v, h => by
    simp only [Rep] at h ⊢
    obtain ⟨e, y, q, r⟩ := h
    exact ⟨e, y, l.P _ _ q, Rep.mono l x y r⟩
  | .fnT k, v, h => by
    simp only [Rep] at h ⊢
    rcases h with ⟨h1, h2, h3⟩ | ⟨a, c', pm, ct, e0, e, q, q2⟩
    · exact .inl ⟨h1, h2, l.P _ _ h3⟩
    · exact .inr ⟨a, c', pm, ct, e0, e, l.P _ _ q, l.P _ _ q2⟩
theorem Reps.mono {g : Gs} {w w' : Wd} (l : Le w w') : ∀ (ds : List D) (vs : List V), Reps g w ds vs → Reps g w' ds vs
  | [], vs, h => by simpa only [Reps] using h
  | d :: ds, vs, h => by
    simp only [Reps] at h ⊢
    obtain ⟨v, us, e, r, rs⟩ := h
    exact ⟨v, us, e, Rep.mono l d v r, Reps.mono l ds us rs⟩
end
theorem Cont.mono {g : Gs} {w w' : Wd} (l : Le w w') : ∀ {d : D} {a : Addr} {o : HO}, Cont g w d a o → Cont g w' d a o := by
  intro d a o h
  cases d <;> simp only [Cont] at h ⊢
  · obtain ⟨vs, e, r⟩ := h; exact ⟨vs, e, Reps.mono l _ _ r⟩
  · obtain ⟨xs, e, q2, r1, r⟩ := h; exact ⟨xs, e, q2, Reps.mono l _ _ r1, Reps.mono l _ _ r⟩
  · obtain ⟨dx, vs, e, q, q2, r⟩ := h; exact ⟨dx, vs, e, q, q2, Reps.mono l _ _ r⟩

structure RB (g : Gs) (w : Wd) (B : Bs) (H : Hp) : Prop where
  sub : Same w.P H
  get : ∀ n b, B[n]? = some b → ∃ a o, w.io n = some a ∧ H a = some o ∧ Cont g w b a o
  inj : ∀ n m a, w.io n = some a → w.io m = some a → n = m
  np : ∀ n a, w.io n = some a → w.P a = Option.none
  dom : ∀ n a, w.io n = some a → n < B.length
  tb : LamX.Tabs g.tabs H
  nt : ∀ b ps, w.P b ≠ some (.tbl ps)
structure Ext (w : Wd) (H : Hp) (w' : Wd) (H' : Hp) : Prop where
  le : Le w w'
  keep : ∀ b o, H b = some o → (∀ n, w.io n ≠ some b) → (∀ ps, o ≠ .tbl ps) → H' b = some o
  pf : ∀ b o, w'.P b = some o → w.P b = some o ∨ H b = Option.none ∨ PX b o
  iof : ∀ n a, w'.io n = some a → w.io n = some a ∨ H a = Option.none
  there : ∀ b, H b ≠ Option.none → H' b ≠ Option.none
  me : w'.me = w.me
theorem Ext.refl (w : Wd) (H : Hp) : Ext w H w H := ⟨Le.refl _, fun _ _ h _ _ => h, fun _ _ h => .inl h, fun _ _ h => .inl h, fun _ h => h, rfl⟩
theorem Ext.trans {a b c : Wd} {H H1 H2 : Hp} (x : Ext a H b H1) (y : Ext b H1 c H2) : Ext a H c H2 where
  le := x.le.trans y.le
  keep := fun p o h hn ht => y.keep p o (x.keep p o h hn ht) (fun n e => by
    rcases x.iof n p e with z | z
    · exact hn n z
    · rw [h] at z; cases z) ht
  pf := fun p o h => by
    rcases y.pf p o h with z | z | z
    · exact x.pf p o z
    · refine .inr (.inl (Classical.byContradiction fun q => x.there p q z))
    · exact .inr (.inr z)
  iof := fun n p h => by
    rcases y.iof n p h with z | z
    · exact x.iof n p z
    · refine .inr (Classical.byContradiction fun q => x.there p q z)
  there := fun p h => y.there p (x.there p h)
  me := y.me.trans x.me

structure S0 (g : Gs) (H0 : Hp) (w : Wd) (σI : Sl) (B : Bs) (σ : L2.St) (H : Hp) : Prop where
  rb : RB g w B H
  len : σI.length = σ.length
  sl : ∀ (i : Nat) (d : D), σI[i]? = some (some (false, d)) → ∃ v, σ[i]? = some (some v) ∧ Rep g w d v
  ow : ∀ (i : Nat) (d : D), σI[i]? = some (some (true, d)) → ∃ a o, σ[i]? = some (some (.ref a)) ∧ H a = some o ∧ Cont g w d a o ∧ w.P a = Option.none ∧ (∀ n, w.io n ≠ some a) ∧ H0 a = Option.none
  oi : ∀ (i j : Nat) (d e : D) (a : Addr), σI[i]? = some (some (true, d)) → σI[j]? = some (some (true, e)) → σ[i]? = some (some (.ref a)) → σ[j]? = some (some (.ref a)) → i = j
  me : ∀ (i c : Nat) (ds : List D) (a : Addr), σI[i]? = some (some (true, .inst c ds)) → σ[i]? = some (some (.ref a)) → w.me = some a
theorem S0.step {g : Gs} {H0 : Hp} {w w' : Wd} {σI : Sl} {B B' : Bs} {σ : L2.St} {H H' : Hp} (s : S0 g H0 w σI B σ H) (x : Ext w H w' H') (rb : RB g w' B' H') : S0 g H0 w' σI B' σ H' where
  rb := rb
  len := s.len
  sl := fun (i : Nat) d h => by
    obtain ⟨v, e, r⟩ := s.sl i d h
    exact ⟨v, e, Rep.mono x.le d v r⟩
  ow := fun (i : Nat) d h => by
    obtain ⟨a, o, e, ha, c, np, nb, n0⟩ := s.ow i d h
    have hk := x.keep a o ha nb c.nt.t
    refine ⟨a, o, e, hk, Cont.mono x.le c, ?_, fun n z => ?_, n0⟩
    · cases q : w'.P a with
      | none => rfl
      | some u =>
        rcases x.pf a u q with z | z | z
        · rw [np] at z; cases z
        · rw [ha] at z; cases z
        · have y := rb.sub a u q
          rw [hk] at y; cases y
          exact (c.nt.px z).elim
    · rcases x.iof n a z with z | z
      · exact nb n z
      · rw [ha] at z; cases z
  oi := s.oi
  me := fun i c ds a h1 h2 => x.me.trans (s.me i c ds a h1 h2)

def RepO (g : Gs) (w : Wd) (σI : Sl) (σ : L2.St) (d : D) (v : V) : Prop := Rep g w d v ∨ ∃ i : Nat, σI[i]? = some (some (true, d)) ∧ σ[i]? = some (some v)
theorem RepO.mono {g : Gs} {w w' : Wd} {σI : Sl} {σ : L2.St} {d : D} {v : V} (l : Le w w') (h : RepO g w σI σ d v) : RepO g w' σI σ d v := by
  rcases h with h | h
  · exact .inl (Rep.mono l d v h)
  · exact .inr h

def ExcR (g : Gs) (w : Wd) (c : Nat) (x : Option D) (cls : Value) (dd : Option Addr) (H : Hp) : Prop :=
  cls = .ref (g.cl c) ∧ match x with
    | Option.none => dd = Option.none
    | some d => ∃ a v, dd = some a ∧ H a = some (.xd [(excF c, v)]) ∧ Rep g w d v

/-- a value; bo: or a name's own container, to be read at once -/
def RepB (g : Gs) (w : Wd) (σI : Sl) (σ : L2.St) : Bool → D → V → Prop
  | false, d, v => Rep g w d v
  | true, d, v => RepO g w σI σ d v
theorem RepB.up {g : Gs} {w : Wd} {σI : Sl} {σ : L2.St} {d : D} {v : V} : ∀ {bo : Bool}, RepB g w σI σ bo d v → RepO g w σI σ d v
  | false, h => .inl h
  | true, h => h
/-- what is wanted of an expression's end -/
def PostE (g : Gs) (E : XK) (w : Wd) (H : Hp) (σI : Sl) (σ : L2.St) (bo : Bool) (Q : VK) : Rs D → Prop
  | .ok d B' => ∀ w' v H', Ext w H w' H' → RB g w' B' H' → RepB g w' σI σ bo d v → Q v H'
  | .exc c x B' => ∀ w' cls dd H', Ext w H w' H' → RB g w' B' H' → ExcR g w' c x cls dd H' → E cls dd H'
  | .bad => False
/-- the same of several values -/
def PostEs (g : Gs) (E : XK) (w : Wd) (H : Hp) (Q : List V → Hp → Prop) : Rs (List D) → Prop
  | .ok ds B' => ∀ w' vs H', Ext w H w' H' → RB g w' B' H' → Reps g w' ds vs → Q vs H'
  | .exc c x B' => ∀ w' cls dd H', Ext w H w' H' → RB g w' B' H' → ExcR g w' c x cls dd H' → E cls dd H'
  | .bad => False
/-- of a test -/
def PostT (g : Gs) (E : XK) (w : Wd) (H : Hp) (Q : Bool → Hp → Prop) : Rs Bool → Prop
  | .ok b B' => ∀ w' H', Ext w H w' H' → RB g w' B' H' → Q b H'
  | .exc c x B' => ∀ w' cls dd H', Ext w H w' H' → RB g w' B' H' → ExcR g w' c x cls dd H' → E cls dd H'
  | .bad => False
abbrev Et := Sl → Bs → Rs Bool
def tI (g : Gs) (E : XK) (H0 : Hp) (bo : Bool) (m : Ev) : TE := fun σ H Q => ∃ w σI B, S0 g H0 w σI B σ H ∧ PostE g E w H σI σ bo Q (m σI B)
def tIs (g : Gs) (E : XK) (H0 : Hp) (m : Evs) : TA := fun σ H Q => ∃ w σI B, S0 g H0 w σI B σ H ∧ PostEs g E w H Q (m σI B)
def tIt (g : Gs) (E : XK) (H0 : Hp) (m : Et) : TT := fun σ H Q => ∃ w σI B, S0 g H0 w σI B σ H ∧ PostT g E w H Q (m σI B)
/-- the expression's meaning is m -/
abbrev Snd (g : Gs) (E : XK) (H0 : Hp) (X : Cx) (bo : Bool) (e : Expr) (m : Ev) : Prop := PE X e (tI g E H0 bo m)
abbrev Snds (g : Gs) (E : XK) (H0 : Hp) (X : Cx) (es : List Expr) (m : Evs) : Prop := PA X es (tIs g E H0 m)
abbrev SndT (g : Gs) (E : XK) (H0 : Hp) (X : Cx) (e : Expr) (m : Et) : Prop := PT X e (tIt g E H0 m)
abbrev SndW (g : Gs) (E : XK) (H0 : Hp) (X : Cx) (e : Expr) (m : Et) : Prop := PW X e (tIt g E H0 m)

theorem weak {X : Cx} {e : Expr} {t t' : TE} (h : PE X e t) (k : ∀ σ H Q, t' σ H Q → t σ H Q) : PE X e t' := ⟨fun pins s σ H Q I q => h.run pins s σ H Q I (k σ H Q q)⟩
theorem weakA {X : Cx} {es : List Expr} {t t' : TA} (h : PA X es t) (k : ∀ σ H Q, t' σ H Q → t σ H Q) : PA X es t' := ⟨fun pos pins s σ H Q I q => h.run pos pins s σ H Q I (k σ H Q q)⟩
theorem weakT {X : Cx} {e : Expr} {t t' : TT} (h : PT X e t) (k : ∀ σ H Q, t' σ H Q → t σ H Q) : PT X e t' := ⟨fun pins s σ H Q I q => h.run pins s σ H Q I (k σ H Q q)⟩
theorem weakW {X : Cx} {e : Expr} {t t' : TT} (h : PW X e t) (k : ∀ σ H Q, t' σ H Q → t σ H Q) : PW X e t' := ⟨fun wh pins s σ H Q I q => h.run wh pins s σ H Q I (k σ H Q q)⟩

section
variable {g : Gs} {E : XK} {H0 : Hp} {w w1 : Wd} {H H1 : Hp} {σI : Sl} {σ : L2.St} {bo bo1 : Bool} {Q : VK}
/-- an end is wanted of a later state -/
theorem PostE.ext (x : Ext w H w1 H1) : ∀ {m : Rs D}, PostE g E w H σI σ bo Q m → PostE g E w1 H1 σI σ bo Q m
  | .ok _ _, h => fun w2 v2 H2 x2 rb2 r2 => h w2 v2 H2 (x.trans x2) rb2 r2
  | .exc _ _ _, h => fun w2 cls dd H2 x2 rb2 r2 => h w2 cls dd H2 (x.trans x2) rb2 r2
  | .bad, h => h
theorem PostEs.ext {Q : List V → Hp → Prop} (x : Ext w H w1 H1) : ∀ {m : Rs (List D)}, PostEs g E w H Q m → PostEs g E w1 H1 Q m
  | .ok _ _, h => fun w2 v2 H2 x2 rb2 r2 => h w2 v2 H2 (x.trans x2) rb2 r2
  | .exc _ _ _, h => fun w2 cls dd H2 x2 rb2 r2 => h w2 cls dd H2 (x.trans x2) rb2 r2
  | .bad, h => h
theorem PostT.ext {Q : Bool → Hp → Prop} (x : Ext w H w1 H1) : ∀ {m : Rs Bool}, PostT g E w H Q m → PostT g E w1 H1 Q m
  | .ok _ _, h => fun w2 H2 x2 rb2 => h w2 H2 (x.trans x2) rb2
  | .exc _ _ _, h => fun w2 cls dd H2 x2 rb2 r2 => h w2 cls dd H2 (x.trans x2) rb2 r2
  | .bad, h => h

/-- THE STEP: a part's reading from what is wanted of the whole -/
theorem tI_go {m : Ev} {B : Bs} {Q1 : VK} (s : S0 g H0 w σI B σ H) (he : ∀ c x B1, m σI B = .exc c x B1 → ∀ w' cls dd H', Ext w H w' H' → RB g w' B1 H' → ExcR g w' c x cls dd H' → E cls dd H') (hb : m σI B ≠ .bad)
    (ho : ∀ d B1, m σI B = .ok d B1 → ∀ w1 v H1, Ext w H w1 H1 → S0 g H0 w1 σI B1 σ H1 → RepB g w1 σI σ bo d v → Q1 v H1) : tI g E H0 bo m σ H Q1 := by
  refine ⟨w, σI, B, s, ?_⟩
  cases q : m σI B with
  | ok d B1 => exact fun w1 v H1 x rb r => ho d B1 q w1 v H1 x (s.step x rb) r
  | exc c x B1 => exact he c x B1 q
  | bad => exact hb q
theorem tI_bind {m : Ev} {f : D → Bs → Rs D} {B : Bs} {Q1 : VK} (s : S0 g H0 w σI B σ H) (p : PostE g E w H σI σ bo1 Q ((m σI B).bind f))
    (ho : ∀ d B1 w1 v H1, Ext w H w1 H1 → S0 g H0 w1 σI B1 σ H1 → RepB g w1 σI σ bo d v → PostE g E w1 H1 σI σ bo1 Q (f d B1) → Q1 v H1) : tI g E H0 bo m σ H Q1 := by
  refine tI_go s (fun c x B1 q => ?_) (fun q => ?_) fun d B1 q w1 v H1 x s1 r => ?_
  · rw [q] at p; exact p
  · rw [q] at p; exact p
  · rw [q] at p; exact ho d B1 w1 v H1 x s1 r (PostE.ext x p)
theorem tI_bindA {m : Ev} {f : D → Bs → Rs (List D)} {B : Bs} {Q1 : VK} {Q : List V → Hp → Prop} (s : S0 g H0 w σI B σ H) (p : PostEs g E w H Q ((m σI B).bind f))
    (ho : ∀ d B1 w1 v H1, Ext w H w1 H1 → S0 g H0 w1 σI B1 σ H1 → RepB g w1 σI σ bo d v → PostEs g E w1 H1 Q (f d B1) → Q1 v H1) : tI g E H0 bo m σ H Q1 := by
  refine tI_go s (fun c x B1 q => ?_) (fun q => ?_) fun d B1 q w1 v H1 x s1 r => ?_
  · rw [q] at p; exact p
  · rw [q] at p; exact p
  · rw [q] at p; exact ho d B1 w1 v H1 x s1 r (PostEs.ext x p)
theorem tI_bindT {m : Ev} {f : D → Bs → Rs Bool} {B : Bs} {Q1 : VK} {Q : Bool → Hp → Prop} (s : S0 g H0 w σI B σ H) (p : PostT g E w H Q ((m σI B).bind f))
    (ho : ∀ d B1 w1 v H1, Ext w H w1 H1 → S0 g H0 w1 σI B1 σ H1 → RepB g w1 σI σ bo d v → PostT g E w1 H1 Q (f d B1) → Q1 v H1) : tI g E H0 bo m σ H Q1 := by
  refine tI_go s (fun c x B1 q => ?_) (fun q => ?_) fun d B1 q w1 v H1 x s1 r => ?_
  · rw [q] at p; exact p
  · rw [q] at p; exact p
  · rw [q] at p; exact ho d B1 w1 v H1 x s1 r (PostT.ext x p)
/-- the same for an argument list -/
theorem tIs_go {m : Evs} {B : Bs} {Q1 : List V → Hp → Prop} (s : S0 g H0 w σI B σ H) (he : ∀ c x B1, m σI B = .exc c x B1 → ∀ w' cls dd H', Ext w H w' H' → RB g w' B1 H' → ExcR g w' c x cls dd H' → E cls dd H') (hb : m σI B ≠ .bad)
    (ho : ∀ d B1, m σI B = .ok d B1 → ∀ w1 v H1, Ext w H w1 H1 → S0 g H0 w1 σI B1 σ H1 → Reps g w1 d v → Q1 v H1) : tIs g E H0 m σ H Q1 := by
  refine ⟨w, σI, B, s, ?_⟩
  cases q : m σI B with
  | ok d B1 => exact fun w1 v H1 x rb r => ho d B1 q w1 v H1 x (s.step x rb) r
  | exc c x B1 => exact he c x B1 q
  | bad => exact hb q
theorem tIs_bind {m : Evs} {f : List D → Bs → Rs D} {B : Bs} {Q1 : List V → Hp → Prop} (s : S0 g H0 w σI B σ H) (p : PostE g E w H σI σ bo1 Q ((m σI B).bind f))
    (ho : ∀ d B1 w1 v H1, Ext w H w1 H1 → S0 g H0 w1 σI B1 σ H1 → Reps g w1 d v → PostE g E w1 H1 σI σ bo1 Q (f d B1) → Q1 v H1) : tIs g E H0 m σ H Q1 := by
  refine tIs_go s (fun c x B1 q => ?_) (fun q => ?_) fun d B1 q w1 v H1 x s1 r => ?_
  · rw [q] at p; exact p
  · rw [q] at p; exact p
  · rw [q] at p; exact ho d B1 w1 v H1 x s1 r (PostE.ext x p)
theorem tIs_bindA {m : Evs} {f : List D → Bs → Rs (List D)} {B : Bs} {Q1 Q : List V → Hp → Prop} (s : S0 g H0 w σI B σ H) (p : PostEs g E w H Q ((m σI B).bind f))
    (ho : ∀ d B1 w1 v H1, Ext w H w1 H1 → S0 g H0 w1 σI B1 σ H1 → Reps g w1 d v → PostEs g E w1 H1 Q (f d B1) → Q1 v H1) : tIs g E H0 m σ H Q1 := by
  refine tIs_go s (fun c x B1 q => ?_) (fun q => ?_) fun d B1 q w1 v H1 x s1 r => ?_
  · rw [q] at p; exact p
  · rw [q] at p; exact p
  · rw [q] at p; exact ho d B1 w1 v H1 x s1 r (PostEs.ext x p)
/-- for a test -/
theorem tIt_go {m : Et} {B : Bs} {Q1 : Bool → Hp → Prop} (s : S0 g H0 w σI B σ H) (he : ∀ c x B1, m σI B = .exc c x B1 → ∀ w' cls dd H', Ext w H w' H' → RB g w' B1 H' → ExcR g w' c x cls dd H' → E cls dd H') (hb : m σI B ≠ .bad)
    (ho : ∀ d B1, m σI B = .ok d B1 → ∀ w1 H1, Ext w H w1 H1 → S0 g H0 w1 σI B1 σ H1 → Q1 d H1) : tIt g E H0 m σ H Q1 := by
  refine ⟨w, σI, B, s, ?_⟩
  cases q : m σI B with
  | ok d B1 => exact fun w1 H1 x rb => ho d B1 q w1 H1 x (s.step x rb)
  | exc c x B1 => exact he c x B1 q
  | bad => exact hb q
theorem tIt_bind {m : Et} {f : Bool → Bs → Rs D} {B : Bs} {Q1 : Bool → Hp → Prop} (s : S0 g H0 w σI B σ H) (p : PostE g E w H σI σ bo1 Q ((m σI B).bind f))
    (ho : ∀ d B1 w1 H1, Ext w H w1 H1 → S0 g H0 w1 σI B1 σ H1 → PostE g E w1 H1 σI σ bo1 Q (f d B1) → Q1 d H1) : tIt g E H0 m σ H Q1 := by
  refine tIt_go s (fun c x B1 q => ?_) (fun q => ?_) fun d B1 q w1 H1 x s1 => ?_
  · rw [q] at p; exact p
  · rw [q] at p; exact p
  · rw [q] at p; exact ho d B1 w1 H1 x s1 (PostE.ext x p)
theorem tIt_bindT {m : Et} {f : Bool → Bs → Rs Bool} {B : Bs} {Q1 Q : Bool → Hp → Prop} (s : S0 g H0 w σI B σ H) (p : PostT g E w H Q ((m σI B).bind f))
    (ho : ∀ d B1 w1 H1, Ext w H w1 H1 → S0 g H0 w1 σI B1 σ H1 → PostT g E w1 H1 Q (f d B1) → Q1 d H1) : tIt g E H0 m σ H Q1 := by
  refine tIt_go s (fun c x B1 q => ?_) (fun q => ?_) fun d B1 q w1 H1 x s1 => ?_
  · rw [q] at p; exact p
  · rw [q] at p; exact p
  · rw [q] at p; exact ho d B1 w1 H1 x s1 (PostT.ext x p)
end

def mBin (f : D → D → Bs → Rs D) (a b : Ev) : Ev := fun σI B => (a σI B).bind fun x B1 => (b σI B1).bind fun y B2 => f x y B2
def OpSem (g : Gs) (E : XK) (H0 : Hp) (r : R2) (f : D → D → Bs → Rs D) : Prop := ∀ (w : Wd) (σI : Sl) (B : Bs) (σ : L2.St) (H : Hp) (Q : VK) (x y : V) (dx dy : D),
  S0 g H0 w σI B σ H → RepO g w σI σ dx x → RepO g w σI σ dy y → PostE g E w H σI σ false Q (f dx dy B) → r x y H Q
section
variable {g : Gs} {E : XK} {H0 : Hp} {X : Cx} {a b : Expr} {ma mb : Ev} {pos : Pos} {b1 b2 : Bool}
theorem tOp_of {r : R2} {f : D → D → Bs → Rs D} (h : OpSem g E H0 r f) : ∀ σ H Q, tI g E H0 false (mBin f ma mb) σ H Q → tOp r (tI g E H0 b1 ma) (tI g E H0 b2 mb) σ H Q := by
  rintro σ H Q ⟨w, σI, B, s, p⟩
  refine tI_bind s p fun d B1 w1 v H1 x1 s1 r1 p1 => ?_
  refine tI_bind s1 p1 fun d2 B2 w2 v2 H2 x2 s2 r2 p2 => ?_
  exact h w2 σI B2 σ H2 Q v v2 d d2 s2 (r1.up.mono x2.le) r2.up p2
theorem s_bin {op : Operator} {r : R2} {f : D → D → Bs → Rs D} (ho : OpR X (binaryOp op) r) (h : OpSem g E H0 r f) (ha : Snd g E H0 X b1 a ma) (hb : Snd g E H0 X b2 b mb) : Snd g E H0 X false (.BinOp a op b pos) (mBin f ma mb) :=
  weak (pe_op ho ha hb) (tOp_of h)

def mVar (i : Nat) : Ev := fun σI B => match σI[i]? with
  | some (some (false, d)) => .ok d B
  | _ => .bad
def mBor (i : Nat) : Ev := fun σI B => match σI[i]? with
  | some (some (_, d)) => .ok d B
  | _ => .bad
def mC (d : D) : Ev := fun _ B => .ok d B
theorem s_var {i : Nat} {x : Str} (hN : X.N[i]? = some x := by rfl) (hv : Vis X.env.scope x := by first | exact Or.inl rfl | exact Or.inr (Or.inl rfl) | exact Or.inr (Or.inr rfl)) (hd : (x == ("__debug__" : Str)) = false := by decide)
    (hcd : (x == ("__classdict__" : Str)) = false := by decide) : Snd g E H0 X false (.Name x pos) (mVar i) := weak (pe_var hN hv hd hcd) fun σ H Q ⟨w, σI, B, s, p⟩ => by
  unfold mVar at p
  split at p
  · rename_i d e
    obtain ⟨v, h1, h2⟩ := s.sl i d e
    exact ⟨v, h1, p w v H (Ext.refl _ _) s.rb h2⟩
  · exact p.elim
theorem s_bor {i : Nat} {x : Str} (hN : X.N[i]? = some x := by rfl) (hv : Vis X.env.scope x := by first | exact Or.inl rfl | exact Or.inr (Or.inl rfl) | exact Or.inr (Or.inr rfl)) (hd : (x == ("__debug__" : Str)) = false := by decide)
    (hcd : (x == ("__classdict__" : Str)) = false := by decide) : Snd g E H0 X true (.Name x pos) (mBor i) := weak (pe_var hN hv hd hcd) fun σ H Q ⟨w, σI, B, s, p⟩ => by
  unfold mBor at p
  split at p
  · rename_i k d e
    cases k with
    | false =>
      obtain ⟨v, h1, h2⟩ := s.sl i d e
      exact ⟨v, h1, p w v H (Ext.refl _ _) s.rb (.inl h2)⟩
    | true =>
      obtain ⟨a, o, h1, h2, _⟩ := s.ow i d e
      exact ⟨_, h1, p w _ H (Ext.refl _ _) s.rb (.inr ⟨i, e, h1⟩)⟩
  · exact p.elim
theorem s_const {e : Expr} {v : V} {d : D} (h : PE X e (tC v)) (r : ∀ w, Rep g w d v) : Snd g E H0 X false e (mC d) := weak h fun σ H Q ⟨w, σI, B, s, p⟩ => p w v H (Ext.refl _ _) s.rb (r w)
theorem s_int {i : Int} {j : Nat} : Snd g E H0 X false (.Constant (.int i) j pos) (mC (.int i)) := s_const pe_int fun w => by simp only [Rep]
theorem s_str {x : Str} {j : Nat} : Snd g E H0 X false (.Constant (.str x) j pos) (mC (.str x)) := s_const pe_str fun w => by simp only [Rep]
theorem s_bool {x : Bool} {j : Nat} : Snd g E H0 X false (.Constant (.bool x) j pos) (mC (.bool x)) := s_const pe_bl fun w => by simp only [Rep]
end
/-! ### exceptions whose context is None -/
open PySem.Spec PyProof.Rows
theorem passN {X : Cx} : Passes (L2N.CX X.prog X.w) X E0 := fun _ _ _ _ _ _ _ h => by
  obtain ⟨_, _, _, _, _, _, _, _, _, _, _, _, z⟩ := h
  exact z.elim
theorem _root_.L2.Fun.okN {P : Program} {w : World} {K : PySem.W.Frag} {mg : Str → Option Value} {base : Heap} {x qual : Str} {st : Stmt} {f : Addr} {fd : FuncData} {N ps : List Str} {k : Nat} {sp : Sp} (F : L2.Fun K x qual st f fd) (S : FnScope N ps (defScope st)) (len : ∀ vs H Q E, sp vs H Q E → vs.length = ps.length)
    (hbody : ∀ (cdv : Value) (A : Around) (outer : List Env) (s : Shared) (H : Hp) (vs : List V) (Q : VK) (E : XK), Room k (A.deeper (envOfC qual (defScope st) s.heap.objs.size f cdv)) → sp vs H Q E →
      ∃ t, PSs (cxOf (L2N.CX P w) P w K mg base N qual (defScope st) f cdv A outer s H E) (defBody st) t ∧ t { nx := fun _ H' => Q .non H', rt := Q } (L2.start N vs) H) : FnOk P w K mg base (L2N.CX P w) (k + 1) f fd ps sp := by
  obtain ⟨oc, od, kV, doc, pm, an, cdv, ct, osl, rfl, lk, hcd⟩ := F.ex
  exact fn_of lk hcd S len fun A outer s H vs Q E hr hsp => hbody cdv A outer s H vs Q E hr hsp
theorem cxUpN {P : Program} {w : World} : StX.CXUp (L2N.CX P w) := by
  rintro outer s H s2 H2 E e s' un kp ho ⟨a, B, H', cls, d, ea, fl, hok, ub, na, os, ag, he⟩
  refine ⟨a, B, H', cls, d, ea, fl, hok, ⟨fun b o q n hb => ub.keep b o (kp b o q) (un.free b o q n (by simp)) hb, fun b o q hb => ub.slot b o (kp b o q) hb, fun b o q n => ub.free b o (kp b o q) (un.free b o q n (by simp)),
    fun b o q hb => ub.there b o (kp b o q) hb, fun b xs q => ub.tups b xs (un.tups b xs q), fun b o xs q => ub.frzs b o xs (un.frzs b o xs q), fun b ps q => ?_⟩, na, os.trans ho, ag, he⟩
  obtain ⟨m1, e1⟩ := un.tbls b ps q
  obtain ⟨m2, e2⟩ := ub.tbls b _ e1
  exact ⟨m1 ++ m2, by rw [e2, Array.append_assoc]⟩
end Hf

set_option Elab.async false
set_option linter.all false
set_option maxRecDepth 100000
set_option maxHeartbeats 4000000
namespace Hf
open PySem L2

/-! ### what stands behind data -/
section
variable {g : Gs} {w : Wd} {H H0 : Hp} {σI : Sl} {σ : L2.St} {B : Bs} {x : V}
theorem Reps.len : ∀ {ds : List D} {vs : List V}, Reps g w ds vs → vs.length = ds.length
  | [], vs, h => by simp only [Reps] at h; subst h; rfl
  | d :: ds, vs, h => by
    simp only [Reps] at h
    obtain ⟨v, us, rfl, _, r⟩ := h
    simp [Reps.len r]
theorem Reps.app : ∀ {ds es : List D} {vs us : List V}, Reps g w ds vs → Reps g w es us → Reps g w (ds ++ es) (vs ++ us)
  | [], es, vs, us, h, k => by simp only [Reps] at h; subst h; exact k
  | d :: ds, es, vs, us, h, k => by
    simp only [Reps] at h
    obtain ⟨v, us', rfl, r, rs⟩ := h
    simp only [List.cons_append, Reps]
    exact ⟨v, _, rfl, r, Reps.app rs k⟩
theorem Reps.get : ∀ {ds : List D} {vs : List V} {i : Nat} {d : D}, Reps g w ds vs → ds[i]? = some d → ∃ v, vs[i]? = some v ∧ Rep g w d v
  | [], _, _, _, _, e => by simp at e
  | d :: ds, vs, i, d', h, e => by
    simp only [Reps] at h
    obtain ⟨v, us, rfl, r, rs⟩ := h
    cases i with
    | zero => simp at e; subst e; exact ⟨v, by simp, r⟩
    | succ i =>
      obtain ⟨u, h1, h2⟩ := Reps.get (i := i) rs (by simpa using e)
      exact ⟨u, by simpa using h1, h2⟩
theorem Reps.drop : ∀ {ds : List D} {vs : List V} (n : Nat), Reps g w ds vs → Reps g w (ds.drop n) (vs.drop n)
  | ds, vs, 0, h => by simpa using h
  | [], vs, n + 1, h => by simp only [Reps] at h; subst h; simp [Reps]
  | d :: ds, vs, n + 1, h => by
    simp only [Reps] at h
    obtain ⟨v, us, rfl, r, rs⟩ := h
    simpa using Reps.drop n rs
theorem Reps.take : ∀ {ds : List D} {vs : List V} (n : Nat), Reps g w ds vs → Reps g w (ds.take n) (vs.take n)
  | ds, vs, 0, h => by simp [Reps]
  | [], vs, n + 1, h => by simp only [Reps] at h; subst h; simp [Reps]
  | d :: ds, vs, n + 1, h => by
    simp only [Reps] at h
    obtain ⟨v, us, rfl, r, rs⟩ := h
    simp only [List.take_succ_cons, Reps]
    exact ⟨v, _, rfl, r, Reps.take n rs⟩
theorem Reps.set : ∀ {ds : List D} {vs : List V} (n : Nat) {d : D} {v : V}, Reps g w ds vs → Rep g w d v → Reps g w (ds.set n d) (vs.set n v)
  | [], vs, n, d, v, h, k => by simp only [Reps] at h; subst h; simp [Reps]
  | e :: ds, vs, 0, d, v, h, k => by
    simp only [Reps] at h
    obtain ⟨u, us, rfl, r, rs⟩ := h
    simp only [List.set_cons_zero, Reps]
    exact ⟨v, _, rfl, k, rs⟩
  | e :: ds, vs, n + 1, d, v, h, k => by
    simp only [Reps] at h
    obtain ⟨u, us, rfl, r, rs⟩ := h
    simp only [List.set_cons_succ, Reps]
    exact ⟨u, _, rfl, r, Reps.set n rs k⟩
theorem Reps.one {d : D} {v : V} (h : Rep g w d v) : Reps g w [d] [v] := by simp only [Reps]; exact ⟨v, [], rfl, h, rfl⟩
theorem Reps.rep {ds : List D} {vs : List V} (h : Reps g w ds vs) : ∀ k : Nat, Reps g w (List.replicate k ds).flatten (List.replicate k vs).flatten
  | 0 => by simp [Reps]
  | k + 1 => by
    simp only [List.replicate_succ, List.flatten_cons]
    exact Reps.app h (Reps.rep h k)

theorem RepO.lst {ds : List D} (s : S0 g H0 w σI B σ H) (h : RepO g w σI σ (.lst ds) x) : ∃ a vs, x = .ref a ∧ H a = some (.lst vs) ∧ Reps g w ds vs := by
  rcases h with h | ⟨i, h1, h2⟩
  · simp only [Rep] at h
    obtain ⟨a, vs, rfl, p, r⟩ := h
    exact ⟨a, vs, rfl, s.rb.sub _ _ p, r⟩
  · obtain ⟨a, o, e, ha, c, _⟩ := s.ow i _ h1
    rw [h2] at e
    cases e
    simp only [Cont] at c
    obtain ⟨vs, rfl, r⟩ := c
    exact ⟨a, vs, rfl, ha, r⟩
theorem RepO.of {d : D} (s : S0 g H0 w σI B σ H) (h : RepO g w σI σ d x) (hd : ∀ ds, d ≠ .lst ds) (hd2 : ∀ ks ds, d ≠ .dct ks ds) (hd3 : ∀ c ds, d ≠ .inst c ds) : Rep g w d x := by
  rcases h with h | ⟨i, h1, h2⟩
  · exact h
  · obtain ⟨a, o, e, ha, c, _⟩ := s.ow i _ h1
    cases d <;> simp [Cont] at c <;> first | exact (hd _ rfl).elim | exact (hd2 _ _ rfl).elim | exact (hd3 _ _ rfl).elim
theorem RepO.int {i : Int} (s : S0 g H0 w σI B σ H) (h : RepO g w σI σ (.int i) x) : x = .int i := by
  have := h.of s (by simp) (by simp) (by simp); simpa only [Rep] using this
theorem RepO.bool {i : Bool} (s : S0 g H0 w σI B σ H) (h : RepO g w σI σ (.bool i) x) : x = .bl i := by
  have := h.of s (by simp) (by simp) (by simp); simpa only [Rep] using this
theorem RepO.str {i : Str} (s : S0 g H0 w σI B σ H) (h : RepO g w σI σ (.str i) x) : x = .str i := by
  have := h.of s (by simp) (by simp) (by simp); simpa only [Rep] using this
theorem RepO.none (s : S0 g H0 w σI B σ H) (h : RepO g w σI σ .none x) : x = .non := by
  have := h.of s (by simp) (by simp) (by simp); simpa only [Rep] using this
theorem RepO.tup {ds : List D} (s : S0 g H0 w σI B σ H) (h : RepO g w σI σ (.tup ds) x) : ∃ a vs, x = .ref a ∧ SqT g.K H a vs ∧ Reps g w ds vs := by
  have := h.of s (by simp) (by simp) (by simp)
  simp only [Rep] at this
  obtain ⟨a, vs, rfl, p, r⟩ := this
  exact ⟨a, vs, rfl, sqT_mono s.rb.sub p.T, r⟩
theorem RepO.prs {ds : List D} (s : S0 g H0 w σI B σ H) (h : RepO g w σI σ (.prs ds) x) : ∃ a vs, x = .ref a ∧ SqT g.K H a vs ∧ Reps g w ds vs := by
  have := h.of s (by simp) (by simp) (by simp)
  simp only [Rep] at this
  obtain ⟨a, vs, rfl, p, r⟩ := this
  exact ⟨a, vs, rfl, sqT_mono s.rb.sub p, r⟩
theorem RepO.scr {ds : List D} (s : S0 g H0 w σI B σ H) (h : RepO g w σI σ (.scr ds) x) : ∃ a vs, x = .ref a ∧ SqL g.K H a vs ∧ Reps g w ds vs := by
  have := h.of s (by simp) (by simp) (by simp)
  simp only [Rep] at this
  obtain ⟨a, vs, rfl, p, r⟩ := this
  exact ⟨a, vs, rfl, s.rb.sub.seq p, r⟩
theorem RepO.box {n : Nat} (s : S0 g H0 w σI B σ H) (h : RepO g w σI σ (.box n) x) : ∃ a, x = .ref a ∧ w.io n = some a := by
  have := h.of s (by simp) (by simp) (by simp)
  simpa only [Rep] using this
theorem RepO.dct {ks ds : List D} (s : S0 g H0 w σI B σ H) (h : RepO g w σI σ (.dct ks ds) x) : ∃ a xs, x = .ref a ∧ H a = some (dctO g a xs) ∧ ks.map nkD = xs.map (fun p => some p.1) ∧ Reps g w ks (xs.map fun p => V.ref p.2.1) ∧ Reps g w ds (xs.map fun p => p.2.2) := by
  rcases h with h | ⟨i, h1, h2⟩
  · simp only [Rep] at h
    obtain ⟨a, xs, rfl, p, q⟩ := h
    exact ⟨a, xs, rfl, s.rb.sub _ _ p, q⟩
  · obtain ⟨a, o, e, ha, c, _⟩ := s.ow i _ h1
    rw [h2] at e
    cases e
    simp only [Cont] at c
    obtain ⟨xs, rfl, q⟩ := c
    exact ⟨a, xs, rfl, ha, q⟩

/-- a new thing is laid and from then on persistent -/
def regW (w : Wd) (p : Addr) (o : HO) : Wd := { w with P := upd w.P p o }
theorem RB.fresh_io (rb : RB g w B H) {p : Addr} (hp : H p = Option.none) : ∀ n, w.io n ≠ some p := fun n e => by
  by_cases hn : n < B.length
  · obtain ⟨a, o, h1, h2, _⟩ := rb.get n B[n] (List.getElem?_eq_getElem hn)
    rw [e] at h1; cases h1; rw [hp] at h2; cases h2
  · exact hn (rb.dom n p e)
theorem RB.fresh_P (rb : RB g w B H) {p : Addr} (hp : H p = Option.none) : w.P p = Option.none := by
  cases q : w.P p with
  | none => rfl
  | some o => rw [rb.sub _ _ q] at hp; cases hp
theorem same_upd2 {P H : Hp} {p : Addr} {o : HO} (h : Same P H) : Same (upd P p o) (upd H p o) := fun b u e => by
  by_cases hb : b = p
  · subst hb; rw [upd_same] at e ⊢; exact e
  · rw [upd_ne hb] at e ⊢; exact h b u e
theorem same_upd {H : Hp} {p : Addr} {o : HO} (hp : H p = Option.none) : Same H (upd H p o) := fun b u e => by
  rw [upd_ne (ne_of_none e hp)]; exact e
theorem regLe (w : Wd) {p : Addr} {o : HO} (hp : w.P p = Option.none) : Le w (regW w p o) := ⟨same_upd hp, fun _ _ h => h⟩
/-- boxes over a heap that is kept -/
theorem nt_reg {p : Addr} {o : HO} (h : ∀ b ps, w.P b ≠ some (.tbl ps)) (ho : ∀ ps, o ≠ .tbl ps) : ∀ b ps, (regW w p o).P b ≠ some (.tbl ps) := fun b ps e => by
  have e : upd w.P p o b = some (.tbl ps) := e
  by_cases z : b = p
  · subst z; rw [upd_same] at e; exact ho ps (Option.some.inj e)
  · rw [upd_ne z] at e; exact h b ps e
theorem RB.keep {H' : Hp} {w' : Wd} (rb : RB g w B H) (l : Le w w') (hio : w'.io = w.io) (hs : Same w'.P H') (hk : Same H H') (hp : ∀ n a, w.io n = some a → w'.P a = Option.none) (hn : ∀ b ps, w'.P b ≠ some (.tbl ps)) : RB g w' B H' where
  tb := rb.tb.ext hk
  nt := hn
  sub := hs
  get := fun n b e => by
    obtain ⟨a, o, h1, h2, c⟩ := rb.get n b e
    exact ⟨a, o, by rw [hio]; exact h1, hk _ _ h2, c.mono l⟩
  inj := by rw [hio]; exact rb.inj
  np := by rw [hio]; exact hp
  dom := by rw [hio]; exact rb.dom
theorem RB.reg {p : Addr} {o : HO} (rb : RB g w B H) (hp : H p = Option.none) (ho : ∀ ps, o ≠ .tbl ps := by first | (intro ps e; cases e) | (intro ps e; unfold dctO at e; cases e)) : RB g (regW w p o) B (upd H p o) :=
  rb.keep (regLe w (rb.fresh_P hp)) rfl (same_upd2 rb.sub) (same_upd hp) (fun n a e => by
    show upd w.P p o a = Option.none
    rw [upd_ne (fun z => rb.fresh_io hp n (by rw [← z]; exact e))]
    exact rb.np n a e) (nt_reg rb.nt ho)
theorem Ext.reg {p : Addr} {o : HO} (rb : RB g w B H) (hp : H p = Option.none) : Ext w H (regW w p o) (upd H p o) where
  le := regLe w (rb.fresh_P hp)
  keep := fun b u h _ _ => same_upd hp b u h
  pf := fun b u h => by
    by_cases hb : b = p
    · subst hb; exact .inr (.inl hp)
    · refine .inl ?_
      have h : upd w.P p o b = some u := h
      rwa [upd_ne hb] at h
  iof := fun n a h => .inl h
  there := fun b h z => h (by
    by_cases hb : b = p
    · subst hb; exact hp
    · rwa [upd_ne hb] at z)
  me := rfl
/-- a thing laid, not persistent -/
theorem RB.lay {p : Addr} {o : HO} (rb : RB g w B H) (hp : H p = Option.none) : RB g w B (upd H p o) :=
  rb.keep (Le.refl w) rfl (rb.sub.trans (same_upd hp)) (same_upd hp) rb.np rb.nt
theorem Ext.lay {p : Addr} {o : HO} (hp : H p = Option.none) : Ext w H w (upd H p o) where
  le := Le.refl w
  keep := fun b u h _ _ => same_upd hp b u h
  pf := fun b u h => .inl h
  iof := fun n a h => .inl h
  there := fun b h z => h (by
    by_cases hb : b = p
    · subst hb; exact hp
    · rwa [upd_ne hb] at z)
  me := rfl
variable {E : XK} {Q : VK}
theorem PostE.nowR {d : D} {v : V} (s : S0 g H0 w σI B σ H) (h : PostE g E w H σI σ false Q (.ok d B)) (r : Rep g w d v) : Q v H := h w v H (Ext.refl _ _) s.rb r
theorem RepO.tupR {ds : List D} (s : S0 g H0 w σI B σ H) (h : RepO g w σI σ (.tup ds) x) : Rep g w (.tup ds) x := h.of s (by simp) (by simp) (by simp)
theorem PostE.newT {ds : List D} {vs : List V} {p : Addr} (s : S0 g H0 w σI B σ H) (h : PostE g E w H σI σ false Q (.ok (.tup ds) B)) {ob : Obj} (r : Reps g w ds vs) (hp : H p = Option.none) (hd : ob.dict = Option.none) : Q (.ref p) (upd H p (.frz ob (.tup vs))) :=
  h (regW w p (.frz ob (.tup vs))) _ _ (Ext.reg s.rb hp) (s.rb.reg hp) (by
    simp only [RepB, Rep]
    exact ⟨p, vs, rfl, .inl ⟨ob, upd_same, hd⟩, Reps.mono (regLe w (s.rb.fresh_P hp)) _ _ r⟩)
theorem PostE.newL {ds : List D} {vs : List V} {p : Addr} (s : S0 g H0 w σI B σ H) (h : PostE g E w H σI σ false Q (.ok (.lst ds) B)) (r : Reps g w ds vs) (hp : H p = Option.none) : Q (.ref p) (upd H p (.lst vs)) :=
  h (regW w p (.lst vs)) _ _ (Ext.reg s.rb hp) (s.rb.reg hp) (by
    simp only [RepB, Rep]
    exact ⟨p, vs, rfl, upd_same, Reps.mono (regLe w (s.rb.fresh_P hp)) _ _ r⟩)
end

/-- the built-in classes that are asked for -/
inductive Bt where
  | int | bool | tuple | str | list
  deriving DecidableEq
def Bt.nm : Bt → String
  | .int => "int" | .bool => "bool" | .tuple => "tuple" | .str => "str" | .list => "list"
/-- which class of instances is derived from which -/
def subC (c d : Nat) : Bool := c == d || (d == 2 && (c == 3 || c == 4 || c == 5)) || (c == 5 && (d == 3 || d == 4))
/-- what is known of a class of instances -/
structure ClsC (g : Gs) (c : Nat) : Prop where
  cls : L2.Cls g.K (g.cl c)
  na : ∀ f ∈ fldN c, NoAttr g.K (g.cl c) f
  nd : (fldN c).Nodup
  ha : PySem.W.findIn g.K (.ref (g.cl c)) "__class__" = some (some (.builtin "object.__class__"))
  hm : PySem.W.mroIn g.K (g.cl c) (.type "object") = some true
  isB : ∀ T : Bt, PySem.W.kitOne g.K (.ref (g.cl c)) (.type T.nm) = some false
  isO : ∀ n ∈ ["NoneType", "int", "bool", "str", "list", "tuple", "dict"], PySem.W.kitOne g.K (.type n) (.ref (g.cl c)) = some false
/-- what the top has left -/
structure Fx (g : Gs) : Prop where
  cls : ∀ c, g.has c = true → ClsC g c
  sub : ∀ c d, g.has c = true → g.has d = true → PySem.W.kitOne g.K (.ref (g.cl c)) (.ref (g.cl d)) = some (subC c d)
  hn : PySem.W.specialIn g.K (.builtin "object.__class__") "__get__" = some (some (.builtin "getset_descriptor.__get__"))
  htk : PySem.W.takesIn g.K (.builtin "object.__class__") = some true
  nb : ∀ x ∈ ["len", "range", "isinstance", "tuple", "list", "all", "any", "max", "min", "set", "sorted", "enumerate", "zip", "repr", "str", "int", "sum", "dict", "bool"], g.mg (Str.ofString x) = none
/-- what a body must know of where it stands -/
structure Ok (g : Gs) (X : Cx) : Prop where
  K : X.K = g.K
  mg : X.mg = g.mg
  calm : X.calm = true
  un : X.A.units + 100 < cLine
  prog : X.prog = g.prog
  w : X.w = g.w
  base : X.base = g.base
  fx : Fx g

/-! ### arithmetic -/
def fI2 (k : Int → Int → D) (c : Int → Int → Bool) : D → D → Bs → Rs D
  | .int i, .int j, B => if c i j then .ok (k i j) B else .bad
  | _, _, _ => .bad
theorem os_I {g : Gs} {E : XK} {H0 : Hp} {C : Int → Int → Prop} {c : Int → Int → Bool} {k : Int → Int → D} {kv : Int → Int → V} (hc : ∀ i j, c i j = true → C i j) (hk : ∀ w i j, Rep g w (k i j) (kv i j)) :
    OpSem g E H0 (rI C kv) (fI2 k c) := by
  intro w σI B σ H Q x y dx dy s rx ry p
  cases dx <;> first | exact p.elim | skip
  cases dy <;> first | exact p.elim | skip
  rename_i i j
  simp only [fI2] at p
  split at p
  · rename_i h
    exact ⟨i, j, rx.int s, ry.int s, hc _ _ h, p.nowR s (hk w i j)⟩
  · exact p.elim
theorem os_I0 {g : Gs} {E : XK} {H0 : Hp} {k : Int → Int → D} {kv : Int → Int → V} (hk : ∀ w i j, Rep g w (k i j) (kv i j)) :
    OpSem g E H0 (rI0 kv) (fI2 k fun _ _ => true) := by
  intro w σI B σ H Q x y dx dy s rx ry p
  cases dx <;> first | exact p.elim | skip
  cases dy <;> first | exact p.elim | skip
  rename_i i j
  exact ⟨i, j, rx.int s, ry.int s, PostE.nowR s p (hk w i j)⟩
theorem rep_int (g : Gs) (w : Wd) (i : Int) : Rep g w (.int i) (.int i) := by simp only [Rep]
theorem rep_bool (g : Gs) (w : Wd) (i : Bool) : Rep g w (.bool i) (.bl i) := by simp only [Rep]
theorem rep_str (g : Gs) (w : Wd) (i : Str) : Rep g w (.str i) (.str i) := by simp only [Rep]
theorem rep_none (g : Gs) (w : Wd) : Rep g w .none .non := by simp only [Rep]

def b2D (b : Bool) : Int := if b then 1 else 0
def fAdd : D → D → Bs → Rs D
  | .int i, .int j, B => .ok (.int (i + j)) B
  | .int i, .bool b, B => .ok (.int (i + b2D b)) B
  | .str a, .str b, B => if a.length + b.length ≤ sizeLine then .ok (.str (a ++ b)) B else .bad
  | .tup a, .tup b, B => if a.length + b.length ≤ sizeLine then .ok (.tup (a ++ b)) B else .bad
  | .lst a, .lst b, B => if a.length + b.length ≤ sizeLine then .ok (.lst (a ++ b)) B else .bad
  | _, _, _ => .bad
/-- a + b of tuples: what is made has no dict -/
def rCatN (K : PySem.W.Frag) : R2 := fun x y H Q => ∃ a b xs ys, x = .ref a ∧ y = .ref b ∧ SqT K H a xs ∧ SqT K H b ys ∧ xs.length + ys.length ≤ sizeLine ∧
  (xs = [] → Q (.ref b) H) ∧ (xs ≠ [] → ys = [] → Q (.ref a) H) ∧ (xs ≠ [] → ys ≠ [] → ∀ p (ob : Obj), H p = Option.none → ob.dict = Option.none → Q (.ref p) (upd H p (.frz ob (.tup (xs ++ ys)))))
theorem frz_tup {P : Program} {w : World} {H : Hp} {h : Heap} {a : Addr} {xs : List V} {us : List Value} (hz : xs.length ≤ sizeLine) (r : Vals xs us) (e : h.get? a = some { cls := .type "tuple", data := .seq us.toArray }) :
    ObjOk P w H h a (.frz { cls := .type "tuple", data := .seq us.toArray } (.tup xs)) := ⟨e, hz, us, r, _, e, rfl, _, rfl⟩
theorem op_catN {X : Cx} : OpR X (binaryOp .Add) (rCatN X.K) := by
  intro pins s σ H x y v u Q I rx ry h
  obtain ⟨a, b, xs, ys, rfl, rfl, ha, hb, hz, q0, q1, q2⟩ := h
  cases rx
  cases ry
  obtain ⟨us, ra, pa, _⟩ := I.tuple ha
  obtain ⟨ws, rb, pb, _⟩ := I.tuple hb
  by_cases hx : xs = []
  · subst hx
    cases ra
    exact cat_tup0 pa pb ⟨.ref b, H, I, rfl, q0 rfl⟩
  · have hu : us ≠ [] := fun z => hx (ra.nil_iff.mp z)
    refine HT.cat_tup pa pb hu (fun z => ⟨.ref a, H, I, rfl, q1 hx (rb.nil_iff.mp z)⟩) (fun z => ?_) (by rw [← ra.length, ← rb.length]; exact hz)
    have hp : H s.heap.objs.size = Option.none := I.hok.fresh (Nat.le_refl _)
    refine ⟨.ref s.heap.objs.size, upd H s.heap.objs.size _, I.laid (t' := s.toks) (o := .frz { cls := .type "tuple", data := .seq (us ++ ws).toArray } (.tup (xs ++ ys))) (fun c oc qc => Heap.get?_push_of_some _ qc) (Nat.le_refl _) ?_, rfl, q2 hx (fun w => z (rb.nil_iff.mpr w)) _ _ hp rfl⟩
    exact frz_tup (by rw [List.length_append]; exact hz) (ra.append rb) (Heap.get?_push_size _ rfl)
def rAdd (K : PySem.W.Frag) : R2 := fun x y H Q => (rI0 (fun i j => .int (i + j))) x y H Q ∨ (∃ i k, x = .int i ∧ y = .bl k ∧ Q (.int (i + PyProof.Rows.b2i k)) H) ∨ (∃ i j, x = .str i ∧ y = .str j ∧ i.length + j.length ≤ sizeLine ∧ Q (.str (i ++ j)) H) ∨ rCatN K x y H Q ∨ rCat x y H Q
theorem op_addA {X : Cx} : OpR X (binaryOp .Add) (rAdd X.K) := op_add.or (op_add_ib.or (op_add_str.or (op_catN.or op_cat)))
theorem os_add {g : Gs} {E : XK} {H0 : Hp} : OpSem g E H0 (rAdd g.K) fAdd := by
  intro w σI B σ H Q x y dx dy s rx ry p
  unfold fAdd at p
  split at p
  · rename_i i j
    exact .inl ⟨i, j, rx.int s, ry.int s, p.nowR s (rep_int g w _)⟩
  · rename_i i b
    exact .inr (.inl ⟨i, b, rx.int s, ry.bool s, p.nowR s (by simp only [Rep]; cases b <;> rfl)⟩)
  · rename_i a b
    split at p
    · rename_i h
      exact .inr (.inr (.inl ⟨a, b, rx.str s, ry.str s, h, p.nowR s (rep_str g w _)⟩))
    · exact p.elim
  · rename_i ds es
    split at p
    · rename_i h
      obtain ⟨a, vs, rfl, q1, r1⟩ := rx.tup s
      obtain ⟨b, us, rfl, q2, r2⟩ := ry.tup s
      refine .inr (.inr (.inr (.inl ⟨a, b, vs, us, rfl, rfl, q1, q2, by rw [r1.len, r2.len]; exact h, ?_, ?_, ?_⟩)))
      · intro e
        have hd : ds = [] := List.eq_nil_of_length_eq_zero (by rw [← r1.len, e]; rfl)
        subst hd
        exact p.nowR s (ry.tupR s)
      · intro e e2
        have hd : es = [] := List.eq_nil_of_length_eq_zero (by rw [← r2.len, e2]; rfl)
        subst hd
        rw [List.append_nil] at p
        exact p.nowR s (rx.tupR s)
      · intro _ _ q ob hq ho
        exact p.newT s (r1.app r2) hq ho
    · exact p.elim
  · rename_i ds es
    split at p
    · rename_i h
      obtain ⟨a, vs, rfl, q1, r1⟩ := rx.lst s
      obtain ⟨b, us, rfl, q2, r2⟩ := ry.lst s
      exact .inr (.inr (.inr (.inr ⟨a, b, vs, us, rfl, rfl, q1, q2, by rw [r1.len, r2.len]; exact h, fun q hq => p.newL s (r1.app r2) hq⟩)))
    · exact p.elim
  · exact p.elim
def wideB (i : Int) : Bool := decide (-(2 ^ 64) < i) && decide (i < 2 ^ 64)
theorem wideB_ok {i : Int} (h : wideB i = true) : -(2 ^ 64) < i ∧ i < 2 ^ 64 := by
  unfold wideB at h
  simp only [Bool.and_eq_true, decide_eq_true_eq] at h
  exact h
abbrev fSub := fI2 (fun i j => .int (i - j)) fun _ _ => true
abbrev fMod := fI2 (fun i j => .int (i % j)) fun _ j => decide (0 < j)
abbrev fDiv := fI2 (fun i j => .int (i / j)) fun _ j => decide (0 < j) && decide (j < 1073741824)
abbrev fPow := fI2 (fun i j => .int (i ^ j.toNat)) fun i j => decide (0 ≤ j) && decide (j ≤ 1000000) && decide (i.natAbs < 2 ^ 64)
theorem os_sub {g : Gs} {E : XK} {H0 : Hp} : OpSem g E H0 (rI0 fun i j => .int (i - j)) fSub := os_I0 fun w i j => rep_int g w _
theorem os_mod {g : Gs} {E : XK} {H0 : Hp} : OpSem g E H0 (rI (fun _ j => 0 < j) fun i j => .int (i % j)) fMod := os_I (fun i j h => of_decide_eq_true h) fun w i j => rep_int g w _
theorem os_div {g : Gs} {E : XK} {H0 : Hp} : OpSem g E H0 (rI CDiv fun i j => .int (i / j)) fDiv := os_I (fun i j h => by
  simp only [Bool.and_eq_true, decide_eq_true_eq] at h; exact h) fun w i j => rep_int g w _
theorem os_pow {g : Gs} {E : XK} {H0 : Hp} : OpSem g E H0 (rI CPow fun i j => .int (i ^ j.toNat)) fPow := os_I (fun i j h => by
  simp only [Bool.and_eq_true, decide_eq_true_eq] at h; exact ⟨h.1.1, h.1.2, h.2⟩) fun w i j => rep_int g w _
section
variable {g : Gs} {E : XK} {H0 : Hp} {X : Cx} {a b : Expr} {ma mb : Ev} {pos : Pos} {b1 b2 : Bool}
theorem s_add (c : Ok g X) (ha : Snd g E H0 X b1 a ma) (hb : Snd g E H0 X b2 b mb) : Snd g E H0 X false (.BinOp a .Add b pos) (mBin fAdd ma mb) := s_bin (c.K ▸ op_addA) os_add ha hb
theorem s_sub (ha : Snd g E H0 X b1 a ma) (hb : Snd g E H0 X b2 b mb) : Snd g E H0 X false (.BinOp a .Sub b pos) (mBin fSub ma mb) := s_bin op_sub os_sub ha hb
theorem s_mod (ha : Snd g E H0 X b1 a ma) (hb : Snd g E H0 X b2 b mb) : Snd g E H0 X false (.BinOp a .Mod b pos) (mBin fMod ma mb) := s_bin op_mod os_mod ha hb
theorem s_div (ha : Snd g E H0 X b1 a ma) (hb : Snd g E H0 X b2 b mb) : Snd g E H0 X false (.BinOp a .FloorDiv b pos) (mBin fDiv ma mb) := s_bin op_fdiv os_div ha hb
theorem s_pow (ha : Snd g E H0 X b1 a ma) (hb : Snd g E H0 X b2 b mb) : Snd g E H0 X false (.BinOp a .Pow b pos) (mBin fPow ma mb) := s_bin op_pow os_pow ha hb
end


/-! ### order of whole numbers -/
abbrev fLt := fI2 (fun i j => .bool (decide (i < j))) fun _ _ => true
abbrev fLe := fI2 (fun i j => .bool (decide (i ≤ j))) fun _ _ => true
abbrev fGt := fI2 (fun i j => .bool (decide (j < i))) fun _ _ => true
/-- a comparison that is known -/
structure Cmp (g : Gs) (E : XK) (H0 : Hp) (X : Cx) (op : CmpOp) (f : D → D → Bs → Rs D) : Prop where
  ex : ∃ r, OpR X (compareOp op) r ∧ OpSem g E H0 r f
  bl : ∀ d e B, f d e B = .bad ∨ ∃ b B', f d e B = .ok (.bool b) B'
theorem fI2_bl (k : Int → Int → Bool) (c : Int → Int → Bool) : ∀ d e B, fI2 (fun i j => .bool (k i j)) c d e B = .bad ∨ ∃ b B', fI2 (fun i j => .bool (k i j)) c d e B = .ok (.bool b) B' := fun d e B => by
  cases d <;> first | exact .inl rfl | skip
  cases e <;> first | exact .inl rfl | skip
  rename_i i j
  simp only [fI2]
  by_cases h : c i j = true
  · rw [if_pos h]; exact .inr ⟨_, _, rfl⟩
  · rw [if_neg h]; exact .inl rfl
section
variable {g : Gs} {E : XK} {H0 : Hp} {X : Cx}
theorem c_lt : Cmp g E H0 X .Lt fLt := ⟨⟨_, op_lt, os_I0 fun w i j => rep_bool g w _⟩, fI2_bl _ _⟩
theorem c_le : Cmp g E H0 X .LtE fLe := ⟨⟨_, op_le, os_I0 fun w i j => rep_bool g w _⟩, fI2_bl _ _⟩
theorem c_gt : Cmp g E H0 X .Gt fGt := ⟨⟨_, op_gt, os_I0 fun w i j => rep_bool g w _⟩, fI2_bl _ _⟩
end
end Hf

set_option Elab.async false
set_option linter.all false
set_option maxRecDepth 100000
set_option maxHeartbeats 4000000
namespace Hf
open PySem PySem.Spec PyProof.Rows L2
theorem tuple_mulS (l : Addr) (items : Array Value) (n : Nat) (dd : Option Addr) (sl : Array (Option Value)) (x : Int) (u : Tok) (c0 : (decide (x < -(2 ^ 63)) || decide (x ≥ 2 ^ 63)) = false) (c1 : (items.isEmpty || x == 1) = true) :
    Meets (Builtin.«tuple.__mul__» ⟨[.ref l, .int x u], []⟩) (fun _ R s => s.heap.get? l = some { cls := .type "tuple", dict := dd, data := .seq items n, slots := sl } ∧ R (.ok (.ret (Value.ref l))) s) :=
  .of_wp fun prog w A R s h => by
    obtain ⟨hp, g, d, tk, os⟩ := s
    obtain ⟨hl, h⟩ := h
    have f1 := AutoSeq1.idx_int
    wp_walk using wpAny_loadPart' hl
    repeat (first
      | (refine wpAny_ite_false (decide_eq_false (by rw [c0]; exact Bool.false_ne_true)) ?_; wp_walk using wpAny_loadPart' hl)
      | (refine wpAny_ite_true (decide_eq_true c1) ?_; wp_walk using wpAny_loadPart' hl))
    exact ⟨_, rfl, h⟩
theorem tuple_mul0 (l : Addr) (items : Array Value) (n : Nat) (dd : Option Addr) (sl : Array (Option Value)) (x : Int) (u : Tok) (c0 : (decide (x < -(2 ^ 63)) || decide (x ≥ 2 ^ 63)) = false) (c1 : (items.isEmpty || x == 1) = false) (c2 : (decide (x ≤ 0) || items.isEmpty) = true) :
    Meets (Builtin.«tuple.__mul__» ⟨[.ref l, .int x u], []⟩) (fun _ R s => s.heap.get? l = some { cls := .type "tuple", dict := dd, data := .seq items n, slots := sl } ∧
      R (.ok (.ret (Value.ref s.heap.objs.size))) { s with heap := s.heap.push { cls := Value.type "tuple", data := Data.seq #[] }, toks := s.toks }) :=
  .of_wp fun prog w A R s h => by
    obtain ⟨hp, g, d, tk, os⟩ := s
    obtain ⟨hl, h⟩ := h
    have f1 := AutoSeq1.idx_int
    wp_walk using wpAny_loadPart' hl
    repeat (first
      | (refine wpAny_ite_false (decide_eq_false (by rw [c0]; exact Bool.false_ne_true)) ?_; wp_walk using wpAny_loadPart' hl)
      | (refine wpAny_ite_false (decide_eq_false (by rw [c1]; exact Bool.false_ne_true)) ?_; wp_walk using wpAny_loadPart' hl)
      | (refine wpAny_ite_true (decide_eq_true c2) ?_; wp_walk using wpAny_loadPart' hl))
    exact ⟨_, rfl, h⟩

def rRepTA (K : PySem.W.Frag) : R2 := fun x y H Q => ∃ l k xs, x = .ref l ∧ y = .int k ∧ SqT K H l xs ∧ -1000 < k ∧ k ≤ 1000 ∧ xs.length ≤ 1000 ∧
  ((xs = [] ∨ k = 1) → Q (.ref l) H) ∧ (xs ≠ [] → k ≠ 1 → ∀ p (ob : Obj), H p = none → ob.dict = none → Q (.ref p) (upd H p (.frz ob (.tup (List.replicate k.toNat xs).flatten))))
theorem op_repTA {X : Cx} : OpR X (binaryOp .Mult) (rRepTA X.K) := by
  intro pins s σ H x y v u Q I rx ry h
  obtain ⟨l, k, xs, rfl, rfl, hT, h1, h2, hz, q0, q⟩ := h
  cases rx
  obtain ⟨t, rfl⟩ := ry
  obtain ⟨its, r, ⟨⟨cls, dd, data, sl⟩, ho, hc, n, hd⟩, hs⟩ := I.tuple hT
  simp only at hc hd
  subst hc hd
  have hle : its.length = xs.length := r.length.symm
  have hfree : H s.heap.objs.size = none := I.hok.fresh (Nat.le_refl _)
  have c0 : (decide (k < -(2 ^ 63)) || decide (k ≥ 2 ^ 63)) = false := by
    rw [decide_eq_false (by omega), decide_eq_false (by omega)] <;> rfl
  by_cases hs1 : xs = [] ∨ k = 1
  · have c1 : (its.toArray.isEmpty || k == 1) = true := by
      rcases hs1 with e | e
      · subst e
        cases its with
        | nil => rfl
        | cons a b => simp at hle
      · subst e; simp
    exact wpAny_binaryOp_repeat_ref (T := "tuple") (U := "int") (by decide) ⟨_, ho, rfl⟩ (fun s' => typeIs_int s' k t) noFill_tuple_mul F.fills_int_mul F.slot_int_rmul repeat_tuple F.slot_int_index.lookup
      (call_meets F.slot_int_rmul (typeIs_int s k t) F.entry_int_rmul (F.args_int_rmul_2 _ _) (int_rmul_tuple k t l its.toArray n dd sl)
        ⟨ho, rfl, ⟨_, ho, rfl⟩, call_meets F.slot_tuple_mul ⟨_, ho, rfl⟩ F.entry_tuple_mul (F.args_tuple_mul_2 _ _) (tuple_mulS l its.toArray n dd sl k t c0 c1) ⟨ho, ⟨.ref l, H, I, rfl, q0 hs1⟩⟩⟩)
  · have hx : xs ≠ [] := fun e => hs1 (.inl e)
    have hk1 : k ≠ 1 := fun e => hs1 (.inr e)
    have hi : its.toArray.isEmpty = false := by
      cases its with
      | nil => exact absurd (List.eq_nil_of_length_eq_zero hle.symm) hx
      | cons a b => rfl
    have c1 : (its.toArray.isEmpty || k == 1) = false := by
      rw [hi, Bool.false_or]
      exact beq_eq_false_iff_ne.mpr hk1
    by_cases hk : k ≤ 0
    case neg =>
      have d2 : (decide (k ≤ 0) || its.toArray.isEmpty) = false := by
        rw [hi, Bool.or_false]; exact decide_eq_false hk
      have hm : ((its.toArray.size : Nat) : Int) * k ≤ 1000000 := by
        rw [List.size_toArray, hle]
        have := Int.mul_le_mul_of_nonneg_right (show ((xs.length : Nat) : Int) ≤ 1000 by omega) (show 0 ≤ k by omega)
        omega
      have lf : (List.replicate k.toNat its).flatten.length ≤ sizeLine := by
        rw [PyProof.Rows.lm_len_rep_flat, hle, sizeLine_eq]
        have := Nat.mul_le_mul (show k.toNat ≤ 1000 by omega) hz
        omega
      have d4 : Builtin.Tuple.tupleTooMany (((its.toArray.size : Nat) : Int) * k) = false := by
        unfold Builtin.Tuple.tupleTooMany
        rw [sizeLine_eq]; exact decide_eq_false (by omega)
      refine wpAny_binaryOp_repeat_ref (U := "int") (T := "tuple") (by decide) ⟨_, ho, rfl⟩ (fun s1 => typeIs_int s1 k t) noFill_tuple_mul F.fills_int_mul F.slot_int_rmul repeat_tuple F.slot_int_index.lookup
        (call_meets F.slot_int_rmul (typeIs_int s k t) F.entry_int_rmul (F.args_int_rmul_2 _ _) (int_rmul_tuple k t l its.toArray n dd sl)
          ⟨ho, rfl, ⟨_, ho, rfl⟩, call_meets F.slot_tuple_mul ⟨_, ho, rfl⟩ F.entry_tuple_mul (F.args_tuple_mul_2 _ _) (tuple_mulW l its.toArray n dd sl k t c0 c1 d2 (by omega) d4 (by rw [size_rep, List.size_toArray]; exact lf)) ⟨ho, ?_⟩⟩)
      rw [size_rep]
      exact ⟨.ref s.heap.objs.size, upd H s.heap.objs.size _, I.laid (t' := s.toks) (o := .frz { cls := .type "tuple", data := .seq (List.replicate k.toNat its).flatten.toArray } (.tup (List.replicate k.toNat xs).flatten)) (fun c oc qc => Heap.get?_push_of_some _ qc) (Nat.le_refl _)
        (frz_tup (by rw [← (r.rep k.toNat).length] at lf; exact lf) (r.rep k.toNat) (Heap.get?_push_size _ rfl)), rfl, q hx hk1 _ _ hfree rfl⟩
    have c2 : (decide (k ≤ 0) || its.toArray.isEmpty) = true := by rw [decide_eq_true hk]; rfl
    refine wpAny_binaryOp_repeat_ref (T := "tuple") (U := "int") (by decide) ⟨_, ho, rfl⟩ (fun s' => typeIs_int s' k t) noFill_tuple_mul F.fills_int_mul F.slot_int_rmul repeat_tuple F.slot_int_index.lookup
      (call_meets F.slot_int_rmul (typeIs_int s k t) F.entry_int_rmul (F.args_int_rmul_2 _ _) (int_rmul_tuple k t l its.toArray n dd sl)
        ⟨ho, rfl, ⟨_, ho, rfl⟩, call_meets F.slot_tuple_mul ⟨_, ho, rfl⟩ F.entry_tuple_mul (F.args_tuple_mul_2 _ _) (tuple_mul0 l its.toArray n dd sl k t c0 c1 c2) ⟨ho, ?_⟩⟩)
    have e0 : k.toNat = 0 := by omega
    rw [e0] at q
    exact ⟨.ref s.heap.objs.size, upd H s.heap.objs.size _, I.laid (t' := s.toks) (o := .frz { cls := .type "tuple", data := .seq ([] : List Value).toArray } (.tup [])) (fun c oc qc => Heap.get?_push_of_some _ qc) (Nat.le_refl _)
      (frz_tup (Nat.zero_le _) .nil (Heap.get?_push_size _ rfl)), rfl, q hx hk1 _ _ hfree rfl⟩

def fMul : D → D → Bs → Rs D
  | .int i, .int j, B => if wideB i || wideB j then .ok (.int (i * j)) B else .bad
  | .lst a, .int k, B => if decide (k < 1000) && decide (-1000 < k) && decide (a.length ≤ 1000) then .ok (.lst (List.replicate k.toNat a).flatten) B else .bad
  | .tup a, .int k, B => if decide (k < 1000) && decide (-1000 < k) && decide (a.length ≤ 1000) then .ok (.tup (List.replicate k.toNat a).flatten) B else .bad
  | _, _, _ => .bad
def rMulA (K : PySem.W.Frag) : R2 := fun x y H Q => (rI CMul fun i j => .int (i * j)) x y H Q ∨ rRep x y H Q ∨ rRepTA K x y H Q
theorem op_mulA {X : Cx} : OpR X (binaryOp .Mult) (rMulA X.K) := op_mul.or (op_rep.or op_repTA)
theorem os_mul {g : Gs} {E : XK} {H0 : Hp} : OpSem g E H0 (rMulA g.K) fMul := by
  intro w σI B σ H Q x y dx dy s rx ry p
  unfold fMul at p
  split at p
  · rename_i i j
    split at p
    · rename_i h
      refine .inl ⟨i, j, rx.int s, ry.int s, ?_, p.nowR s (rep_int g w _)⟩
      rcases Bool.or_eq_true_iff.mp h with h | h
      · exact .inl (wideB_ok h)
      · exact .inr (wideB_ok h)
    · exact p.elim
  · rename_i ds k
    split at p
    · rename_i h
      simp only [Bool.and_eq_true, decide_eq_true_eq] at h
      obtain ⟨⟨h1, h2⟩, h3⟩ := h
      obtain ⟨a, vs, rfl, q1, r1⟩ := rx.lst s
      refine .inr (.inl ⟨a, k, vs, rfl, ry.int s, q1, by omega, by omega, ?_, fun q hq => p.newL s (r1.rep _) hq⟩)
      rw [r1.len, sizeLine_eq]
      have a1 : ds.length * k.toNat ≤ 1000 * 1000 := Nat.mul_le_mul h3 (by omega)
      omega
    · exact p.elim
  · rename_i ds k
    split at p
    · rename_i h
      simp only [Bool.and_eq_true, decide_eq_true_eq] at h
      obtain ⟨⟨h1, h2⟩, h3⟩ := h
      obtain ⟨a, vs, rfl, q1, r1⟩ := rx.tup s
      refine .inr (.inr ⟨a, k, vs, rfl, ry.int s, q1, by omega, by omega, by rw [r1.len]; exact h3, ?_, fun _ _ q ob hq ho => p.newT s (r1.rep _) hq ho⟩)
      rintro (e | e)
      · have hd : ds = [] := List.eq_nil_of_length_eq_zero (by rw [← r1.len, e]; rfl)
        subst hd
        have e : (List.replicate k.toNat ([] : List D)).flatten = [] := by simp
        rw [e] at p
        exact p.nowR s (rx.tupR s)
      · subst e
        simp at p
        exact p.nowR s (rx.tupR s)
    · exact p.elim
  · exact p.elim
section
variable {g : Gs} {E : XK} {H0 : Hp} {X : Cx} {a b : Expr} {ma mb : Ev} {pos : Pos} {b1 b2 : Bool}
theorem s_mul (c : Ok g X) (ha : Snd g E H0 X b1 a ma) (hb : Snd g E H0 X b2 b mb) : Snd g E H0 X false (.BinOp a .Mult b pos) (mBin fMul ma mb) := s_bin (c.K ▸ op_mulA) os_mul ha hb
end

/-! ### equality of data -/
mutual
def toPy : D → PyData
  | .none => .none
  | .bool b => .bool b
  | .int i => .int i
  | .str x => .str x
  | .tup ds => .tuple (toPys ds)
  | .lst ds => .list (toPys ds)
  | .kd k x => .dict [(.int k, .int x)]
  | _ => .dict []
def toPys : List D → List PyData
  | [] => []
  | d :: ds => toPy d :: toPys ds
end
mutual
theorem Rep.dp {g : Gs} {w : Wd} {H : Hp} (hs : Same w.P H) : ∀ (d : D) (v : V), Rep g w d v → (toPy d).canLay0 = true → Dp g.K H v (toPy d)
  | .none, v, h, _ => by simp only [Rep] at h; subst h; exact .non
  | .bool b, v, h, _ => by simp only [Rep] at h; subst h; exact .bl b
  | .int b, v, h, _ => by simp only [Rep] at h; subst h; exact .int b
  | .str b, v, h, _ => by simp only [Rep] at h; subst h; exact .str b
  | .tup ds, v, h, c => by
    simp only [Rep] at h
    obtain ⟨a, vs, rfl, q, r⟩ := h
    simp only [toPy, PyData.canLay0] at c ⊢
    exact .tup (sqT_mono hs q.T) (Reps.dp hs ds vs r c)
  | .lst ds, v, h, c => by
    simp only [Rep] at h
    obtain ⟨a, vs, rfl, q, r⟩ := h
    simp only [toPy, PyData.canLay0] at c ⊢
    exact .lst (.inl (.inl (hs _ _ q))) (Reps.dp hs ds vs r c)
  | .scr ds, v, h, c => by simp [toPy, PyData.canLay0] at c
  | .prs ds, v, h, c => by simp [toPy, PyData.canLay0] at c
  | .dct ks ds, v, h, c => by simp [toPy, PyData.canLay0] at c
  | .inst k ds, v, h, c => by simp [toPy, PyData.canLay0] at c
  | .box n, v, h, c => by simp [toPy, PyData.canLay0] at c
  | .cls n, v, h, c => by simp [toPy, PyData.canLay0] at c
  | .ptr n, v, h, c => by simp [toPy, PyData.canLay0] at c
  | .kd k x, v, h, c => by simp [toPy, PyData.canLay0] at c
  | .fnT k, v, h, c => by simp [toPy, PyData.canLay0] at c
  | .exo a dd f x, v, h, c => by simp [toPy, PyData.canLay0] at c
  | .exn k ds, v, h, c => by simp [toPy, PyData.canLay0] at c
theorem Reps.dp {g : Gs} {w : Wd} {H : Hp} (hs : Same w.P H) : ∀ (ds : List D) (vs : List V), Reps g w ds vs → PyData.canLayAll0 (toPys ds) = true → DpAll g.K H vs (toPys ds)
  | [], vs, h, _ => by simp only [Reps] at h; subst h; exact .nil
  | d :: ds, vs, h, c => by
    simp only [Reps] at h
    obtain ⟨v, us, rfl, r, rs⟩ := h
    simp only [toPys, PyData.canLayAll0, Bool.and_eq_true] at c ⊢
    exact .cons (Rep.dp hs d v r c.1) (Reps.dp hs ds us rs c.2)
end
theorem RepO.dp {g : Gs} {w : Wd} {H H0 : Hp} {σI : Sl} {σ : L2.St} {B : Bs} {x : V} {d : D} (s : S0 g H0 w σI B σ H) (h : RepO g w σI σ d x) (c : (toPy d).canLay0 = true) : Dp g.K H x (toPy d) := by
  rcases h with h | h
  · exact Rep.dp s.rb.sub d x h c
  · have h' : RepO g w σI σ d x := .inr h
    obtain ⟨i, h1, h2⟩ := h
    obtain ⟨a, o, e, ha, ct, _⟩ := s.ow i _ h1
    cases d <;> simp [Cont] at ct
    · obtain ⟨a, vs, rfl, q, r⟩ := h'.lst s
      simp only [toPy, PyData.canLay0] at c ⊢
      exact .lst (.inl (.inl q)) (Reps.dp s.rb.sub _ vs r c)
    · simp [toPy, PyData.canLay0] at c
    · simp [toPy, PyData.canLay0] at c
/-- plain data of some depth -/
def shp (d : D) : Bool := SeqAt.shaped (toPy d)
def eqD (d e : D) : Bool := PyData.eqv (toPy d) (toPy e)
def fEq : D → D → Bs → Rs D := fun d e B => if shp d && shp e then .ok (.bool (eqD d e)) B else .bad
def fNe : D → D → Bs → Rs D := fun d e B => if shp d && shp e then .ok (.bool (!eqD d e)) B else .bad
theorem os_eq {g : Gs} {E : XK} {H0 : Hp} : OpSem g E H0 (rEqD g.K) fEq := by
  intro w σI B σ H Q x y dx dy s rx ry p
  unfold fEq at p
  split at p
  · rename_i h
    obtain ⟨h1, h2⟩ := Bool.and_eq_true_iff.mp h
    exact ⟨_, _, rx.dp s (SeqAt.canLay_of_shaped h1), ry.dp s (SeqAt.canLay_of_shaped h2), h1, h2, p.nowR s (rep_bool g w _)⟩
  · exact p.elim
theorem os_ne {g : Gs} {E : XK} {H0 : Hp} : OpSem g E H0 (rNeD g.K) fNe := by
  intro w σI B σ H Q x y dx dy s rx ry p
  unfold fNe at p
  split at p
  · rename_i h
    obtain ⟨h1, h2⟩ := Bool.and_eq_true_iff.mp h
    exact ⟨_, _, rx.dp s (SeqAt.canLay_of_shaped h1), ry.dp s (SeqAt.canLay_of_shaped h2), h1, h2, p.nowR s (rep_bool g w _)⟩
  · exact p.elim
/-! ### in -/
section
variable {g : Gs} {E : XK} {H0 : Hp} {X : Cx} {a b c : Expr} {ma mb mc : Ev} {pos : Pos}
theorem blB (c : Bool) (b : Bool) (B : Bs) : (if c then (Rs.ok (D.bool b) B) else .bad) = Rs.bad ∨ ∃ x B', (if c then (Rs.ok (D.bool b) B) else .bad) = Rs.ok (.bool x) B' := by
  cases c
  · exact .inl rfl
  · exact .inr ⟨_, _, rfl⟩
theorem c_eq (k : Ok g X) : Cmp g E H0 X .Eq fEq := ⟨⟨_, k.K ▸ op_eqD (by have := k.un; omega), os_eq⟩, fun _ _ _ => blB _ _ _⟩
theorem c_ne (k : Ok g X) : Cmp g E H0 X .NotEq fNe := ⟨⟨_, k.K ▸ op_neD (by have := k.un; omega), os_ne⟩, fun _ _ _ => blB _ _ _⟩
/-! ### is None -/
end
end Hf

set_option Elab.async false
set_option linter.all false
set_option maxRecDepth 100000
set_option maxHeartbeats 4000000
namespace Hf
open PySem PySem.Spec PyProof.Rows L2

/-! ### comparisons -/
section
variable {g : Gs} {E : XK} {H0 : Hp} {X : Cx} {a b c : Expr} {ma mb mc : Ev} {pos : Pos} {b1 b2 b3 bo : Bool} {op op' : CmpOp} {f f' : D → D → Bs → Rs D}
theorem s_cmp (P : Cmp g E H0 X op f) (ha : Snd g E H0 X b1 a ma) (hb : Snd g E H0 X b2 b mb) (hm : behindInMarks op b = false := by rfl) : Snd g E H0 X false (.Compare a [op] [b] pos) (mBin f ma mb) := by
  obtain ⟨r, h1, h2⟩ := P.ex
  exact weak (pe_cmpR h1 ha hb hm) (tOp_of h2)
def toB (m : Rs D) : Rs Bool := m.bind fun d B => match d with
  | .bool b => .ok b B
  | _ => .bad
def mCmpT (f : D → D → Bs → Rs D) (ma mb : Ev) : Et := fun σI B => (ma σI B).bind fun x B1 => (mb σI B1).bind fun y B2 => toB (f x y B2)
theorem cmp_end (P : Cmp g E H0 X op f) {w : Wd} {H : Hp} {σI : Sl} {σ : L2.St} {B : Bs} {Q : Bool → Hp → Prop} {x y : D} (p : PostT g E w H Q (toB (f x y B))) :
    PostE g E w H σI σ false (fun x H' => ∃ k, x = .bl k ∧ Q k H') (f x y B) := by
  rcases P.bl x y B with e | ⟨b, B', e⟩
  · rw [e] at p; exact p.elim
  · rw [e] at p ⊢
    intro w' v H' x rb r
    simp only [RepB, Rep] at r
    exact ⟨b, r, p w' H' x rb⟩
theorem t_cmp (P : Cmp g E H0 X op f) (ha : Snd g E H0 X b1 a ma) (hb : Snd g E H0 X b2 b mb) (hm : behindInMarks op b = false := by rfl) : SndT g E H0 X (.Compare a [op] [b] pos) (mCmpT f ma mb) := by
  obtain ⟨r, h1, h2⟩ := id P.ex
  refine weakT (pt_cmpR h1 ha hb hm) ?_
  rintro σ H Q ⟨w, σI, B, s, p⟩
  refine tI_bindT s p fun d B1 w1 v H1 x1 s1 r1 p1 => ?_
  refine tI_bindT s1 p1 fun d2 B2 w2 v2 H2 x2 s2 r2 p2 => ?_
  exact h2 w2 σI B2 σ H2 _ v v2 d d2 s2 (r1.up.mono x2.le) r2.up (cmp_end P p2)
def mChain (f f' : D → D → Bs → Rs D) (ma mb mc : Ev) : Ev := fun σI B => (ma σI B).bind fun x B1 => (mb σI B1).bind fun y B2 => (toB (f x y B2)).bind fun k B3 =>
  if k then (mc σI B3).bind fun z B4 => f' y z B4 else .ok (.bool false) B3
theorem chain_at (P : Cmp g E H0 X op f) {w : Wd} {H : Hp} {σI : Sl} {σ : L2.St} {B : Bs} {Q : VK} {x y : D} {k : Bool → Bs → Rs D} (p : PostE g E w H σI σ false Q ((toB (f x y B)).bind k)) :
    PostE g E w H σI σ false (fun z H' => ∃ b w' B', z = .bl b ∧ Ext w H w' H' ∧ RB g w' B' H' ∧ PostE g E w' H' σI σ false Q (k b B')) (f x y B) := by
  rcases P.bl x y B with e | ⟨b, B', e⟩
  · rw [e] at p; exact p.elim
  · rw [e] at p ⊢
    intro w' v H' x rb r
    simp only [RepB, Rep] at r
    exact ⟨b, w', B', r, x, rb, PostE.ext x p⟩
theorem s_chain (P : Cmp g E H0 X op f) (P' : Cmp g E H0 X op' f') (ha : Snd g E H0 X b1 a ma) (hb : Snd g E H0 X b2 b mb) (hc : Snd g E H0 X b3 c mc) (hm : lastMarks [op, op'] [b, c] = false := by with_unfolding_all rfl) :
    Snd g E H0 X false (.Compare a [op, op'] [b, c] pos) (mChain f f' ma mb mc) := by
  obtain ⟨r, h1, h2⟩ := id P.ex
  obtain ⟨r', h1', h2'⟩ := id P'.ex
  refine weak (pe_chain h1 h1' ha hb hc hm) ?_
  rintro σ H Q ⟨w, σI, B, s, p⟩
  refine tI_bind s p fun d B1 w1 v H1 x1 s1 r1 p1 => ?_
  refine tI_bind s1 p1 fun d2 B2 w2 v2 H2 x2 s2 r2 p2 => ?_
  refine h2 w2 σI B2 σ H2 _ v v2 d d2 s2 (r1.up.mono x2.le) r2.up ?_
  have p3 := chain_at P p2
  revert p3
  generalize hm : f d d2 B2 = m
  intro p3
  cases m with
  | bad => exact p3
  | exc _ _ _ => exact p3
  | ok e B3 =>
    intro w' v' H' x rb rr
    obtain ⟨k, w3, B4, rfl, x3, rb3, p4⟩ := p3 w' v' H' x rb rr
    refine ⟨k, rfl, ?_⟩
    have s3 := s2.step x3 rb3
    cases k with
    | false => exact p4 w3 _ H' (Ext.refl _ _) rb3 (rep_bool g w3 false)
    | true =>
      refine tI_bind s3 p4 fun d5 B5 w5 v5 H5 x5 s5 r5 p5 => ?_
      exact h2' w5 σI B5 σ H5 _ v2 v5 d2 d5 s5 (r2.up.mono (x3.le.trans x5.le)) r5.up p5
def mChainT (f f' : D → D → Bs → Rs D) (ma mb mc : Ev) : Et := fun σI B => (ma σI B).bind fun x B1 => (mb σI B1).bind fun y B2 => (toB (f x y B2)).bind fun k B3 =>
  if k then (mc σI B3).bind fun z B4 => toB (f' y z B4) else .ok false B3
end
/-! ### truth -/
def fTru : D → Option Bool
  | .none => some false
  | .bool b => some b
  | .int i => some (i != 0)
  | .str x => if x.length ≤ sizeLine then some ((x.length : Int) != 0) else Option.none
  | .tup ds => some (!ds.isEmpty)
  | .lst ds => some (!ds.isEmpty)
  | .scr ds => some (!ds.isEmpty)
  | _ => Option.none
theorem isE {g : Gs} {w : Wd} {ds : List D} {vs : List V} (r : Reps g w ds vs) : (!ds.isEmpty) = !vs.isEmpty := by
  have := r.len
  cases ds <;> cases vs <;> simp_all
theorem RepO.tru {g : Gs} {w : Wd} {H H0 : Hp} {σI : Sl} {σ : L2.St} {B : Bs} {x : V} {d : D} {k : Bool} (s : S0 g H0 w σI B σ H) (r : RepO g w σI σ d x) (h : fTru d = some k) : TruV g.K x H k := by
  cases d with
  | none => rw [r.none s]; exact (Option.some.inj h).symm
  | bool b => rw [r.bool s]; exact (Option.some.inj h).symm
  | int i => rw [r.int s]; exact (Option.some.inj h).symm
  | str i =>
    rw [r.str s]
    simp only [fTru] at h
    split at h
    · rename_i hl; exact ⟨hl, (Option.some.inj h).symm⟩
    · cases h
  | tup ds => obtain ⟨a, vs, rfl, q, r⟩ := r.tup s; exact .inr (.inl ⟨vs, q, by rw [← isE r]; exact (Option.some.inj h).symm⟩)
  | lst ds => obtain ⟨a, vs, rfl, q, r⟩ := r.lst s; exact .inl ⟨vs, .inl (.inl q), by rw [← isE r]; exact (Option.some.inj h).symm⟩
  | scr ds => obtain ⟨a, vs, rfl, q, r⟩ := r.scr s; exact .inl ⟨vs, q, by rw [← isE r]; exact (Option.some.inj h).symm⟩
  | prs ds => cases h
  | dct ks ds => cases h
  | box n => cases h
  | cls n => cases h
  | ptr n => cases h
  | kd n x => cases h
  | fnT n => cases h
  | exo a dd f x => cases h
  | exn c ds => cases h
  | inst c ds => cases h
def tru (d : D) (B : Bs) : Rs Bool := match fTru d with
  | some b => .ok b B
  | Option.none => .bad
theorem tru_ok' {d : D} {B : Bs} {β : Type} {f : Bool → Bs → Rs β} {P : Rs β → Prop} (hp : P ((tru d B).bind f)) (hb : ¬ P .bad) : ∃ k, fTru d = some k ∧ P (f k B) := by
  unfold tru at hp
  cases h : fTru d with
  | none => rw [h] at hp; exact (hb hp).elim
  | some k => rw [h] at hp; exact ⟨k, rfl, hp⟩
def mT (m : Ev) : Et := fun σI B => (m σI B).bind fun d B1 => tru d B1
section
variable {g : Gs} {E : XK} {H0 : Hp} {X : Cx} {a b c : Expr} {ma mb mc : Ev} {ta tb tc : Et} {pos : Pos} {b1 b2 b3 bo : Bool} {rest : List Expr}
/-- an expression as a test -/
theorem t_val (k : Ok g X) (ha : Snd g E H0 X b1 a ma) (he : ∀ whole, isTrue a X.env whole = (do let v ← whole; standAt a.pos; holding [v] (truthy v)) := by intro _; rfl) : SndT g E H0 X a (mT ma) := by
  refine weakT (pt_truth ha he) ?_
  rintro σ H Q ⟨w, σI, B, s, p⟩
  refine tI_bindT s p fun d B1 w1 v H1 x1 s1 r1 p1 => ?_
  unfold tru at p1
  split at p1
  · rename_i k' e
    exact ⟨k', k.K ▸ r1.up.tru s1 e, p1 w1 H1 (Ext.refl _ _) s1.rb⟩
  · exact p1.elim
def mNotT (t : Et) : Et := fun σI B => (t σI B).bind fun k B1 => .ok (!k) B1
theorem t_not (ha : SndT g E H0 X a ta) : SndT g E H0 X (.UnaryOp .Not a pos) (mNotT ta) := by
  refine weakT (pt_not ha) ?_
  rintro σ H Q ⟨w, σI, B, s, p⟩
  exact tIt_bindT s p fun k B1 w1 H1 x1 s1 p1 => p1 w1 H1 (Ext.refl _ _) s1.rb
def mOrT (t u : Et) : Et := fun σI B => (t σI B).bind fun k B1 => if k then .ok true B1 else u σI B1
theorem w_or1 (ha : SndT g E H0 X a ta) : SndW g E H0 X (.BoolOp .Or [a] pos) ta := pw_or1 ha
theorem w_or (ha : SndT g E H0 X a ta) (hb : SndW g E H0 X (.BoolOp .Or (b :: rest) pos) tb) : SndW g E H0 X (.BoolOp .Or (a :: b :: rest) pos) (mOrT ta tb) := by
  refine weakW (pw_or ha hb) ?_
  rintro σ H Q ⟨w, σI, B, s, p⟩
  refine tIt_bindT s p fun k B1 w1 H1 x1 s1 p1 => ?_
  cases k with
  | false => exact ⟨w1, σI, B1, s1, p1⟩
  | true => exact p1 w1 H1 (Ext.refl _ _) s1.rb
theorem t_w (h : SndW g E H0 X a ta) : SndT g E H0 X a ta := h.pt
/-! as values -/
def mAnd (ma mb : Ev) : Ev := fun σI B => (ma σI B).bind fun d B1 => (tru d B1).bind fun k _ => if k then mb σI B1 else .ok d B1
def mNot (ma : Ev) : Ev := fun σI B => (ma σI B).bind fun d B1 => (tru d B1).bind fun k _ => .ok (.bool (!k)) B1
theorem s_one {o : BoolOp} (ha : Snd g E H0 X b1 a ma) : Snd g E H0 X b1 (.BoolOp o [a] pos) ma := pe_one ha
theorem s_and (k : Ok g X) (ha : Snd g E H0 X false a ma) (hb : Snd g E H0 X false (.BoolOp .And (b :: rest) pos) mb) : Snd g E H0 X false (.BoolOp .And (a :: b :: rest) pos) (mAnd ma mb) := by
  refine weak (pe_andT ha hb) ?_
  rintro σ H Q ⟨w, σI, B, s, p⟩
  refine tI_bind s p fun d B1 w1 v H1 x1 s1 r1 p1 => ?_
  obtain ⟨k', e, p2⟩ := tru_ok' (P := fun m => PostE g E w1 H1 σI σ false Q m) p1 (fun h => h)
  refine ⟨k', k.K ▸ r1.up.tru s1 e, ?_⟩
  cases k' with
  | true => exact ⟨w1, σI, B1, s1, p2⟩
  | false => exact p2 w1 v H1 (Ext.refl _ _) s1.rb r1
theorem s_not (k : Ok g X) (ha : Snd g E H0 X b1 a ma) : Snd g E H0 X false (.UnaryOp .Not a pos) (mNot ma) := by
  refine weak (pe_notT ha) ?_
  rintro σ H Q ⟨w, σI, B, s, p⟩
  refine tI_bind s p fun d B1 w1 v H1 x1 s1 r1 p1 => ?_
  obtain ⟨k', e, p2⟩ := tru_ok' (P := fun m => PostE g E w1 H1 σI σ false Q m) p1 (fun h => h)
  exact ⟨k', k.K ▸ r1.up.tru s1 e, p2 w1 _ H1 (Ext.refl _ _) s1.rb (rep_bool g w1 _)⟩
def mIte (t : Et) (ma mb : Ev) : Ev := fun σI B => (t σI B).bind fun k B1 => if k then ma σI B1 else mb σI B1
theorem s_ite (hc : SndT g E H0 X c tc) (ha : Snd g E H0 X bo a ma) (hb : Snd g E H0 X bo b mb) : Snd g E H0 X bo (.IfExp c a b pos) (mIte tc ma mb) := by
  refine weak (pe_ifExp hc ha hb) ?_
  rintro σ H Q ⟨w, σI, B, s, p⟩
  refine tIt_bind s p fun k B1 w1 H1 x1 s1 p1 => ?_
  cases k with
  | true => exact ⟨w1, σI, B1, s1, p1⟩
  | false => exact ⟨w1, σI, B1, s1, p1⟩
/-! ### argument lists, displays -/
def mNil : Evs := fun _ B => .ok [] B
def mCons (m : Ev) (ms : Evs) : Evs := fun σI B => (m σI B).bind fun d B1 => (ms σI B1).bind fun ds B2 => .ok (d :: ds) B2
variable {e : Expr} {es : List Expr} {m : Ev} {ms : Evs}
theorem a_nil : Snds g E H0 X [] mNil := weakA pa_nil fun σ H Q ⟨w, σI, B, s, p⟩ => p w [] H (Ext.refl _ _) s.rb (by simp only [Reps])
theorem a_cons (he : Snd g E H0 X false e m) (hr : Snds g E H0 X es ms) (hs : starEach (e :: es) X.env = (false, eval e X.env) :: starEach es X.env := by rfl) : Snds g E H0 X (e :: es) (mCons m ms) := by
  refine weakA (pa_cons he hr hs) ?_
  rintro σ H Q ⟨w, σI, B, s, p⟩
  refine tI_bindA s p fun d B1 w1 v H1 x1 s1 r1 p1 => ?_
  refine tIs_bindA s1 p1 fun ds B2 w2 vs H2 x2 s2 r2 p2 => ?_
  refine p2 w2 _ H2 (Ext.refl _ _) s2.rb ?_
  simp only [Reps]
  exact ⟨v, vs, rfl, Rep.mono x2.le _ _ r1, r2⟩
end
end Hf

set_option Elab.async false
set_option linter.all false
set_option maxRecDepth 100000
set_option maxHeartbeats 4000000
namespace Hf
open PySem PySem.Spec PyProof.Rows L2

/-! ### fresh containers -/
def PostF (g : Gs) (E : XK) (w : Wd) (H : Hp) (Q : VK) : Rs D → Prop
  | .ok d B' => ∀ w' a o H', Ext w H w' H' → RB g w' B' H' → H' a = some o → Cont g w' d a o → H a = Option.none → w'.P a = Option.none → (∀ n, w'.io n ≠ some a) → (∀ c ds, d ≠ .inst c ds) → Q (.ref a) H'
  | .exc c x B' => ∀ w' cls dd H', Ext w H w' H' → RB g w' B' H' → ExcR g w' c x cls dd H' → E cls dd H'
  | .bad => False
def tF (g : Gs) (E : XK) (H0 : Hp) (m : Ev) : TE := fun σ H Q => ∃ w σI B, S0 g H0 w σI B σ H ∧ PostF g E w H Q (m σI B)
/-- the expression makes a new container -/
abbrev SndF (g : Gs) (E : XK) (H0 : Hp) (X : Cx) (e : Expr) (m : Ev) : Prop := PE X e (tF g E H0 m)
section
variable {g : Gs} {E : XK} {H0 : Hp} {w w1 : Wd} {H H1 : Hp} {σI : Sl} {σ : L2.St} {bo bo1 : Bool} {Q : VK}
theorem PostF.ext (x : Ext w H w1 H1) : ∀ {m : Rs D}, PostF g E w H Q m → PostF g E w1 H1 Q m
  | .ok _ _, h => fun w2 a o H2 x2 rb2 e c n p i z => h w2 a o H2 (x.trans x2) rb2 e c (Classical.byContradiction fun q => x.there a q n) p i z
  | .exc _ _ _, h => fun w2 cls dd H2 x2 rb2 r2 => h w2 cls dd H2 (x.trans x2) rb2 r2
  | .bad, h => h
theorem Cont.rep {d : D} {o : HO} {a : Addr} (c : Cont g w d a o) (hp : w.P a = some o) (z : ∀ c ds, d ≠ .inst c ds) : Rep g w d (.ref a) := by
  cases d <;> simp only [Cont] at c
  · obtain ⟨vs, rfl, r⟩ := c; simp only [Rep]; exact ⟨a, vs, rfl, hp, r⟩
  · obtain ⟨xs, rfl, q⟩ := c; simp only [Rep]; exact ⟨a, xs, rfl, hp, q⟩
  · exact (z _ _ rfl).elim
/-- from now on it is persistent -/
theorem reg_ext {w' : Wd} {H' : Hp} {a : Addr} {o : HO} {B' : Bs} (x : Ext w H w' H') (rb : RB g w' B' H') (e : H' a = some o) (n : H a = Option.none) (p : w'.P a = Option.none) (i : ∀ n, w'.io n ≠ some a) (ho : Nt o) :
    Ext w H (regW w' a o) H' ∧ RB g (regW w' a o) B' H' := by
  have l := regLe w' (o := o) p
  refine ⟨⟨x.le.trans l, x.keep, fun b u h => ?_, x.iof, x.there, x.me⟩, rb.keep l rfl (fun b u h => ?_) (Same.refl _) (fun n b h => ?_) (nt_reg rb.nt ho.t)⟩
  · by_cases hb : b = a
    · subst hb; exact .inr (.inl n)
    · have h : upd w'.P a o b = some u := h
      rw [upd_ne hb] at h
      exact x.pf b u h
  · by_cases hb : b = a
    · subst hb
      have h : upd w'.P b o b = some u := h
      rw [upd_same] at h; cases h; exact e
    · have h : upd w'.P a o b = some u := h
      rw [upd_ne hb] at h
      exact rb.sub b u h
  · show upd w'.P a o b = Option.none
    rw [upd_ne (fun z => i n (by rw [← z]; exact h))]
    exact rb.np n b h
theorem PostF.of : ∀ {m : Rs D}, PostE g E w H σI σ false Q m → PostF g E w H Q m
  | .ok d B', h => fun w' a o H' x rb e c n p i z => by
    obtain ⟨x2, rb2⟩ := reg_ext x rb e n p i c.nt
    exact h (regW w' a o) _ H' x2 rb2 ((c.mono (regLe w' p)).rep upd_same z)
  | .exc _ _ _, h => h
  | .bad, h => h
variable {X : Cx} {e : Expr} {m : Ev}
theorem f_val (h : SndF g E H0 X e m) : Snd g E H0 X false e m := weak h fun σ H Q ⟨w, σI, B, s, p⟩ => ⟨w, σI, B, s, PostF.of p⟩
theorem PostF.newL {ds : List D} {vs : List V} {p : Addr} {B : Bs} (s : S0 g H0 w σI B σ H) (h : PostF g E w H Q (.ok (.lst ds) B)) (r : Reps g w ds vs) (hp : H p = Option.none) : Q (.ref p) (upd H p (.lst vs)) :=
  h w p _ _ (Ext.lay hp) (s.rb.lay hp) upd_same (by simp only [Cont]; exact ⟨vs, rfl, r⟩) hp (s.rb.fresh_P hp) (s.rb.fresh_io hp) (by simp)
theorem tIs_bindF {m : Evs} {f : List D → Bs → Rs D} {B : Bs} {Q1 : List V → Hp → Prop} (s : S0 g H0 w σI B σ H) (p : PostF g E w H Q ((m σI B).bind f))
    (ho : ∀ d B1 w1 v H1, Ext w H w1 H1 → S0 g H0 w1 σI B1 σ H1 → Reps g w1 d v → PostF g E w1 H1 Q (f d B1) → Q1 v H1) : tIs g E H0 m σ H Q1 := by
  refine tIs_go s (fun c x B1 q => ?_) (fun q => ?_) fun d B1 q w1 v H1 x s1 r => ?_
  · rw [q] at p; exact p
  · rw [q] at p; exact p
  · rw [q] at p; exact ho d B1 w1 v H1 x s1 r (PostF.ext x p)
variable {es : List Expr} {ms : Evs} {pos : Pos}
def szL (ds : List D) : Bool := decide (ds.length ≤ sizeLine)
def mTup (ms : Evs) : Ev := fun σI B => (ms σI B).bind fun ds B1 => if szL ds then .ok (.tup ds) B1 else .bad
def mLst (ms : Evs) : Ev := fun σI B => (ms σI B).bind fun ds B1 => if szL ds then .ok (.lst ds) B1 else .bad
/-- (a, b, ..): what is made has no dict -/
def tTupN (t : TA) : TE := fun σ H Q => t σ H fun xs H1 => xs.length ≤ sizeLine ∧ ∀ p (ob : Obj), H1 p = Option.none → ob.dict = Option.none → Q (.ref p) (upd H1 p (.frz ob (.tup xs)))
theorem pe_tupN {t : TA} {x1} (h : PA X es t) : PE X (.Tuple es x1 pos) (tTupN t) := by
  refine ⟨fun pins s σ H Q I h0 => ?_⟩
  refine wpAny_Tuple_spliced (thn (h.run pos pins s σ H _ I h0) fun ws s1 ⟨xs, H1, I1, r, z, q⟩ => ⟨by rw [← r.length]; exact z, ?_⟩)
  exact ⟨.ref s1.heap.objs.size, upd H1 s1.heap.objs.size _, I1.laid (t' := s1.toks) (o := .frz { cls := .type "tuple", data := .seq ws.toArray } (.tup xs)) (fun c oc qc => Heap.get?_push_of_some _ qc) (Nat.le_refl _)
    (frz_tup z r (Heap.get?_push_size _ rfl)), rfl, q _ _ (I1.hok.fresh (Nat.le_refl _)) rfl⟩
theorem s_tup {x1} (h : Snds g E H0 X es ms) : Snd g E H0 X false (.Tuple es x1 pos) (mTup ms) := by
  refine weak (pe_tupN h) ?_
  rintro σ H Q ⟨w, σI, B, s, p⟩
  refine tIs_bind s p fun ds B1 w1 vs H1 x1 s1 r1 p1 => ?_
  split at p1
  · rename_i hl
    exact ⟨by rw [r1.len]; exact of_decide_eq_true hl, fun q ob hq ho => p1.newT s1 r1 hq ho⟩
  · exact p1.elim
theorem f_lst (h : Snds g E H0 X es ms) : SndF g E H0 X (.List es pos) (mLst ms) := by
  refine weak (pe_lst h) ?_
  rintro σ H Q ⟨w, σI, B, s, p⟩
  refine tIs_bindF s p fun ds B1 w1 vs H1 x1 s1 r1 p1 => ?_
  split at p1
  · rename_i hl
    exact ⟨by rw [r1.len]; exact of_decide_eq_true hl, fun q hq => p1.newL s1 r1 hq⟩
  · exact p1.elim
theorem s_lst (h : Snds g E H0 X es ms) : Snd g E H0 X false (.List es pos) (mLst ms) := f_val (f_lst h)
end

/-! ### subscripts -/
def okIf (o : Option D) (B : Bs) : Rs D := match o with
  | some d => .ok d B
  | Option.none => .bad
def fIx : D → D → Bs → Rs D
  | .lst ds, .int i, B => okIf (atI ds i) B
  | .scr ds, .int i, B => okIf (atI ds i) B
  | .tup ds, .int i, B => okIf (atI ds i) B
  | .str z, .int i, B => if z.length ≤ sizeLine then okIf ((atI z.cps.toList i).map fun c => .str ⟨#[c]⟩) B else .bad
  | .box n, .int i, B => match B[n]? with
    | some (.lst ds) => okIf (atI ds i) B
    | _ => .bad
  | _, _, _ => .bad
theorem okIf_go {g : Gs} {E : XK} {w : Wd} {H : Hp} {σI : Sl} {σ : L2.St} {Q : VK} {o : Option D} {B : Bs} (p : PostE g E w H σI σ false Q (okIf o B)) : ∃ d, o = some d ∧ PostE g E w H σI σ false Q (.ok d B) := by
  cases o with
  | none => exact p.elim
  | some d => exact ⟨d, rfl, p⟩
theorem Reps.atI {g : Gs} {w : Wd} {ds : List D} {vs : List V} {i : Int} {d : D} (r : Reps g w ds vs) (e : L2.atI ds i = some d) : ∃ v, L2.atI vs i = some v ∧ Rep g w d v := by
  unfold L2.atI at e ⊢
  rw [r.len]
  cases h : ixN ds.length i with
  | none => rw [h] at e; cases e
  | some j =>
    rw [h] at e
    exact Reps.get r e
theorem os_ix {g : Gs} {E : XK} {H0 : Hp} : OpSem g E H0 (rIx g.K) fIx := by
  intro w σI B σ H Q x y dx dy s rx ry p
  unfold fIx at p
  split at p
  · obtain ⟨d, e, p⟩ := okIf_go p
    obtain ⟨a, vs, rfl, q, r⟩ := rx.lst s
    obtain ⟨v, e2, rv⟩ := r.atI e
    exact .inl ⟨a, vs, _, v, rfl, ry.int s, .inl (.inl q), e2, p.nowR s rv⟩
  · obtain ⟨d, e, p⟩ := okIf_go p
    obtain ⟨a, vs, rfl, q, r⟩ := rx.scr s
    obtain ⟨v, e2, rv⟩ := r.atI e
    exact .inl ⟨a, vs, _, v, rfl, ry.int s, q, e2, p.nowR s rv⟩
  · obtain ⟨d, e, p⟩ := okIf_go p
    obtain ⟨a, vs, rfl, q, r⟩ := rx.tup s
    obtain ⟨v, e2, rv⟩ := r.atI e
    exact .inr (.inl ⟨a, vs, _, v, rfl, ry.int s, q, e2, p.nowR s rv⟩)
  · split at p
    · rename_i hl
      obtain ⟨d, e, p⟩ := okIf_go p
      obtain ⟨c, e1, rfl⟩ := Option.map_eq_some_iff.mp e
      exact .inr (.inr ⟨_, _, c, rx.str s, ry.int s, hl, e1, p.nowR s (rep_str g w _)⟩)
    · exact p.elim
  · split at p
    · rename_i n i ds hb
      obtain ⟨d, e, p⟩ := okIf_go p
      obtain ⟨a, rfl, ha⟩ := rx.box s
      obtain ⟨a', o, h1, h2, c⟩ := s.rb.get _ _ hb
      rw [ha] at h1; cases h1
      simp only [Cont] at c
      obtain ⟨vs, rfl, r⟩ := c
      obtain ⟨v, e2, rv⟩ := r.atI e
      exact .inl ⟨a, vs, _, v, rfl, ry.int s, .inl (.inl h2), e2, p.nowR s rv⟩
    · exact p.elim
  · exact p.elim
section
variable {g : Gs} {E : XK} {H0 : Hp} {X : Cx} {a b e : Expr} {ma mb m ml mh : Ev} {pos p2 : Pos} {b1 b2 b3 : Bool}
theorem s_ix (k : Ok g X) (ha : Snd g E H0 X b1 a ma) (hb : Snd g E H0 X b2 b mb) (hs : PlainIx b := by exact fun _ _ => rfl) : Snd g E H0 X false (.Subscript a b pos) (mBin fIx ma mb) := weak (pe_ix (k.K ▸ ix_seq) ha hb hs) (tOp_of os_ix)
/-! ### slices -/
def asI (d : D) (B : Bs) : Rs Int := match d with
  | .int i => .ok i B
  | _ => .bad
end

/-! ### built-in functions -/
/-- a built-in by values: one argument -/
def One (g : Gs) (E : XK) (H0 : Hp) (X : Cx) (f : Value) (k : D → Bs → Rs D) : Prop := ∃ r, CallR X f r ∧ ∀ (w : Wd) (σI : Sl) (B : Bs) (σ : L2.St) (H : Hp) (Q : VK) (x : V) (d : D),
  S0 g H0 w σI B σ H → RepO g w σI σ d x → PostE g E w H σI σ false Q (k d B) → r [x] H Q
def Two (g : Gs) (E : XK) (H0 : Hp) (X : Cx) (f : Value) (k : D → D → Bs → Rs D) : Prop := ∃ r, CallR X f r ∧ ∀ (w : Wd) (σI : Sl) (B : Bs) (σ : L2.St) (H : Hp) (Q : VK) (x y : V) (d e : D),
  S0 g H0 w σI B σ H → RepO g w σI σ d x → RepO g w σI σ e y → PostE g E w H σI σ false Q (k d e B) → r [x, y] H Q
section
variable {g : Gs} {E : XK} {H0 : Hp} {X : Cx} {a b e : Expr} {ma mb m : Ev} {pos p1 : Pos} {b1 b2 : Bool} {x : Str} {id T : String} {k : D → Bs → Rs D} {k2 : D → D → Bs → Rs D}
def m1 (k : D → Bs → Rs D) (m : Ev) : Ev := fun σI B => (m σI B).bind k
theorem one_go {r : List V → Hp → VK → Prop} (hr : ∀ (w : Wd) (σI : Sl) (B : Bs) (σ : L2.St) (H : Hp) (Q : VK) (x : V) (d : D), S0 g H0 w σI B σ H → RepO g w σI σ d x → PostE g E w H σI σ false Q (k d B) → r [x] H Q) :
    ∀ σ H Q, tI g E H0 false (m1 k m) σ H Q → tCB r (tCons (tI g E H0 b1 m) tNil) σ H Q := by
  rintro σ H Q ⟨w, σI, B, s, p⟩
  exact tI_bind s p fun d B1 w1 v H1 x1 s1 r1 p1 => hr w1 σI B1 σ H1 Q v d s1 r1.up p1
theorem s_b1 (h : One g E H0 X (.builtin id) k) (hv : bootBuiltins x = some (.builtin id)) (hm : X.mg x = none) (he : Snd g E H0 X b1 e m) (hg : Gl X x := by rfl) (hn : x ≠ "__name__" := by decide) (hdb : (x == ("__debug__" : Str)) = false := by decide)
    (h1 : starEach (e :: []) X.env = (false, eval e X.env) :: starEach [] X.env := by rfl) : Snd g E H0 X false (.Call (.Name x p1) [e] [] pos) (m1 k m) := by
  obtain ⟨r, hc, hr⟩ := h
  exact weak (pe_callB hc hg hm hv (pa_cons he pa_nil h1) hn hdb h1 rfl) (one_go hr)
theorem s_b2 (h : Two g E H0 X (.builtin id) k2) (hv : bootBuiltins x = some (.builtin id)) (hm : X.mg x = none) (ha : Snd g E H0 X b1 a ma) (hb : Snd g E H0 X b2 b mb) (hg : Gl X x := by rfl) (hn : x ≠ "__name__" := by decide) (hdb : (x == ("__debug__" : Str)) = false := by decide)
    (h1 : starEach (a :: [b]) X.env = (false, eval a X.env) :: starEach [b] X.env := by rfl) (h2 : starEach (b :: []) X.env = (false, eval b X.env) :: starEach [] X.env := by rfl) (hpl : (backTo pos (starEach [b] X.env)).any (·.1) = false := by rfl) :
    Snd g E H0 X false (.Call (.Name x p1) [a, b] [] pos) (mBin k2 ma mb) := by
  obtain ⟨r, hc, hr⟩ := h
  refine weak (pe_callB hc hg hm hv (pa_cons ha (pa_cons hb pa_nil h2) h1) hn hdb h1 hpl) ?_
  rintro σ H Q ⟨w, σI, B, s, p⟩
  refine tI_bind s p fun d B1 w1 v H1 x1 s1 r1 p1 => ?_
  refine tI_bind s1 p1 fun d2 B2 w2 v2 H2 x2 s2 r2 p2 => ?_
  exact hr w2 σI B2 σ H2 Q v v2 d d2 s2 (r1.up.mono x2.le) r2.up p2

def fLen : D → Bs → Rs D
  | .str z, B => if z.length ≤ sizeLine then .ok (.int z.length) B else .bad
  | .tup ds, B => .ok (.int ds.length) B
  | .lst ds, B => .ok (.int ds.length) B
  | .scr ds, B => .ok (.int ds.length) B
  | .box n, B => match B[n]? with
    | some (.lst ds) => .ok (.int ds.length) B
    | _ => .bad
  | _, _ => .bad
theorem o_len (c : Ok g X) : One g E H0 X (.builtin "len") fLen := ⟨_, call_len, fun w σI B σ H Q x d s r p => by
  unfold fLen at p
  split at p
  · split at p
    · rename_i hl
      exact ⟨x, _, rfl, by rw [r.str s]; exact ⟨hl, rfl⟩, p.nowR s (rep_int g w _)⟩
    · exact p.elim
  · obtain ⟨a, vs, rfl, q, r⟩ := r.tup s
    exact ⟨_, _, rfl, .inr ⟨vs, c.K ▸ q, rfl⟩, by rw [r.len]; exact p.nowR s (rep_int g w _)⟩
  · obtain ⟨a, vs, rfl, q, r⟩ := r.lst s
    exact ⟨_, _, rfl, .inl ⟨vs, .inl (.inl q), rfl⟩, by rw [r.len]; exact p.nowR s (rep_int g w _)⟩
  · obtain ⟨a, vs, rfl, q, r⟩ := r.scr s
    exact ⟨_, _, rfl, .inl ⟨vs, c.K ▸ q, rfl⟩, by rw [r.len]; exact p.nowR s (rep_int g w _)⟩
  · split at p
    · rename_i n ds hb
      obtain ⟨a, rfl, ha⟩ := r.box s
      obtain ⟨a', o, h1, h2, c⟩ := s.rb.get _ _ hb
      rw [ha] at h1; cases h1
      simp only [Cont] at c
      obtain ⟨vs, rfl, r⟩ := c
      exact ⟨_, _, rfl, .inl ⟨vs, .inl (.inl h2), rfl⟩, by rw [r.len]; exact p.nowR s (rep_int g w _)⟩
    · exact p.elim
  · exact p.elim⟩
abbrev fMax2 := fI2 (fun i j => .int (if j > i then j else i)) fun _ _ => true
abbrev fMin2 := fI2 (fun i j => .int (if j < i then j else i)) fun _ _ => true
theorem o_max2 (c : Ok g X) : Two g E H0 X (.builtin "max") fMax2 := ⟨_, call_max2 c.calm, fun w σI B σ H Q x y d e s r1 r2 p => by
  cases d <;> first | exact p.elim | skip
  cases e <;> first | exact p.elim | skip
  exact ⟨_, _, by rw [r1.int s, r2.int s], PostE.nowR s p (rep_int g w _)⟩⟩
theorem o_min2 (c : Ok g X) : Two g E H0 X (.builtin "min") fMin2 := ⟨_, call_min2 c.calm, fun w σI B σ H Q x y d e s r1 r2 p => by
  cases d <;> first | exact p.elim | skip
  cases e <;> first | exact p.elim | skip
  exact ⟨_, _, by rw [r1.int s, r2.int s], PostE.nowR s p (rep_int g w _)⟩⟩
end
end Hf

set_option Elab.async false
set_option linter.all false
set_option maxRecDepth 100000
set_option maxHeartbeats 4000000
namespace Hf
open PySem PySem.Spec PyProof.Rows L2

/-! ### statements -/
inductive Ss where
  | next (σ : Sl) (B : Bs) | ret (d : D) (B : Bs) | exc (c : Nat) (x : Option D) (B : Bs) | bad
abbrev Ms := Sl → Bs → Ss
def Ss.seq (m : Ss) (k : Ms) : Ss := match m with
  | .next σ B => k σ B
  | .ret d B => .ret d B
  | .exc c x B => .exc c x B
  | .bad => .bad
def Rs.st {α : Type} (m : Rs α) (k : α → Bs → Ss) : Ss := match m with
  | .ok a B => k a B
  | .exc c x B => .exc c x B
  | .bad => .bad
def PostS (g : Gs) (E : XK) (w0 : Wd) (H0 : Hp) (w : Wd) (D : Ends) : Ss → Prop
  | .next σI B => ∀ w' σ H, Le w w' → S0 g H0 w' σI B σ H → Ext w0 H0 w' H → D.nx σ H
  | .ret d B => ∀ w v H, RB g w B H → Ext w0 H0 w H → Rep g w d v → D.rt v H
  | .exc c x B => ∀ w cls dd H, RB g w B H → Ext w0 H0 w H → ExcR g w c x cls dd H → E cls dd H
  | .bad => False
def tS (g : Gs) (E : XK) (w0 : Wd) (H0 : Hp) (m : Ms) : TS := fun D σ H => ∃ w σI B, S0 g H0 w σI B σ H ∧ Ext w0 H0 w H ∧ PostS g E w0 H0 w D (m σI B)
abbrev SndS (g : Gs) (E : XK) (w0 : Wd) (H0 : Hp) (X : Cx) (st : Stmt) (m : Ms) : Prop := PS X st (tS g E w0 H0 m)
abbrev SndB (g : Gs) (E : XK) (w0 : Wd) (H0 : Hp) (X : Cx) (st : List Stmt) (m : Ms) : Prop := PSs X st (tS g E w0 H0 m)
theorem weakS {X : Cx} {e : Stmt} {t t' : TS} (h : PS X e t) (k : ∀ D σ H, t' D σ H → t D σ H) : PS X e t' := ⟨fun pins s σ H Q I q => h.run pins s σ H Q I (k Q σ H q)⟩
theorem weakB {X : Cx} {e : List Stmt} {t t' : TS} (h : PSs X e t) (k : ∀ D σ H, t' D σ H → t D σ H) : PSs X e t' := ⟨fun pins s σ H Q I q => h.run pins s σ H Q I (k Q σ H q)⟩

section
variable {g : Gs} {E : XK} {w0 w w1 : Wd} {H H0 H1 : Hp} {σI : Sl} {σ : L2.St} {B : Bs} {bo : Bool} {Q : VK} {D : Ends}
theorem PostS.le (l : Le w w1) : ∀ {m : Ss}, PostS g E w0 H0 w D m → PostS g E w0 H0 w1 D m
  | .next _ _, h => fun w' σ H l' s x => h w' σ H (l.trans l') s x
  | .ret _ _, h => h
  | .exc _ _ _, h => h
  | .bad, h => h
/-- an expression at the head of a statement -/
theorem st_go {m : Ev} {f : Hf.D → Bs → Ss} {Q1 : VK} (s : S0 g H0 w σI B σ H) (x0 : Ext w0 H0 w H) (p : PostS g E w0 H0 w D ((m σI B).st f))
    (ho : ∀ d B1 w1 v H1, Ext w0 H0 w1 H1 → Ext w H w1 H1 → S0 g H0 w1 σI B1 σ H1 → RepB g w1 σI σ bo d v → PostS g E w0 H0 w1 D (f d B1) → Q1 v H1) : tI g E H0 bo m σ H Q1 := by
  refine tI_go s (fun c x B1 q => ?_) (fun q => ?_) fun d B1 q w1 v H1 x s1 r => ?_
  · rw [q] at p; exact fun w' cls dd H' x' rb r => p w' cls dd H' rb (x0.trans x') r
  · rw [q] at p; exact p
  · rw [q] at p; exact ho d B1 w1 v H1 (x0.trans x) x s1 r (PostS.le x.le p)
theorem st_goT {m : Et} {f : Bool → Bs → Ss} {Q1 : Bool → Hp → Prop} (s : S0 g H0 w σI B σ H) (x0 : Ext w0 H0 w H) (p : PostS g E w0 H0 w D ((m σI B).st f))
    (ho : ∀ d B1 w1 H1, Ext w0 H0 w1 H1 → S0 g H0 w1 σI B1 σ H1 → PostS g E w0 H0 w1 D (f d B1) → Q1 d H1) : tIt g E H0 m σ H Q1 := by
  refine tIt_go s (fun c x B1 q => ?_) (fun q => ?_) fun d B1 q w1 H1 x s1 => ?_
  · rw [q] at p; exact fun w' cls dd H' x' rb r => p w' cls dd H' rb (x0.trans x') r
  · rw [q] at p; exact p
  · rw [q] at p; exact ho d B1 w1 H1 (x0.trans x) s1 (PostS.le x.le p)
theorem st_goF {m : Ev} {f : Hf.D → Bs → Ss} {Q1 : VK} (s : S0 g H0 w σI B σ H) (x0 : Ext w0 H0 w H) (p : PostS g E w0 H0 w D ((m σI B).st f))
    (ho : ∀ d B1 w1 a o H1, Ext w0 H0 w1 H1 → Ext w H w1 H1 → S0 g H0 w1 σI B1 σ H1 → H1 a = some o → Cont g w1 d a o → H a = Option.none → w1.P a = Option.none → (∀ n, w1.io n ≠ some a) → (∀ c ds, d ≠ .inst c ds) → PostS g E w0 H0 w1 D (f d B1) → Q1 (.ref a) H1) : tF g E H0 m σ H Q1 := by
  refine ⟨w, σI, B, s, ?_⟩
  cases q : m σI B with
  | ok d B1 =>
    rw [q] at p
    exact fun w1 a o H1 x rb e c n pp i z => ho d B1 w1 a o H1 (x0.trans x) x (s.step x rb) e c n pp i z (PostS.le x.le p)
  | exc c x B1 =>
    rw [q] at p
    exact fun w' cls dd H' x' rb r => p w' cls dd H' rb (x0.trans x') r
  | bad => rw [q] at p; exact p

/-! slots -/
theorem get_set {α : Type} {l : List α} {i j : Nat} {a b : α} (h : (l.set i a)[j]? = some b) : (i = j ∧ a = b ∧ i < l.length) ∨ (i ≠ j ∧ l[j]? = some b) := by
  by_cases e : i = j
  · subst e
    by_cases hl : i < l.length
    · rw [List.getElem?_set_self hl] at h; exact .inl ⟨rfl, Option.some.inj h, hl⟩
    · rw [List.getElem?_eq_none (by simp; omega)] at h; cases h
  · rw [List.getElem?_set_ne e] at h; exact .inr ⟨e, h⟩
theorem S0.set {d : Hf.D} {v : V} (s : S0 g H0 w σI B σ H) (i : Nat) (r : Rep g w d v) : S0 g H0 w (σI.set i (some (false, d))) B (σ.set i (some v)) H where
  rb := s.rb
  len := by simp [s.len]
  sl := fun j e h => by
    rcases get_set h with ⟨rfl, h1, h2⟩ | ⟨h1, h2⟩
    · cases h1
      exact ⟨v, by rw [List.getElem?_set_self (by rw [← s.len]; exact h2)], r⟩
    · obtain ⟨u, e1, e2⟩ := s.sl j e h2
      exact ⟨u, by rw [List.getElem?_set_ne h1]; exact e1, e2⟩
  ow := fun j e h => by
    rcases get_set h with ⟨rfl, h1, h2⟩ | ⟨h1, h2⟩
    · cases h1
    · obtain ⟨a, o, e1, e2⟩ := s.ow j e h2
      exact ⟨a, o, by rw [List.getElem?_set_ne h1]; exact e1, e2⟩
  oi := fun j k e f a h1 h2 h3 h4 => by
    rcases get_set h1 with ⟨rfl, q, _⟩ | ⟨n1, q1⟩
    · cases q
    rcases get_set h2 with ⟨rfl, q, _⟩ | ⟨n2, q2⟩
    · cases q
    rw [List.getElem?_set_ne n1] at h3
    rw [List.getElem?_set_ne n2] at h4
    exact s.oi j k e f a q1 q2 h3 h4
  me := fun j c ds b h1 h2 => by
    rcases get_set h1 with ⟨rfl, q, _⟩ | ⟨n1, q1⟩
    · cases q
    rw [List.getElem?_set_ne n1] at h2
    exact s.me j c ds b q1 h2
theorem S0.own_ne {j : Nat} {e : Hf.D} {a : Addr} (s : S0 g H0 w σI B σ H) (h : σI[j]? = some (some (true, e))) (n : H a = Option.none) : σ[j]? ≠ some (some (.ref a)) := fun z => by
  obtain ⟨b, o, e1, e2, _⟩ := s.ow j e h
  rw [z] at e1; cases e1; rw [n] at e2; cases e2
theorem S0.setO {d : Hf.D} {a : Addr} {o : HO} (s : S0 g H0 w σI B σ H) (i : Nat) (e : H a = some o) (c : Cont g w d a o) (np : w.P a = Option.none) (nb : ∀ n, w.io n ≠ some a) (n0 : H0 a = Option.none)
    (nw : ∀ (j : Nat) (e : Hf.D), σI[j]? = some (some (true, e)) → σ[j]? ≠ some (some (V.ref a))) (z : ∀ c ds, d ≠ .inst c ds) : S0 g H0 w (σI.set i (some (true, d))) B (σ.set i (some (.ref a))) H where
  rb := s.rb
  len := by simp [s.len]
  sl := fun j f h => by
    rcases get_set h with ⟨rfl, h1, h2⟩ | ⟨h1, h2⟩
    · cases h1
    · obtain ⟨u, e1, e2⟩ := s.sl j f h2
      exact ⟨u, by rw [List.getElem?_set_ne h1]; exact e1, e2⟩
  ow := fun j f h => by
    rcases get_set h with ⟨rfl, h1, h2⟩ | ⟨h1, h2⟩
    · cases h1
      exact ⟨a, o, by rw [List.getElem?_set_self (by rw [← s.len]; exact h2)], e, c, np, nb, n0⟩
    · obtain ⟨b, u, e1, e2⟩ := s.ow j f h2
      exact ⟨b, u, by rw [List.getElem?_set_ne h1]; exact e1, e2⟩
  oi := fun j k f f' b h1 h2 h3 h4 => by
    rcases get_set h1 with ⟨rfl, q, l⟩ | ⟨n1, q1⟩
    · rcases get_set h2 with ⟨rfl, q', l'⟩ | ⟨n2, q2⟩
      · rfl
      · rw [List.getElem?_set_self (by rw [← s.len]; exact l)] at h3
        rw [List.getElem?_set_ne n2] at h4
        cases h3
        exact (nw k f' q2 h4).elim
    · rcases get_set h2 with ⟨rfl, q', l'⟩ | ⟨n2, q2⟩
      · rw [List.getElem?_set_self (by rw [← s.len]; exact l')] at h4
        rw [List.getElem?_set_ne n1] at h3
        cases h4
        exact (nw j f q1 h3).elim
      · rw [List.getElem?_set_ne n1] at h3
        rw [List.getElem?_set_ne n2] at h4
        exact s.oi j k f f' b q1 q2 h3 h4
  me := fun j c ds b h1 h2 => by
    rcases get_set h1 with ⟨rfl, q, _⟩ | ⟨n1, q1⟩
    · cases q; exact (z _ _ rfl).elim
    rw [List.getElem?_set_ne n1] at h2
    exact s.me j c ds b q1 h2
theorem set_same {l : L2.St} {i : Nat} {x : Option V} (h : l[i]? = some x) : l.set i x = l := by
  apply List.ext_getElem?
  intro j
  by_cases e : i = j
  · subst e
    rw [List.getElem?_set_self (by
      have := (List.getElem?_eq_some_iff.mp h).1
      exact this), h]
  · rw [List.getElem?_set_ne e]
/-- a name's own container is changed -/
theorem S0.mut {d d' : Hf.D} {a : Addr} {o' : HO} {i : Nat} (s : S0 g H0 w σI B σ H) (h : σI[i]? = some (some (true, d))) (hi : σ[i]? = some (some (.ref a))) (c : Cont g w d' a o') (hm : ∀ c ds, d' = .inst c ds → ∃ c' ds', d = .inst c' ds') : S0 g H0 w (σI.set i (some (true, d'))) B σ (upd H a o') := by
  obtain ⟨a', o, e1, ha, cd, np, nb, n0⟩ := s.ow i d h
  rw [hi] at e1; cases e1
  have hP : ∀ b u, w.P b = some u → b ≠ a := fun b u e z => by subst z; rw [np] at e; cases e
  refine ⟨⟨fun b u e => by rw [upd_ne (hP b u e)]; exact s.rb.sub b u e, fun n b e => ?_, s.rb.inj, s.rb.np, s.rb.dom, tabs_upd s.rb.tb fun u q => by rw [ha] at q; cases q; exact cd.nt, s.rb.nt⟩, by simp [s.len], fun j e q => ?_, fun j e q => ?_, fun j k e f b h1 h2 h3 h4 => ?_, fun j c ds b h1 h2 => ?_⟩
  · obtain ⟨b', u, h1, h2, h3⟩ := s.rb.get n b e
    exact ⟨b', u, h1, by rw [upd_ne (fun z => nb n (by rw [← z]; exact h1))]; exact h2, h3⟩
  · rcases get_set q with ⟨rfl, h1, h2⟩ | ⟨h1, h2⟩
    · cases h1
    · exact s.sl j e h2
  · rcases get_set q with ⟨rfl, h1, h2⟩ | ⟨h1, h2⟩
    · cases h1
      exact ⟨a, o', hi, upd_same, c, np, nb, n0⟩
    · obtain ⟨b, u, e1, e2, e3⟩ := s.ow j e h2
      refine ⟨b, u, e1, ?_, e3⟩
      rw [upd_ne (fun z => h1 (s.oi i j d e a h h2 hi (by rw [← z]; exact e1)))]
      exact e2
  · rcases get_set h1 with ⟨rfl, q, l⟩ | ⟨n1, q1⟩
    · rcases get_set h2 with ⟨rfl, q', l'⟩ | ⟨n2, q2⟩
      · rfl
      · exact s.oi _ _ _ _ b h q2 h3 h4
    · rcases get_set h2 with ⟨rfl, q', l'⟩ | ⟨n2, q2⟩
      · exact s.oi _ _ _ _ b q1 h h3 h4
      · exact s.oi _ _ _ _ b q1 q2 h3 h4
  · rcases get_set h1 with ⟨rfl, q, _⟩ | ⟨n1, q1⟩
    · cases q
      obtain ⟨c', ds', rfl⟩ := hm _ _ rfl
      exact s.me _ c' ds' b h h2
    · exact s.me j c ds b q1 h2
theorem Ext.mut {a : Addr} {o : HO} (x : Ext w0 H0 w H) (n0 : H0 a = Option.none) : Ext w0 H0 w (upd H a o) where
  le := x.le
  keep := fun b u h hn ht => by rw [upd_ne (ne_of_none h n0)]; exact x.keep b u h hn ht
  pf := x.pf
  iof := x.iof
  there := fun b h z => by
    by_cases e : b = a
    · subst e; exact h n0
    · rw [upd_ne e] at z; exact x.there b h z
  me := x.me
/-- .. a box -/
theorem Ext.mutB {n : Nat} {a : Addr} {o : HO} (x : Ext w0 H0 w H) (hn : w.io n = some a) : Ext w0 H0 w (upd H a o) where
  le := x.le
  keep := fun b u h hb ht => by
    have e : b ≠ a := fun z => by
      subst z
      rcases x.iof n b hn with q | q
      · exact hb n q
      · rw [h] at q; cases q
    rw [upd_ne e]; exact x.keep b u h hb ht
  pf := x.pf
  iof := x.iof
  there := fun b h z => by
    by_cases e : b = a
    · subst e; rw [upd_same] at z; cases z
    · rw [upd_ne e] at z; exact x.there b h z
  me := x.me
theorem RB.mut {n : Nat} {a : Addr} {o' : HO} {d' : Hf.D} (rb : RB g w B H) (hn : w.io n = some a) (c : Cont g w d' a o') : RB g w (B.set n d') (upd H a o') where
  sub := fun b u e => by
    rw [upd_ne (fun z => by subst z; rw [rb.np n b hn] at e; cases e)]; exact rb.sub b u e
  get := fun m b e => by
    rcases get_set e with ⟨rfl, rfl, _⟩ | ⟨h1, h2⟩
    · exact ⟨a, o', hn, upd_same, c⟩
    · obtain ⟨b', u, e1, e2, e3⟩ := rb.get m b h2
      exact ⟨b', u, e1, by rw [upd_ne (fun z => h1 (rb.inj n m a hn (by rw [← z]; exact e1)))]; exact e2, e3⟩
  inj := rb.inj
  np := rb.np
  dom := fun m b e => by rw [List.length_set]; exact rb.dom m b e
  tb := tabs_upd rb.tb fun u e => by
    obtain ⟨b, hb⟩ : ∃ b, B[n]? = some b := ⟨_, List.getElem?_eq_getElem (rb.dom n a hn)⟩
    obtain ⟨a', o, h1, h2, h3⟩ := rb.get n b hb
    rw [hn] at h1; cases h1
    rw [e] at h2; cases h2
    exact h3.nt
  nt := rb.nt
theorem S0.mutB {n : Nat} {a : Addr} {o' : HO} {d' : Hf.D} (s : S0 g H0 w σI B σ H) (hn : w.io n = some a) (c : Cont g w d' a o') : S0 g H0 w σI (B.set n d') σ (upd H a o') where
  rb := s.rb.mut hn c
  len := s.len
  sl := s.sl
  ow := fun i d h => by
    obtain ⟨b, u, e1, e2, e3, e4, e5, e6⟩ := s.ow i d h
    exact ⟨b, u, e1, by rw [upd_ne (fun z => e5 n (by rw [z]; exact hn))]; exact e2, e3, e4, e5, e6⟩
  oi := s.oi
  me := s.me
/-- a name's own container is from now on data -/
def frz (i : Nat) (σI : Sl) : Option Sl := match σI[i]? with
  | some (some (true, .inst _ _)) => Option.none
  | some (some (_, d)) => some (σI.set i (some (false, d)))
  | _ => Option.none
theorem S0.frz {i : Nat} {σI' : Sl} (s : S0 g H0 w σI B σ H) (x0 : Ext w0 H0 w H) (h : Hf.frz i σI = some σI') : ∃ w', Le w w' ∧ S0 g H0 w' σI' B σ H ∧ Ext w0 H0 w' H := by
  unfold Hf.frz at h
  split at h
  · cases h
  · rename_i k d hi hz
    cases h
    cases k with
    | false =>
      obtain ⟨v, e, r⟩ := s.sl i d hz
      refine ⟨w, Le.refl _, ?_, x0⟩
      have := s.set i r
      rw [set_same e] at this
      exact this
    | true =>
      obtain ⟨a, o, e1, ha, c, np, nb, n0⟩ := s.ow i d hz
      have l := regLe w (o := o) np
      refine ⟨regW w a o, l, ⟨s.rb.keep l rfl (fun b u h => ?_) (Same.refl _) (fun n b h => ?_) (nt_reg s.rb.nt c.nt.t), by simp [s.len], fun j e h => ?_, fun j e h => ?_, fun j k e f b h1 h2 h3 h4 => ?_, fun j c' ds' b h1 h2 => ?_⟩, ⟨x0.le.trans l, x0.keep, fun b u h => ?_, x0.iof, x0.there, x0.me⟩⟩
      · by_cases hb : b = a
        · subst hb
          have h : upd w.P b o b = some u := h
          rw [upd_same] at h; cases h; exact ha
        · have h : upd w.P a o b = some u := h
          rw [upd_ne hb] at h
          exact s.rb.sub b u h
      · show upd w.P a o b = Option.none
        rw [upd_ne (fun z => nb n (by rw [← z]; exact h))]
        exact s.rb.np n b h
      · rcases get_set h with ⟨rfl, h1, h2⟩ | ⟨h1, h2⟩
        · cases h1
          refine ⟨_, e1, (c.mono l).rep upd_same fun c ds z => ?_⟩
          subst z
          exact hi _ _ rfl rfl
        · obtain ⟨v, e2, r⟩ := s.sl j e h2
          exact ⟨v, e2, Rep.mono l _ _ r⟩
      · rcases get_set h with ⟨rfl, h1, h2⟩ | ⟨h1, h2⟩
        · cases h1
        · obtain ⟨b, u, e2, e3, e4, e5, e6, e7⟩ := s.ow j e h2
          have hb : b ≠ a := fun z => h1 (s.oi i j d e a hz h2 e1 (by rw [← z]; exact e2))
          exact ⟨b, u, e2, e3, e4.mono l, (by show upd w.P a o b = Option.none; rw [upd_ne hb]; exact e5), e6, e7⟩
      · rcases get_set h1 with ⟨rfl, q, _⟩ | ⟨n1, q1⟩
        · cases q
        rcases get_set h2 with ⟨rfl, q, _⟩ | ⟨n2, q2⟩
        · cases q
        exact s.oi j k e f b q1 q2 h3 h4
      · rcases get_set h1 with ⟨rfl, q, _⟩ | ⟨n1, q1⟩
        · cases q
        exact s.me j c' ds' b q1 h2
      · by_cases hb : b = a
        · subst hb; exact .inr (.inl n0)
        · have h : upd w.P a o b = some u := h
          rw [upd_ne hb] at h
          exact x0.pf b u h
  · cases h
theorem Ext.none0 {a : Addr} (x : Ext w0 H0 w H) (n : H a = Option.none) : H0 a = Option.none := Classical.byContradiction fun q => x.there a q n
end

section
variable {g : Gs} {E : XK} {w0 : Wd} {H0 : Hp} {X : Cx} {st : Stmt} {rest sts sts2 : List Stmt} {m m1 m2 : Ms} {e a b c : Expr} {me ma mb : Ev} {ms : Evs} {mt : Et} {pos p1 p2 : Pos} {bo b1 b2 : Bool} {x : Str} {i j : Nat}
/-! blocks -/
def mSkip : Ms := fun σ B => .next σ B
def mSeq (m1 m2 : Ms) : Ms := fun σ B => (m1 σ B).seq m2
theorem b_nil : SndB g E w0 H0 X [] mSkip := weakB pss_nil fun D σ H ⟨w, σI, B, s, x, p⟩ => p w σ H (Le.refl _) s x
theorem b_one (h : SndS g E w0 H0 X st m) : SndB g E w0 H0 X [st] m := pss_one h
theorem b_cons (h1 : SndS g E w0 H0 X st m1) (h2 : SndB g E w0 H0 X rest m2) : SndB g E w0 H0 X (st :: rest) (mSeq m1 m2) := by
  refine weakB (pss_cons h1 h2) ?_
  rintro D σ H ⟨w, σI, B, s, x, p⟩
  refine ⟨w, σI, B, s, x, ?_⟩
  unfold mSeq at p
  revert p
  generalize m1 σI B = q
  intro p
  cases q with
  | next σ' B' => exact fun w' σ'' H' l' s' x' => ⟨w', σ', B', s', x', PostS.le l' p⟩
  | ret d B' => exact p
  | exc c y B' => exact p
  | bad => exact p
/-! simple statements -/
def mRet (m : Ev) : Ms := fun σ B => (m σ B).st fun d B1 => .ret d B1
theorem z_ret (h : Snd g E H0 X false e me) : SndS g E w0 H0 X (.Return (some e) pos) (mRet me) := by
  refine weakS (ps_ret h) ?_
  rintro D σ H ⟨w, σI, B, s, x, p⟩
  exact st_go s x p fun d B1 w1 v H1 x1 _ s1 r p1 => p1 w1 v H1 s1.rb x1 r
def mIf (t : Et) (m1 m2 : Ms) : Ms := fun σ B => (t σ B).st fun k B1 => if k then m1 σ B1 else m2 σ B1
theorem z_if (hc : SndT g E H0 X c mt) (ha : SndB g E w0 H0 X sts m1) (hb : SndB g E w0 H0 X sts2 m2) : SndS g E w0 H0 X (.If c sts sts2 pos) (mIf mt m1 m2) := by
  refine weakS (ps_if hc ha hb) ?_
  rintro D σ H ⟨w, σI, B, s, x, p⟩
  refine st_goT s x p fun k B1 w1 H1 x1 s1 p1 => ?_
  cases k with
  | true => exact ⟨w1, σI, B1, s1, x1, p1⟩
  | false => exact ⟨w1, σI, B1, s1, x1, p1⟩
/-! names stored -/
def mSet (i : Nat) (m : Ev) : Ms := fun σ B => (m σ B).st fun d B1 => .next (σ.set i (some (false, d))) B1
def mSetO (i : Nat) (m : Ev) : Ms := fun σ B => (m σ B).st fun d B1 => .next (σ.set i (some (true, d))) B1
theorem set_at {t : TE} (ht : t = tI g E H0 false me) {D : Ends} {σ : L2.St} {H : Hp} (h : tS g E w0 H0 (mSet i me) D σ H) : tAsg t (gName i) D σ H := by
  subst ht
  obtain ⟨w, σI, B, s, x, p⟩ := h
  exact st_go s x p fun d B1 w1 v H1 x1 _ s1 r p1 => p1 w1 _ H1 (Le.refl _) (s1.set i r) x1
theorem setO_at {D : Ends} {σ : L2.St} {H : Hp} (h : tS g E w0 H0 (mSetO i me) D σ H) : tAsg (tF g E H0 me) (gName i) D σ H := by
  obtain ⟨w, σI, B, s, x, p⟩ := h
  exact st_goF s x p fun d B1 w1 a o H1 x1 x2 s1 e c n pp io z p1 => p1 w1 _ H1 (Le.refl _) (s1.setO i e c pp io (x.none0 n) (fun j f hj => s.own_ne hj n) z) x1
theorem z_set (hN : X.N.Nodup) (h : Snd g E H0 X false e me) (hi : X.N[i]? = some x := by rfl) (hx : Loc X.env.scope x := by first | exact .inl rfl | exact .inr rfl) (hs : swapsWith e (some (.Name x p1)) pos.line X.env = pure false := by rfl) (hf : X.fn x = true := by rfl) :
    SndS g E w0 H0 X (.Assign [.Name x p1] e pos) (mSet i me) := weakS (ps_set hN hi hx h hs (.inl hf)) fun _ _ _ h => set_at rfl h
theorem z_setO (hN : X.N.Nodup) (h : SndF g E H0 X e me) (hi : X.N[i]? = some x := by rfl) (hx : Loc X.env.scope x := by first | exact .inl rfl | exact .inr rfl) (hs : swapsWith e (some (.Name x p1)) pos.line X.env = pure false := by rfl) (hf : X.fn x = true := by rfl) :
    SndS g E w0 H0 X (.Assign [.Name x p1] e pos) (mSetO i me) := weakS (ps_set hN hi hx h hs (.inl hf)) fun _ _ _ h => setO_at h
/-! targets -/
abbrev Tg := D → Sl → Option Sl
def tG (g : Gs) (H0 : Hp) (t : Tg) (sl : List Nat) : TG := fun v σ H Q => ∃ w d σI B σI', S0 g H0 w σI B σ H ∧ Rep g w d v ∧ t d σI = some σI' ∧ ∀ σ' : L2.St, S0 g H0 w σI' B σ' H → σ'.length = σ.length → (∀ j : Nat, j ∉ sl → σ'[j]? = σ[j]?) → Q σ' H
abbrev SndG (g : Gs) (H0 : Hp) (X : Cx) (e : Expr) (t : Tg) (sl : List Nat) : Prop := PG X e (tG g H0 t sl)
abbrev Tgs := List D → Sl → Option Sl
def tGs (g : Gs) (H0 : Hp) (t : Tgs) (sl : List Nat) : TGs := fun vs σ H Q => ∃ w ds σI B σI', S0 g H0 w σI B σ H ∧ Reps g w ds vs ∧ t ds σI = some σI' ∧ ∀ σ' : L2.St, S0 g H0 w σI' B σ' H → σ'.length = σ.length → (∀ j : Nat, j ∉ sl → σ'[j]? = σ[j]?) → Q σ' H
abbrev SndGs (g : Gs) (H0 : Hp) (X : Cx) (es : List Expr) (t : Tgs) (sl : List Nat) : Prop := PGs X es (tGs g H0 t sl)
theorem weakG {X : Cx} {e : Expr} {t t' : TG} (h : PG X e t) (k : ∀ v σ H Q, t' v σ H Q → t v σ H Q) : PG X e t' := ⟨fun pins s σ H v u Q I r q => h.run pins s σ H v u Q I r (k v σ H Q q)⟩
theorem weakGs {X : Cx} {e : List Expr} {t t' : TGs} (h : PGs X e t) (k : ∀ v σ H Q, t' v σ H Q → t v σ H Q) : PGs X e t' := ⟨fun pins s σ H v u Q I r q => h.run pins s σ H v u Q I r (k v σ H Q q)⟩
def gN (i : Nat) : Tg := fun d σ => some (σ.set i (some (false, d)))
theorem g_name (hN : X.N.Nodup) (hi : X.N[i]? = some x := by rfl) (hx : Loc X.env.scope x := by first | exact .inl rfl | exact .inr rfl) (hf : X.fn x = true ∨ X.env.scope.names.lookup x = some .local := by first | exact .inl rfl | exact .inr rfl) : SndG g H0 X (.Name x pos) (gN i) [i] :=
  weakG (pg_name hN hi hx hf) fun v σ H Q ⟨w, d, σI, B, σI', s, r, e, q⟩ => by cases e; exact q _ (s.set i r) (by simp) fun j hj => List.getElem?_set_ne (by simpa [eq_comm] using hj)
def gT (t : Tgs) : Tg := fun d σ => match d with
  | .tup ds => t ds σ
  | .prs ds => t ds σ
  | _ => Option.none
def gs0 : Tgs := fun ds σ => match ds with
  | [] => some σ
  | _ => Option.none
def gsC (t : Tg) (u : Tgs) : Tgs := fun ds σ => match ds with
  | d :: r => (t d σ).bind fun σ' => u r σ'
  | [] => Option.none
def gsN : Tgs → Nat → Prop := fun t n => ∀ ds σ σ', t ds σ = some σ' → ds.length = n
theorem gs_nil : SndGs g H0 X [] gs0 [] := weakGs pgs_nil fun vs σ H Q ⟨w, ds, σI, B, σI', s, r, e, q⟩ => by
  cases ds with
  | nil => simp only [Reps] at r; cases e; exact ⟨r, q σ s rfl fun _ _ => rfl⟩
  | cons d ds => cases e
theorem gs_cons {es : List Expr} {t : Tg} {u : Tgs} {l1 l2 : List Nat} (h1 : SndG g H0 X e t l1) (h2 : SndGs g H0 X es u l2) (hs : (assignEach (e :: es) X.env).map (·.2) = assign e X.env :: (assignEach es X.env).map (·.2) := by rfl) : SndGs g H0 X (e :: es) (gsC t u) (l1 ++ l2) :=
  weakGs (pgs_cons h1 h2 hs) fun vs σ H Q ⟨w, ds, σI, B, σI', s, r, e, q⟩ => by
  cases ds with
  | nil => cases e
  | cons d ds =>
    simp only [Reps] at r
    obtain ⟨v, us, rfl, r1, r2⟩ := r
    obtain ⟨σ1, e1, e2⟩ := Option.bind_eq_some_iff.mp e
    refine ⟨v, us, rfl, w, d, σI, B, σ1, s, r1, e1, fun σ' s' n' k' => ⟨w, ds, σ1, B, σI', s', r2, e2, fun σ2 s2 n2 k2 => q σ2 s2 (n2.trans n') fun j hj => ?_⟩⟩
    simp only [List.mem_append, not_or] at hj
    exact (k2 j hj.2).trans (k' j hj.1)
theorem n_nil : gsN gs0 0 := fun ds σ σ' h => by cases ds; rfl; cases h
theorem n_cons {t : Tg} {u : Tgs} {n : Nat} (h : gsN u n) : gsN (gsC t u) (n + 1) := fun ds σ σ' e => by
  cases ds with
  | nil => cases e
  | cons d ds =>
    obtain ⟨σ1, e1, e2⟩ := Option.bind_eq_some_iff.mp e
    simp [h _ _ _ e2]
theorem g_tup {es : List Expr} {k n : Nat} {t : Tgs} {l : List Nat} (c : Ok g X) (h : SndGs g H0 X es t l) (hn : gsN t n) (h1 : (assignEach es X.env).length = n := by rfl) (h2 : (assignEach es X.env).findIdx? (·.1) = none := by rfl) : SndG g H0 X (.Tuple es k pos) (gT t) l :=
  weakG (pg_tup c.calm h h1 h2) fun v σ H Q ⟨w, d, σI, B, σI', s, r, e, q⟩ => by
  cases d <;> first | cases e | skip
  · rename_i ds
    simp only [Rep] at r
    obtain ⟨a, vs, rfl, p, r⟩ := r
    exact ⟨a, vs, rfl, c.K ▸ sqT_mono s.rb.sub p.T, by rw [r.len]; exact hn _ _ _ e, w, ds, σI, B, σI', s, r, e, q⟩
  · rename_i ds
    simp only [Rep] at r
    obtain ⟨a, vs, rfl, p, r⟩ := r
    exact ⟨a, vs, rfl, c.K ▸ sqT_mono s.rb.sub p, by rw [r.len]; exact hn _ _ _ e, w, ds, σI, B, σI', s, r, e, q⟩
def mAsg (t : Tg) (m : Ev) : Ms := fun σ B => (m σ B).st fun d B1 => match t d σ with
  | some σ' => .next σ' B1
  | Option.none => .bad
theorem z_asg {tg : Expr} {t : Tg} {l : List Nat} (he : Snd g E H0 X false e me) (hg : SndG g H0 X tg t l) (hs : swapsWithSole [tg] e pos.line X.env = pure false := by rfl) (hw : swappedStores [tg] e X.env = pure none := by rfl)
    (h1 : (assignEach [tg] X.env).map (·.2) = [assign tg X.env] := by rfl) : SndS g E w0 H0 X (.Assign [tg] e pos) (mAsg t me) := by
  refine weakS (ps_asg he hg hs hw h1) ?_
  rintro D σ H ⟨w, σI, B, s, x, p⟩
  refine st_go s x p fun d B1 w1 v H1 x1 _ s1 r p1 => ?_
  split at p1
  · rename_i σ' e
    exact ⟨w1, d, σI, B1, σ', s1, r, e, fun σ2 s2 _ _ => p1 w1 σ2 H1 (Le.refl _) s2 x1⟩
  · exact p1.elim
end
end Hf

set_option Elab.async false
set_option linter.all false
set_option maxRecDepth 100000
set_option maxHeartbeats 4000000
namespace Hf
open PySem PySem.Spec PyProof.Rows L2

/-! ### what is walked -/
structure ItOk (g : Gs) (w : Wd) (J : It) (ds : List D) : Prop where
  go : ∀ i H, i < ds.length → Same w.P H → J.go i H
  stop : ∀ i H, i = ds.length → Same w.P H → J.stop i H
  yld : ∀ i H x H' d w1 B, ds[i]? = some d → Le w w1 → RB g w1 B H → J.yld i H x H' → ∃ w2, Ext w1 H w2 H' ∧ RB g w2 B H' ∧ Rep g w2 d x
def PostI (g : Gs) (E : XK) (w : Wd) (H : Hp) (R : It → Hp → Prop) : Rs (List D) → Prop
  | .ok ds B' => ∀ w' J H', Ext w H w' H' → RB g w' B' H' → ItOk g w' J ds → R J H'
  | .exc c x B' => ∀ w' cls dd H', Ext w H w' H' → RB g w' B' H' → ExcR g w' c x cls dd H' → E cls dd H'
  | .bad => False
abbrev Ei := Sl → Bs → Rs (List D)
def tIi (g : Gs) (E : XK) (H0 : Hp) (m : Ei) : TI := fun σ H R => ∃ w σI B, S0 g H0 w σI B σ H ∧ PostI g E w H R (m σI B)
abbrev SndI (g : Gs) (E : XK) (H0 : Hp) (X : Cx) (tg e : Expr) (m : Ei) : Prop := PI X tg e (tIi g E H0 m)
theorem weakI {X : Cx} {tg e : Expr} {t t' : TI} (h : PI X tg e t) (k : ∀ σ H R, t' σ H R → t σ H R) : PI X tg e t' := ⟨fun pins s σ H R I q => h.run pins s σ H R I (k σ H R q)⟩
section
variable {g : Gs} {E : XK} {H0 : Hp} {w w1 : Wd} {H H1 : Hp} {σI : Sl} {σ : L2.St} {bo bo1 : Bool} {B : Bs}
theorem PostI.ext {R : It → Hp → Prop} (x : Ext w H w1 H1) : ∀ {m : Rs (List D)}, PostI g E w H R m → PostI g E w1 H1 R m
  | .ok _ _, h => fun w2 v2 H2 x2 rb2 r2 => h w2 v2 H2 (x.trans x2) rb2 r2
  | .exc _ _ _, h => fun w2 cls dd H2 x2 rb2 r2 => h w2 cls dd H2 (x.trans x2) rb2 r2
  | .bad, h => h
theorem tI_bindI {m : Ev} {f : D → Bs → Rs (List D)} {Q1 : VK} {R : It → Hp → Prop} (s : S0 g H0 w σI B σ H) (p : PostI g E w H R ((m σI B).bind f))
    (ho : ∀ d B1 w1 v H1, Ext w H w1 H1 → S0 g H0 w1 σI B1 σ H1 → RepB g w1 σI σ bo d v → PostI g E w1 H1 R (f d B1) → Q1 v H1) : tI g E H0 bo m σ H Q1 := by
  refine tI_go s (fun c x B1 q => ?_) (fun q => ?_) fun d B1 q w1 v H1 x s1 r => ?_
  · rw [q] at p; exact p
  · rw [q] at p; exact p
  · rw [q] at p; exact ho d B1 w1 v H1 x s1 r (PostI.ext x p)
end
theorem Rd.uniq {H : Hp} {a : Addr} {u v : HO} (h : Rd H a u) (h' : Rd H a v) (hu : ∀ o x, u ≠ .frz o x) (hv : ∀ o x, v ≠ .frz o x) : u = v := by
  rcases h with h | ⟨o, h⟩ <;> rcases h' with h' | ⟨o', h'⟩ <;> rw [h] at h' <;> cases h'
  · rfl
  · exact (hu _ _ rfl).elim
  · exact (hv _ _ rfl).elim
  · rfl
section
variable {g : Gs} {w : Wd} {K : PySem.W.Frag}
theorem it_scr {a : Addr} {vs : List V} {ds : List D} (hp : SqL K w.P a vs) (r : Reps g w ds vs) : ItOk g w (Itl K a) ds where
  go := fun i H hi hs => by
    obtain ⟨v, e, _⟩ := Reps.get r (List.getElem?_eq_getElem hi)
    exact ⟨vs, v, hs.seq hp, e⟩
  stop := fun i H hi hs => ⟨vs, hs.seq hp, by rw [r.len]; exact Nat.le_of_eq hi.symm⟩
  yld := fun i H x H' d w1 B e l rb y => by
    obtain ⟨rfl, y⟩ := y
    obtain ⟨v, e2, rv⟩ := Reps.get r e
    have q := y vs (rb.sub.seq (l.P.seq hp))
    rw [e2] at q; cases q
    exact ⟨w1, Ext.refl _ _, rb, Rep.mono l _ _ rv⟩
theorem it_tup {a : Addr} {vs : List V} {ds : List D} (hp : SqT K w.P a vs) (r : Reps g w ds vs) : ItOk g w (Itt K a) ds where
  go := fun i H hi hs => by
    obtain ⟨v, e, _⟩ := Reps.get r (List.getElem?_eq_getElem hi)
    exact ⟨vs, v, sqT_mono hs hp, e⟩
  stop := fun i H hi hs => ⟨vs, sqT_mono hs hp, by rw [r.len]; exact Nat.le_of_eq hi.symm⟩
  yld := fun i H x H' d w1 B e l rb y => by
    obtain ⟨rfl, y⟩ := y
    obtain ⟨v, e2, rv⟩ := Reps.get r e
    have q := y vs (sqT_mono rb.sub (sqT_mono l.P hp))
    rw [e2] at q; cases q
    exact ⟨w1, Ext.refl _ _, rb, Rep.mono l _ _ rv⟩
def rngD (lo : Int) (n : Nat) : List D := (List.range n).map fun i => .int (lo + (i : Nat))
theorem rngD_len (lo : Int) (n : Nat) : (rngD lo n).length = n := by simp [rngD]
theorem it_rng {lo : Int} {n : Nat} : ItOk g w (Itr lo n) (rngD lo n) where
  go := fun i H hi hs => by rw [rngD_len] at hi; exact hi
  stop := fun i H hi hs => by rw [rngD_len] at hi; exact Nat.le_of_eq hi.symm
  yld := fun i H x H' d w1 B e l rb y => by
    obtain ⟨rfl, rfl⟩ := y
    refine ⟨w1, Ext.refl _ _, rb, ?_⟩
    unfold rngD at e
    rw [List.getElem?_map] at e
    by_cases hi : i < n
    · rw [List.getElem?_range hi] at e
      cases e
      exact rep_int g w1 _
    · rw [List.getElem?_eq_none (by simp; omega)] at e; cases e
end
/-! ### sources: lists, tuples, texts -/
inductive Sk where
  | l (a : Addr) | t (a : Addr) | s (x : Str)
def Sk.v : Sk → V
  | .l a => .ref a
  | .t a => .ref a
  | .s x => .str x
def chV (x : Str) : List V := x.cps.toList.map fun c => V.str ⟨#[c]⟩
def chD (x : Str) : List D := x.cps.toList.map fun c => D.str ⟨#[c]⟩
def Sk.At (K : PySem.W.Frag) (H : Hp) : Sk → List V → Prop
  | .l a, xs => SqL K H a xs
  | .t a, xs => SqT K H a xs
  | .s x, xs => xs = chV x
def Sk.It (K : PySem.W.Frag) : Sk → L2.It
  | .l a => Itl K a
  | .t a => Itt K a
  | .s x => Its x
/-- the iterator at it stands before the item i -/
def Sk.St (it : Addr) (i : Nat) (h : Heap) : Sk → Prop
  | .l a => h.IsListIter it a i
  | .t a => h.IsTupleIter it a i
  | .s x => ∃ t, h.IsStrIter it (strIterType x) x t i
theorem Sk.St.at {it : Addr} {i : Nat} {h h' : Heap} {k : Sk} (x : k.St it i h) (e : ∀ o, h.get? it = some o → h'.get? it = some o) : k.St it i h' := by
  cases k with
  | l a => exact Heap.IsListIter.at x e
  | t a => exact Heap.IsTupleIter.at x e
  | s y =>
    obtain ⟨t, o, ho, r⟩ := x
    exact ⟨t, o, e o ho, r⟩
theorem Sk.St.obj {it : Addr} {i : Nat} {h : Heap} {k : Sk} (x : k.St it i h) : ∃ o, h.get? it = some o ∧ ∀ v, o.data ≠ .cell v := by
  cases k with
  | l a => obtain ⟨o, ho, hc, hd⟩ := x; exact ⟨o, ho, fun v z => by rw [hd] at z; cases z⟩
  | t a => obtain ⟨o, ho, hc, hd⟩ := x; exact ⟨o, ho, fun v z => by rw [hd] at z; cases z⟩
  | s y => obtain ⟨t, o, ho, hc, hd⟩ := x; exact ⟨o, ho, fun v z => by rw [hd] at z; cases z⟩
section
variable {X : Cx} {pins : List (Addr × Obj)} {σ : L2.St} {H : Hp} {s : Shared}
theorem src_ne (I : Inv X pins σ H s) {b c : Addr} (hf : FpOk X pins H c) (hb : (∃ o, H b = some o) ∨ ∃ o, X.K.lookup b = some o) : b ≠ c := fun e => by
  subst e
  obtain ⟨h1, _, _, h4, _⟩ := hf
  rcases hb with ⟨o, q⟩ | ⟨o, q⟩
  · rw [h1] at q; cases q
  · have q2 := I.ok.mod.kin _ _ q
    rcases h4 with h4 | h4
    · exact I.ok.noex _ _ q2 h4
    · exact absurd (Heap.lt_size (I.ok.bs _ _ q2).1) (Nat.not_lt_of_le h4)
/-- what the iterator of a source draws, and where it reads -/
theorem Sk.draws (I : Inv X pins σ H s) {k : Sk} {xs : List V} (hk : k.At X.K H xs) {it : Addr} {i : Nat} (hst : k.St it i s.heap) (A : Around) (hh : A.handled = none) (hf : FpOk X pins H it) :
    ∃ (fp : List Addr) (n : Nat) (P : Nat → Value → Prop) (St : Nat → Heap → Prop), Draws X.prog X.w A it (it :: fp) n P St ∧ n = xs.length ∧ St i s.heap ∧ (∀ j h, St j h → k.St it j h) ∧ (∀ j u, P j u → ∃ x, xs[j]? = some x ∧ RelV x u) ∧ ∀ b ∈ fp, (∃ o, H b = some o) ∨ ∃ o, X.K.lookup b = some o := by
  cases k with
  | l a =>
    have hk : SqL X.K H a xs := hk
    obtain ⟨its, rv, p, hz⟩ := I.list hk
    have ha : a ≠ it := by
      rcases hk with (q | ⟨o, q⟩) | ⟨o, _, _, q, _⟩
      · exact src_ne I hf (.inl ⟨_, q⟩)
      · exact src_ne I hf (.inl ⟨_, q⟩)
      · exact src_ne I hf (.inr ⟨_, q⟩)
    refine ⟨[a], _, _, _, Draws.list hh it a ha its.toArray, by simp [rv.length], ⟨hst, p.isList⟩, fun j h q => q.1, fun j u q => ?_, fun b hb => ?_⟩
    · have q : its[j]? = some u := by simpa using q
      have hj : j < its.length := (List.getElem?_eq_some_iff.mp q).1
      have hj2 : j < xs.length := by rw [rv.length]; exact hj
      obtain ⟨u', hu, ru⟩ := rv.get (List.getElem?_eq_getElem hj2)
      rw [q] at hu; cases hu
      exact ⟨_, List.getElem?_eq_getElem hj2, ru⟩
    · rw [List.mem_singleton.mp hb]
      rcases hk with (q | ⟨o, q⟩) | ⟨o, _, _, q, _⟩
      · exact .inl ⟨_, q⟩
      · exact .inl ⟨_, q⟩
      · exact .inr ⟨_, q⟩
  | t a =>
    have hk : SqT X.K H a xs := hk
    obtain ⟨its, rv, p, hz⟩ := I.tuple hk
    have ha : a ≠ it := by
      rcases hk with (q | ⟨o, q⟩) | ⟨o, _, _, q, _⟩
      · exact src_ne I hf (.inl ⟨_, q⟩)
      · exact src_ne I hf (.inl ⟨_, q⟩)
      · exact src_ne I hf (.inr ⟨_, q⟩)
    refine ⟨[a], _, _, _, Draws.tuple hh it a ha its.toArray, by simp [rv.length], ⟨hst, p⟩, fun j h q => q.1, fun j u q => ?_, fun b hb => ?_⟩
    · have q : its[j]? = some u := by simpa using q
      have hj : j < its.length := (List.getElem?_eq_some_iff.mp q).1
      have hj2 : j < xs.length := by rw [rv.length]; exact hj
      obtain ⟨u', hu, ru⟩ := rv.get (List.getElem?_eq_getElem hj2)
      rw [q] at hu; cases hu
      exact ⟨_, List.getElem?_eq_getElem hj2, ru⟩
    · rw [List.mem_singleton.mp hb]
      rcases hk with (q | ⟨o, q⟩) | ⟨o, _, _, q, _⟩
      · exact .inl ⟨_, q⟩
      · exact .inl ⟨_, q⟩
      · exact .inr ⟨_, q⟩
  | s x =>
    have hk : xs = chV x := hk
    subst hk
    obtain ⟨t, hst⟩ := hst
    refine ⟨[], _, _, _, Draws.text hh it x t, by simp [chV], hst, fun j h q => ⟨t, q⟩, fun j u q => ?_, fun b hb => nomatch hb⟩
    obtain ⟨c, u', h1, rfl⟩ := q
    exact ⟨.str ⟨#[c]⟩, by simp [chV, h1], _, rfl⟩
/-- how a source begins -/
theorem Sk.begins (I : Inv X pins σ H s) {k : Sk} {xs : List V} (hk : k.At X.K H xs) {u : Value} (ru : RelV k.v u) : ∃ (o : Obj) (HH : Heap → Prop), Begins u o HH ∧ HH s.heap ∧ ∀ (it : Addr) (h : Heap), h.get? it = some o → k.St it 0 h := by
  cases k with
  | l a =>
    cases ru
    obtain ⟨its, rv, p, hz⟩ := I.list hk
    exact ⟨_, _, begins_list a its.toArray, p.isList, fun it h e => ⟨_, e, rfl, rfl⟩⟩
  | t a =>
    cases ru
    obtain ⟨its, rv, p, hz⟩ := I.tuple hk
    exact ⟨_, _, begins_tuple a its.toArray, p, fun it h e => ⟨_, e, rfl, rfl⟩⟩
  | s x =>
    obtain ⟨t, rfl⟩ := ru
    exact ⟨_, _, begins_text x t, trivial, fun it h e => ⟨t, _, e, rfl, rfl⟩⟩
end
section
variable {g : Gs} {E : XK} {H0 : Hp} {X : Cx} {tg e a b : Expr} {m ma mb : Ev} {pos p1 : Pos} {bo b1 b2 : Bool}
/-- a list, a tuple, a text -/
def iAny (K : PySem.W.Frag) (tl : TE) : TI := fun σ H R => tl σ H fun x H1 => ∃ k xs, x = Sk.v k ∧ k.At K H1 xs ∧ R (k.It K) H1
theorem turn_any {P : Program} {w : World} {K : PySem.W.Frag} {tg : Expr} (k : Sk) (it : Addr) : Turn P w K tg (k.It K) [it] it fun i h => k.St it i h := by
  cases k with
  | l a => exact turn_list a it
  | t a => exact turn_tuple a it
  | s x =>
    have z : strIterType x = "str_ascii_iterator" ∨ strIterType x = "str_iterator" := by
      unfold strIterType
      split
      · exact .inl rfl
      · exact .inr rfl
    have T : ∀ t, Turn P w K tg (Its x) [it] it (fun i h => h.IsStrIter it (strIterType x) x t i) := fun t => turn_str it x t (strIterType x) z
    exact
      { mem := (T 0).mem
        obj := fun i h st => let ⟨t, q⟩ := st; (T t).obj i h q
        keep := fun i h h' st kk => let ⟨t, q⟩ := st; ⟨t, (T t).keep i h h' q kk⟩
        item := fun X hP hw hK hc i pins s σ H E I hf st hg => by
          obtain ⟨t, q⟩ := st
          refine wpAny_mono ((T t).item X hP hw hK hc i pins s σ H E I hf q hg) (fun r s1 h1 => ?_) fun _ _ h => h
          obtain ⟨u, e, h1⟩ := h1
          refine ⟨u, e, wpAny_mono h1 (fun _ s2 h2 => ?_) fun _ _ h => h⟩
          obtain ⟨x, H', a1, a2, a3, a4, a5⟩ := h2
          exact ⟨x, H', a1, a2, a3, ⟨t, a4⟩, a5⟩
        done := fun X hP hw hK hc i pins s σ H E I hf st hg => by
          obtain ⟨t, q⟩ := st
          exact (T t).done X hP hw hK hc i pins s σ H E I hf q hg
        self := fun A i s Q E st h => let ⟨t, q⟩ := st; (T t).self A i s Q E q h }
theorem pi_any {l : Expr} {tl : TE} (hl : PE X l tl) : PI X tg l (iAny X.K tl) := by
  refine ⟨fun pins s σ H R I h => ?_⟩
  refine thn (hl.run pins s σ H _ I h) fun v s1 ⟨x, H1, I1, r1, k, xs, ex, hk, q⟩ => ?_
  subst ex
  obtain ⟨o, HH, B, h1, hs⟩ := Sk.begins I1 hk r1
  refine B.iter _ _ _ _ _ _ h1 ?_
  refine ⟨s1.heap.objs.size, [s1.heap.objs.size], _, _, H1, rfl, I1.kept (t' := s1.toks) fun b o' e => Heap.get?_push_of_some _ e, turn_any k _, hs _ _ (Heap.get?_push_size _ B.free), fun c hc => ?_, q⟩
  rw [List.mem_singleton.mp hc]
  exact I1.fpOk (Nat.le_refl _) (I1.hok.fresh (Nat.le_refl _))
def itemsOf : D → Option (List D)
  | .tup ds => some ds
  | .lst ds => some ds
  | .scr ds => some ds
  | .str x => some (chD x)
  | _ => Option.none
def mItems (m : Ev) : Ei := fun σ B => (m σ B).bind fun d B1 => match itemsOf d with
  | some ds => .ok ds B1
  | Option.none => .bad
/-- a value as a source -/
def SkAt (g : Gs) (w : Wd) (k : Sk) (ds : List D) : Prop := ∃ vs, k.At g.K w.P vs ∧ Reps g w ds vs
theorem Sk.At.mono {K : PySem.W.Frag} {P P' : Hp} {k : Sk} {xs : List V} (hs : Same P P') (h : k.At K P xs) : k.At K P' xs := by
  cases k with
  | l a => exact hs.seq h
  | t a => exact sqT_mono hs h
  | s x => exact h
theorem reps_chs (g : Gs) (w : Wd) (x : Str) : Reps g w (chD x) (chV x) := by
  unfold chD chV
  induction x.cps.toList with
  | nil => simp only [List.map_nil, Reps]
  | cons c cs ih =>
    simp only [List.map_cons, Reps, Rep]
    exact ⟨_, _, rfl, rfl, ih⟩
theorem Rep.sk {w : Wd} {d : D} {v : V} {ds : List D} (r : Rep g w d v) (h : itemsOf d = some ds) : ∃ k, v = Sk.v k ∧ SkAt g w k ds := by
  cases d <;> simp only [itemsOf, reduceCtorEq, Option.some.injEq] at h <;> subst h <;> simp only [Rep] at r
  · subst r; exact ⟨.s _, rfl, _, rfl, reps_chs g w _⟩
  · obtain ⟨a, vs, rfl, q, r⟩ := r; exact ⟨.t a, rfl, vs, q.T, r⟩
  · obtain ⟨a, vs, rfl, q, r⟩ := r; exact ⟨.l a, rfl, vs, .inl (.inl q), r⟩
  · obtain ⟨a, vs, rfl, q, r⟩ := r; exact ⟨.l a, rfl, vs, q, r⟩
theorem it_any {w : Wd} {k : Sk} {ds : List D} (h : SkAt g w k ds) : ItOk g w (k.It g.K) ds := by
  obtain ⟨vs, hk, r⟩ := h
  cases k with
  | l a => exact it_scr hk r
  | t a => exact it_tup hk r
  | s x =>
    have hk : vs = chV x := hk
    subst hk
    have hl : x.cps.size = ds.length := by rw [← r.len]; simp [chV]
    exact
      { go := fun i H hi hs => by show i < x.cps.size; omega
        stop := fun i H hi hs => by show x.cps.size ≤ i; omega
        yld := fun i H y H' d w1 B e l rb yl => by
          obtain ⟨rfl, c, hc, rfl⟩ := yl
          obtain ⟨v, e2, rv⟩ := Reps.get r e
          have : v = .str ⟨#[c]⟩ := by
            unfold chV at e2
            rw [List.getElem?_map, Array.getElem?_toList, hc] at e2
            exact (Option.some.inj e2).symm
          subst this
          exact ⟨w1, Ext.refl _ _, rb, Rep.mono l _ _ rv⟩ }
theorem i_seq (c : Ok g X) (h : Snd g E H0 X false e m) : SndI g E H0 X tg e (mItems m) := by
  refine weakI (pi_any h) ?_
  rintro σ H R ⟨w, σI, B, s, p⟩
  refine tI_bindI s p fun d B1 w1 v H1 x1 s1 r p1 => ?_
  rw [c.K]
  cases hd : itemsOf d with
  | none => rw [hd] at p1; exact p1.elim
  | some ds =>
    rw [hd] at p1
    obtain ⟨k, rfl, hk⟩ := Rep.sk r hd
    obtain ⟨vs, hk2, _⟩ := id hk
    exact ⟨k, vs, rfl, hk2.mono s1.rb.sub, p1 w1 _ H1 (Ext.refl _ _) s1.rb (it_any hk)⟩
def rngB (i : Int) : Bool := decide (-(2 ^ 62) ≤ i) && decide (i < 2 ^ 62)
def mRng1 (m : Ev) : Ei := fun σ B => (m σ B).bind fun d B1 => (asI d B1).bind fun n B2 => if rngB n then .ok (rngD 0 n.toNat) B2 else .bad
theorem rngB_ok {i : Int} (h : rngB i = true) : -(2 ^ 62) ≤ i ∧ i < 2 ^ 62 := by
  unfold rngB at h
  simp only [Bool.and_eq_true, decide_eq_true_eq] at h
  exact h
theorem asI_goI {w : Wd} {σI : Sl} {B B2 : Bs} {σ : L2.St} {H : Hp} {R : It → Hp → Prop} {d : D} {v : V} {f : Int → Bs → Rs (List D)} (s : S0 g H0 w σI B2 σ H) (r : RepO g w σI σ d v) (p : PostI g E w H R ((asI d B).bind f)) :
    ∃ i, v = .int i ∧ PostI g E w H R (f i B) := by
  cases d <;> first | exact p.elim | skip
  exact ⟨_, r.int s, p⟩
theorem i_rng1 (c : Ok g X) (hm : g.mg "range" = none) (h : Snd g E H0 X b1 a ma) (hg : Gl X "range" := by rfl) (hs : starEach [a] X.env = [(false, eval a X.env)] := by rfl) : SndI g E H0 X tg (.Call (.Name "range" p1) [a] [] pos) (mRng1 ma) := by
  refine weakI (pi_range1 hg (c.mg ▸ hm) (pa_cons h pa_nil hs) hs) ?_
  rintro σ H R ⟨w, σI, B, s, p⟩
  refine tI_bindI s p fun d B1 w1 v H1 x1 s1 r p1 => ?_
  obtain ⟨n, rfl, p2⟩ := asI_goI s1 r.up p1
  split at p2
  · rename_i hb
    obtain ⟨h1, h2⟩ := rngB_ok hb
    exact ⟨n, rfl, h1, h2, p2 w1 _ H1 (Ext.refl _ _) s1.rb it_rng⟩
  · exact p2.elim
end

/-! ### for -/
def forL (t : Tg) (b : Ms) : List D → Sl → Bs → Ss
  | [], σ, B => .next σ B
  | d :: ds, σ, B => match t d σ with
    | some σ' => (b σ' B).seq (forL t b ds)
    | Option.none => .bad
def mFor (t : Tg) (mi : Ei) (b : Ms) : Ms := fun σ B => (mi σ B).st fun ds B1 => forL t b ds σ B1
section
variable {g : Gs} {E : XK} {w0 : Wd} {H0 : Hp} {X : Cx} {tg e c : Expr} {sts : List Stmt} {mi : Ei} {t : Tg} {b : Ms} {pos : Pos} {sl : List Nat} {mt : Et}
theorem z_for (k : Ok g X) (hp : PassesOwn (model X.prog X.w) X.A X.env X.xe) (hi : SndI g E H0 X tg e mi) (hg : SndG g H0 X tg t sl) (hb : SndB g E w0 H0 X sts b) (hs : ∀ x, foldedSetIterable e X.env x = pure x := by intro _; rfl) :
    SndS g E w0 H0 X (.For tg e sts [] pos) (mFor t mi b) := by
  refine weakS (ps_for hp k.calm hi hg hb hs) ?_
  rintro D σ H ⟨w, σI, B, s, x0, p⟩
  refine ⟨w, σI, B, s, ?_⟩
  unfold mFor at p
  revert p
  generalize mi σI B = q
  intro p
  cases q with
  | bad => exact p
  | exc cc y B1 => exact fun w' cls dd H' x' rb r => p w' cls dd H' rb (x0.trans x') r
  | ok ds B1 =>
    intro w1 J H1 x1 rb1 it
    have p : PostS g E w0 H0 w D (forL t b ds σI B1) := p
    have s1 := s.step x1 rb1
    refine ⟨fun i m σ H => m = ds.length - i ∧ i ≤ ds.length ∧ ∃ w σI B, Le w1 w ∧ S0 g H0 w σI B σ H ∧ Ext w0 H0 w H ∧ PostS g E w0 H0 w D (forL t b (ds.drop i) σI B), ⟨ds.length, by simp, Nat.zero_le _, w1, σI, B1, Le.refl _, s1, x0.trans x1, by simpa using PostS.le x1.le p⟩, ?_⟩
    rintro i m σ H ⟨rfl, hi, w, σI, B, l, s, x, p⟩
    by_cases hlt : i < ds.length
    · refine .inr ⟨it.go i H hlt (l.P.trans s.rb.sub), fun σ' H' => ∃ w σI B, Le w1 w ∧ S0 g H0 w σI B σ' H' ∧ Ext w0 H0 w H' ∧ PostS g E w0 H0 w D (forL t b (ds.drop (i + 1)) σI B), ?_, ?_⟩
      · rintro σ' H' q
        exact ⟨ds.length - (i + 1), by omega, rfl, hlt, q⟩
      · intro y H' yl
        obtain ⟨w2, x2, rb2, r2⟩ := it.yld i H y H' ds[i] w B (List.getElem?_eq_getElem hlt) l s.rb yl
        rw [List.drop_eq_getElem_cons hlt] at p
        simp only [forL] at p
        cases e : t ds[i] σI with
        | none => rw [e] at p; exact p.elim
        | some σ' =>
          rw [e] at p
          refine ⟨w2, ds[i], σI, B, σ', s.step x2 rb2, r2, e, fun σ2 s2 _ _ => ⟨w2, σ', B, s2, x.trans x2, ?_⟩⟩
          have p := PostS.le x2.le p
          revert p
          show PostS g E w0 H0 w2 D ((b σ' B).seq (forL t b (List.drop (i + 1) ds))) → _
          generalize b σ' B = q
          intro p
          cases q with
          | next σ3 B3 => exact fun w' σ'' H'' l' s' x' => ⟨w', σ3, B3, (l.trans x2.le).trans l', s', x', PostS.le l' p⟩
          | ret d B' => exact p
          | exc c y B' => exact p
          | bad => exact p
    · refine .inl ⟨it.stop i H (by omega) (l.P.trans s.rb.sub), ?_⟩
      rw [List.drop_eq_nil_of_le (by omega)] at p
      exact p w σ H (Le.refl _) s x
end
end Hf

set_option Elab.async false
set_option linter.all false
set_option maxRecDepth 100000
set_option maxHeartbeats 4000000
namespace Hf
open PySem PySem.Spec PyProof.Rows L2

/-! ### while -/
section
variable {g : Gs} {E : XK} {w0 : Wd} {H0 : Hp} {X : Cx} {tg e c : Expr} {sts : List Stmt} {mi : Ei} {t : Tg} {b : Ms} {pos : Pos} {sl : List Nat} {mt : Et}
end

/-! ### list comprehensions -/
def noX {α : Type} : Rs α → Rs α
  | .ok a B => .ok a B
  | _ => .bad
def lcL (t : Tg) (mt : Et) (me : Ev) (σ : Sl) : List D → Bs → Rs (List D)
  | [], B => .ok [] B
  | d :: ds, B => match t d σ with
    | some σ' => (mt σ' B).bind fun k B1 => if k then (me σ' B1).bind fun e B2 => (lcL t mt me σ ds B2).bind fun es B3 => .ok (e :: es) B3 else lcL t mt me σ ds B1
    | Option.none => .bad
def wipeI (σ : Sl) : List Nat → Sl
  | [] => σ
  | v :: vs => (wipeI σ vs).set v Option.none
def mLc (vs : List Nat) (t : Tg) (mi : Ei) (mt : Et) (me : Ev) : Ev := fun σ B => (mi σ B).bind fun ds B1 => (noX (lcL t mt me (wipeI σ vs) ds B1)).bind fun es B2 => if szL es then .ok (.lst es) B2 else .bad
theorem wipeI_length (σ : Sl) : ∀ vs : List Nat, (wipeI σ vs).length = σ.length
  | [] => rfl
  | v :: vs => by unfold wipeI; rw [List.length_set, wipeI_length σ vs]
theorem wipe_get (σ : L2.St) (j : Nat) : ∀ vs : List Nat, (wipe σ vs)[j]? = if j ∈ vs ∧ j < σ.length then some Option.none else σ[j]?
  | [] => by simp [wipe]
  | v :: vs => by
    unfold wipe
    by_cases e : v = j
    · subst e
      by_cases hl : v < σ.length
      · rw [List.getElem?_set_self (by rw [wipe_length]; exact hl), if_pos ⟨by simp, hl⟩]
      · rw [List.getElem?_eq_none (by rw [List.length_set, wipe_length]; omega), if_neg (fun z => hl z.2), List.getElem?_eq_none (by omega)]
    · rw [List.getElem?_set_ne e, wipe_get σ j vs]
      have : (j ∈ v :: vs) ↔ j ∈ vs := by simp [Ne.symm e]
      simp only [this]
theorem wipeI_get (σ : Sl) (j : Nat) : ∀ vs : List Nat, (wipeI σ vs)[j]? = if j ∈ vs ∧ j < σ.length then some Option.none else σ[j]?
  | [] => by simp [wipeI]
  | v :: vs => by
    unfold wipeI
    by_cases e : v = j
    · subst e
      by_cases hl : v < σ.length
      · rw [List.getElem?_set_self (by rw [wipeI_length]; exact hl), if_pos ⟨by simp, hl⟩]
      · rw [List.getElem?_eq_none (by rw [List.length_set, wipeI_length]; omega), if_neg (fun z => hl z.2), List.getElem?_eq_none (by omega)]
    · rw [List.getElem?_set_ne e, wipeI_get σ j vs]
      have : (j ∈ v :: vs) ↔ j ∈ vs := by simp [Ne.symm e]
      simp only [this]
theorem wipe_eq {σ σ2 : L2.St} {vs : List Nat} (hl : σ2.length = σ.length) (h : ∀ j : Nat, j ∉ vs → σ2[j]? = σ[j]?) : wipe σ2 vs = wipe σ vs := by
  apply List.ext_getElem?
  intro j
  rw [wipe_get, wipe_get, hl]
  by_cases hj : j ∈ vs
  · by_cases hk : j < σ.length
    · rw [if_pos ⟨hj, hk⟩, if_pos ⟨hj, hk⟩]
    · rw [if_neg (fun z => hk z.2), if_neg (fun z => hk z.2), List.getElem?_eq_none (by omega), List.getElem?_eq_none (by omega)]
  · rw [if_neg (fun z => hj z.1), if_neg (fun z => hj z.1), h j hj]
theorem wipe_wipe (σ : L2.St) (vs : List Nat) : wipe (wipe σ vs) vs = wipe σ vs := wipe_eq (wipe_length _ _) fun j hj => by rw [wipe_get, if_neg (fun z => hj z.1)]
section
variable {g : Gs} {E : XK} {w0 w w1 : Wd} {H H0 H1 : Hp} {σI : Sl} {σ : L2.St} {B : Bs} {X : Cx}
theorem S0.wipe (s : S0 g H0 w σI B σ H) (vs : List Nat) : S0 g H0 w (wipeI σI vs) B (L2.wipe σ vs) H where
  rb := s.rb
  len := by rw [wipeI_length, wipe_length]; exact s.len
  sl := fun j e h => by
    rw [wipeI_get] at h
    split at h
    · cases h
    · rename_i hj
      rw [wipe_get, if_neg (by rw [← s.len]; exact hj)]
      exact s.sl j e h
  ow := fun j e h => by
    rw [wipeI_get] at h
    split at h
    · cases h
    · rename_i hj
      rw [wipe_get, if_neg (by rw [← s.len]; exact hj)]
      exact s.ow j e h
  oi := fun i j e f a h1 h2 h3 h4 => by
    rw [wipeI_get] at h1 h2
    split at h1
    · cases h1
    split at h2
    · cases h2
    rename_i hi hj
    rw [wipe_get, if_neg (by rw [← s.len]; exact hi)] at h3
    rw [wipe_get, if_neg (by rw [← s.len]; exact hj)] at h4
    exact s.oi i j e f a h1 h2 h3 h4
  me := fun i c ds a h1 h2 => by
    rw [wipeI_get] at h1
    split at h1
    · cases h1
    rename_i hi
    rw [wipe_get, if_neg (by rw [← s.len]; exact hi)] at h2
    exact s.me i c ds a h1 h2
/-- something else is changed -/
theorem RB.other {a : Addr} {o : HO} (rb : RB g w B H) (np : w.P a = Option.none) (nb : ∀ n, w.io n ≠ some a) (nh : ∀ u, H a = some u → Nt u) : RB g w B (upd H a o) where
  tb := tabs_upd rb.tb nh
  nt := rb.nt
  sub := fun b u e => by rw [upd_ne (fun z => by subst z; rw [np] at e; cases e)]; exact rb.sub b u e
  get := fun n b e => by
    obtain ⟨c, u, h1, h2, h3⟩ := rb.get n b e
    exact ⟨c, u, h1, by rw [upd_ne (fun z => nb n (by rw [← z]; exact h1))]; exact h2, h3⟩
  inj := rb.inj
  np := rb.np
  dom := rb.dom
theorem S0.other {a : Addr} {o : HO} (s : S0 g H0 w σI B σ H) (np : w.P a = Option.none) (nb : ∀ n, w.io n ≠ some a) (nw : ∀ (j : Nat) (e : D), σI[j]? = some (some (true, e)) → σ[j]? ≠ some (some (V.ref a))) (nh : ∀ u, H a = some u → Nt u) : S0 g H0 w σI B σ (upd H a o) where
  rb := s.rb.other np nb nh
  len := s.len
  sl := s.sl
  ow := fun j e h => by
    obtain ⟨b, u, e1, e2, e3⟩ := s.ow j e h
    exact ⟨b, u, e1, by rw [upd_ne (fun z => nw j e h (by rw [← z]; exact e1))]; exact e2, e3⟩
  oi := s.oi
  me := s.me
theorem Ok.blk (k : Ok g X) (s : Shared) (H : Hp) (scope : Scope) (env : Env) (fp : List Addr) : Ok g (X.blk s H scope env fp) := ⟨k.K, k.mg, k.calm, k.un, k.prog, k.w, k.base, k.fx⟩
abbrev SndTs (g : Gs) (E : XK) (H0 : Hp) (X : Cx) (es : List Expr) (m : Et) : Prop := PTs X es (tIt g E H0 m)
def mYes : Et := fun _ B => .ok true B
theorem ts_nil : SndTs g E H0 X [] mYes := ⟨fun pins s σ H Q I q => pts_nil.run pins s σ H Q I (by
  obtain ⟨w, σI, B, s, p⟩ := q
  exact p w H (Ext.refl _ _) s.rb)⟩
theorem lcL_cons {t : Tg} {mt : Et} {me : Ev} {σ : Sl} {d : D} {ds : List D} {B B' : Bs} {es : List D} (h : lcL t mt me σ (d :: ds) B = .ok es B') :
    ∃ σ' k B1, t d σ = some σ' ∧ mt σ' B = .ok k B1 ∧ ((k = true ∧ ∃ e B2 es', me σ' B1 = .ok e B2 ∧ lcL t mt me σ ds B2 = .ok es' B' ∧ es = e :: es') ∨ (k = false ∧ lcL t mt me σ ds B1 = .ok es B')) := by
  simp only [lcL] at h
  cases e1 : t d σ with
  | none => rw [e1] at h; cases h
  | some σ' =>
    rw [e1] at h
    simp only at h
    cases e2 : mt σ' B with
    | bad => rw [e2] at h; cases h
    | exc _ _ _ => rw [e2] at h; cases h
    | ok k B1 =>
      rw [e2] at h
      simp only [Rs.bind] at h
      refine ⟨σ', k, B1, rfl, e2, ?_⟩
      cases k with
      | false => exact .inr ⟨rfl, h⟩
      | true =>
        simp only [if_true] at h
        cases e3 : me σ' B1 with
        | bad => rw [e3] at h; cases h
        | exc _ _ _ => rw [e3] at h; cases h
        | ok e B2 =>
          rw [e3] at h
          simp only at h
          cases e4 : lcL t mt me σ ds B2 with
          | bad => rw [e4] at h; cases h
          | exc _ _ _ => rw [e4] at h; cases h
          | ok es' B3 =>
            rw [e4] at h
            cases h
            exact .inl ⟨rfl, e, B2, es', rfl, e4, rfl⟩
def LcInv (g : Gs) (H0 : Hp) (w : Wd) (H : Hp) (w1 : Wd) (σI : Sl) (σ : L2.St) (vs : List Nat) (t : Tg) (mt : Et) (me : Ev) (ds es : List D) (B' : Bs) (Da : Addr) (i : Nat) (H' : Hp) : Prop :=
  ∃ w' B2 acc es' av, Ext w H w' H' ∧ Le w1 w' ∧ S0 g H0 w' σI B2 σ H' ∧ H' Da = some (.lst av) ∧ Reps g w' acc av ∧ w'.P Da = Option.none ∧ (∀ n, w'.io n ≠ some Da) ∧ (∀ (j : Nat) (e : D), σI[j]? = some (some (true, e)) → σ[j]? ≠ some (some (V.ref Da))) ∧
    lcL t mt me (wipeI σI vs) (ds.drop i) B2 = .ok es' B' ∧ es = acc ++ es'
/-- the elements one by one: from what an element at the head means -/
theorem lc_at {t : Tg} {mt : Et} {me : Ev} {sl vs : List Nat} {mi : Ei} {wi : TI} (hwi : wi = tIi g E H0 mi) (hsl : ∀ j ∈ sl, j ∈ vs) {Q : VK} (s : S0 g H0 w σI B σ H) (p : PostF g E w H Q (mLc vs t mi mt me σI B)) :
    tLc wi (tG g H0 t sl) (tIt g E0 H0 mt) (tI g E0 H0 false me) vs σ H Q := by
  subst hwi
  refine ⟨w, σI, B, s, ?_⟩
  unfold mLc at p
  cases q : mi σI B with
  | bad => rw [q] at p; exact p
  | exc c y B1 => rw [q] at p; exact p
  | ok ds B1 =>
    rw [q] at p
    simp only [Rs.bind] at p
    intro w1 J H1 x1 rb1 it D hD
    have s1 := s.step x1 rb1
    cases q2 : lcL t mt me (wipeI σI vs) ds B1 with
    | bad => rw [q2] at p; exact p.elim
    | exc c y B1 => rw [q2] at p; exact p.elim
    | ok es B' =>
      rw [q2] at p
      simp only [noX] at p
      split at p
      · rename_i hz
        have hz : es.length ≤ sizeLine := of_decide_eq_true hz
        have nD : H D = Option.none := Classical.byContradiction fun z => x1.there D z hD
        have start : LcInv g H0 w H w1 σI σ vs t mt me ds es B' D 0 (upd H1 D (.lst [])) :=
          ⟨w1, B1, [], es, [], x1.mut nD, Le.refl _, s1.other (s1.rb.fresh_P hD) (s1.rb.fresh_io hD) (fun j e hj => s1.own_ne hj hD) (fun u q => by rw [hD] at q; cases q), upd_same, by simp only [Reps], s1.rb.fresh_P hD, s1.rb.fresh_io hD, fun j e hj => s1.own_ne hj hD, by simpa using q2, rfl⟩
        refine ⟨fun i m H' => m = ds.length - i ∧ i ≤ ds.length ∧ LcInv g H0 w H w1 σI σ vs t mt me ds es B' D i H', ⟨ds.length, by simp, Nat.zero_le _, start⟩, ?_⟩
        rintro i m H' ⟨rfl, hi, w', B2, acc, es', av, x', l', s', eD, ra, np, nb, nw, q3, hes⟩
        by_cases hlt : i < ds.length
        · refine .inr ⟨it.go i H' hlt (l'.P.trans s'.rb.sub), LcInv g H0 w H w1 σI σ vs t mt me ds es B' D (i + 1), fun H2 q => ⟨ds.length - (i + 1), by omega, rfl, hlt, q⟩, fun y H2 yl => ?_⟩
          obtain ⟨w2, x2, rb2, r2⟩ := it.yld i H' y H2 ds[i] w' B2 (List.getElem?_eq_getElem hlt) l' s'.rb yl
          have s2 := s'.step x2 rb2
          rw [List.drop_eq_getElem_cons hlt] at q3
          obtain ⟨σ', k, B3, et, em, q4⟩ := lcL_cons q3
          refine ⟨w2, ds[i], wipeI σI vs, B2, σ', s2.wipe vs, r2, et, fun σ2 s3 hl hk => ⟨(wipe_eq hl fun j hj => hk j fun z => hj (hsl j z)).trans (wipe_wipe _ _), ?_⟩⟩
          have keep : ∀ {wa wb : Wd} {Ha Hb : Hp}, Ext wa Ha wb Hb → Same wb.P Hb → Ha D = some (.lst av) → wa.P D = Option.none → (∀ n, wa.io n ≠ some D) → Hb D = some (.lst av) ∧ wb.P D = Option.none ∧ ∀ n, wb.io n ≠ some D := by
            intro wa wb Ha Hb x sb e n1 n2
            refine ⟨x.keep D _ e n2 (nt_lst _).t, ?_, fun n z => ?_⟩
            · cases q : wb.P D with
              | none => rfl
              | some u =>
                rcases x.pf D u q with z | z | z
                · rw [n1] at z; cases z
                · rw [e] at z; cases z
                · have y := sb D u q
                  rw [x.keep D _ e n2 (nt_lst _).t] at y; cases y
                  exact ((nt_lst _).px z).elim
            · rcases x.iof n D z with z | z
              · exact n2 n z
              · rw [e] at z; cases z
          obtain ⟨eD2, np2, nb2⟩ := keep x2 rb2.sub eD np nb
          refine tIt_go s3 (fun c x B1 q => by rw [em] at q; cases q) (by rw [em]; simp) fun k' B4 q5 w3 H3 x3 s4 => ?_
          rw [em] at q5; cases q5
          obtain ⟨eD3, np3, nb3⟩ := keep x3 s4.rb.sub eD2 np2 nb2
          have sO := (s2.step x3 s4.rb)
          rcases q4 with ⟨rfl, e, B5, es2, e1, e2, rfl⟩ | ⟨rfl, e2⟩
          · rw [if_pos rfl]
            refine tI_go s4 (fun c x B1 q => by rw [e1] at q; cases q) (by rw [e1]; simp) fun d B6 q6 w4 v H4 x4 s5 r4 => ?_
            rw [e1] at q6; cases q6
            obtain ⟨eD4, np4, nb4⟩ := keep x4 s5.rb.sub eD3 np3 nb3
            have hl : av.length = acc.length := ra.len
            refine ⟨av, eD4, ?_, w4, B5, acc ++ [e], es2, av ++ [v], (((x'.trans x2).trans x3).trans x4).mut nD, ((l'.trans x2.le).trans x3.le).trans x4.le, (sO.step x4 s5.rb).other np4 nb4 nw (fun u q => by rw [eD4] at q; cases q; exact nt_lst _), upd_same,
              Reps.app (Reps.mono ((x2.le.trans x3.le).trans x4.le) _ _ ra) (Reps.one r4), np4, nb4, nw, e2, by rw [hes]; simp⟩
            rw [hes, List.length_append, List.length_cons] at hz
            omega
          · rw [if_neg (by simp)]
            exact ⟨w3, B3, acc, es', av, (x'.trans x2).trans x3, (l'.trans x2.le).trans x3.le, sO, eD3, Reps.mono (x2.le.trans x3.le) _ _ ra, np3, nb3, nw, e2, hes⟩
        · rw [List.drop_eq_nil_of_le (by omega)] at q3
          simp only [lcL] at q3
          cases q3
          rw [List.append_nil] at hes
          subst hes
          exact .inl ⟨it.stop i H' (by omega) (l'.P.trans s'.rb.sub), p w' D _ H' x' s'.rb eD (by simp only [Cont]; exact ⟨av, rfl, ra⟩) nD np nb (by simp)⟩
      · exact p.elim
variable {elt tg iter : Expr} {ifs : List Expr} {scope : Scope} {own : List (Str × Nat)} {pos : Pos} {t : Tg} {mi : Ei} {mt : Et} {me : Ev} {sl : List Nat}
theorem f_lc (c : Ok g X) (hN : X.N.Nodup) (hi : SndI g E H0 X tg iter mi) (ok : BlkOk X.N X.env.scope scope own) (hsl : ∀ j ∈ sl, j ∈ own.map (·.2))
    (hg : ∀ (s : Shared) (H : Hp) (C : Addr) (cl : List (Str × Addr)) (fp : List Addr), SndG g H0 (X.blk s H scope (compEnvC scope cl C X.env) fp) tg t sl) (ht : ∀ (s : Shared) (H : Hp) (C : Addr) (cl : List (Str × Addr)) (fp : List Addr), SndTs g E0 H0 (X.blk s H scope (compEnvC scope cl C X.env) fp) ifs mt)
    (he : ∀ (s : Shared) (H : Hp) (C : Addr) (cl : List (Str × Addr)) (fp : List Addr), Snd g E0 H0 (X.blk s H scope (compEnvC scope cl C X.env) fp) false elt me) (hs : ∀ x, foldedSetIterable iter X.env x = pure x := by intro _; rfl) :
    SndF g E H0 X (.ListComp elt [⟨tg, iter, ifs, 0⟩] scope pos) (mLc (own.map (·.2)) t mi mt me) :=
  weak (pe_lc c.calm hN hi ok hg ht he hs) fun σ H Q ⟨w, σI, B, s, p⟩ => lc_at rfl hsl s p
end
end Hf

set_option Elab.async false
set_option linter.all false
set_option maxRecDepth 100000
set_option maxHeartbeats 4000000
namespace Hf
open PySem PySem.Spec PyProof.Rows L2

/-! ### a name's own list is changed -/
section
variable {g : Gs} {E : XK} {w0 w : Wd} {H0 H : Hp} {X : Cx} {e : Expr} {me : Ev} {pos p1 p2 apos : Pos} {bo : Bool} {x : Str} {i : Nat} {σI : Sl} {σ : L2.St} {B : Bs} {D : Ends}
def upO (i : Nat) (f : List Hf.D → Option (List Hf.D)) (σ : Sl) (B : Bs) : Ss := match σ[i]? with
  | some (some (true, .lst ds)) => match f ds with
    | some es => .next (σ.set i (some (true, .lst es))) B
    | Option.none => .bad
  | _ => .bad
theorem upO_go {f : List Hf.D → Option (List Hf.D)} (s : S0 g H0 w σI B σ H) (x : Ext w0 H0 w H) (p : PostS g E w0 H0 w D (upO i f σI B)) :
    ∃ a vs ds es, σ[i]? = some (some (.ref a)) ∧ H a = some (.lst vs) ∧ Reps g w ds vs ∧ σI[i]? = some (some (true, .lst ds)) ∧ f ds = some es ∧ ∀ us, Reps g w es us → D.nx σ (upd H a (.lst us)) := by
  unfold upO at p
  split at p
  · rename_i ds hi
    obtain ⟨a, o, e1, ha, c, np, nb, n0⟩ := s.ow i _ hi
    simp only [Cont] at c
    obtain ⟨vs, rfl, r⟩ := c
    split at p
    · rename_i es hf
      exact ⟨a, vs, ds, es, e1, ha, r, hi, hf, fun us ru => p w σ _ (Le.refl _) (s.mut hi e1 (by simp only [Cont]; exact ⟨us, rfl, ru⟩) (by intro _ _ z; cases z)) (x.mut n0)⟩
    · exact p.elim
  · exact p.elim
def mApp (i : Nat) (m : Ev) : Ms := fun σ B => match σ[i]? with
  | some (some (true, .lst _)) => (m σ B).st fun d B1 => upO i (fun ds => if ds.length < sizeLine then some (ds ++ [d]) else Option.none) σ B1
  | _ => .bad
theorem tyL {K : PySem.W.Frag} {H : Hp} {a : Addr} {xs : List V} (h : H a = some (.lst xs)) : tyV K "list" (.ref a) H := .inl ⟨rfl, xs, .inl (.inl h)⟩
theorem own_at {P : Prop} (s : S0 g H0 w σI B σ H) (hi : ∀ a vs, σ[i]? = some (some (.ref a)) → H a = some (.lst vs) → P) (h : ∃ ds, σI[i]? = some (some (true, .lst ds))) : P := by
  obtain ⟨ds, h⟩ := h
  obtain ⟨a, o, e1, ha, c, _⟩ := s.ow i _ h
  simp only [Cont] at c
  obtain ⟨vs, rfl, r⟩ := c
  exact hi a vs e1 ha
theorem z_app (he : Snd g E H0 X false e me) (hN : X.N[i]? = some x := by rfl) (hv : Vis X.env.scope x := by first | exact Or.inl rfl | exact Or.inr (Or.inl rfl) | exact Or.inr (Or.inr rfl)) (hd : (x == ("__debug__" : Str)) = false := by decide) (hcd : (x == ("__classdict__" : Str)) = false := by decide)
    (hbase : attributeBase (.Name x p1) "append" X.env (eval (.Name x p1) X.env) = eval (.Name x p1) X.env := by rfl)
    (hfew : ((backTo p2 (starEach [e] X.env)).all (fun x => !x.1) && (backToKw p2 (keywordEach [] X.env)).all (fun x => x.1.isSome) && decide ([e].length + ([] : List Keyword).length + (if ([] : List Keyword).isEmpty then 0 else 1) < 30)) = true := by rfl)
    (hline : (apos.endLine == p2.line) = true := by rfl) (hs : starEach [e] X.env = (false, eval e X.env) :: starEach [] X.env := by rfl) (hpl : (backTo p2 (starEach [] X.env)).any (·.1) = false := by rfl) (hsw : swapsWith (.Call (.Attribute (.Name x p1) "append" apos) [e] [] p2) none pos.line X.env = pure false := by rfl) :
    SndS g E w0 H0 X (.Expr (.Call (.Attribute (.Name x p1) "append" apos) [e] [] p2) pos) (mApp i me) := by
  refine weakS (ps_expr (pe_bm PySem.F.plainAttrs_list PySem.F.slot_list_append PySem.F.type_list_append mt_append (pe_var hN hv hd hcd) (pa_cons he pa_nil hs) hbase hfew hline hs hpl) hsw) ?_
  rintro D σ H ⟨w, σI, B, s, x0, p⟩
  unfold mApp at p
  split at p
  · rename_i ds0 hi
    refine own_at s (fun a vs e1 ha => ⟨_, e1, tyL ha, ?_⟩) ⟨ds0, hi⟩
    refine st_go s x0 p fun d B1 w1 v H1 x1 x2 s1 r p1 => ?_
    obtain ⟨a', vs', ds, es, f1, f2, f3, f4, f5, k⟩ := upO_go s1 x1 p1
    rw [e1] at f1; cases f1
    split at f5
    · rename_i hl
      cases f5
      exact ⟨a, vs', v, rfl, rfl, f2, by rw [f3.len]; exact hl, k _ (Reps.app f3 (Reps.one r))⟩
    · cases f5
  · exact p.elim
theorem Reps.erase {g : Gs} {w : Wd} : ∀ {ds : List Hf.D} {vs : List V} (k : Nat), Reps g w ds vs → Reps g w (ds.eraseIdx k) (vs.eraseIdx k)
  | [], vs, k, h => by simp only [Reps] at h; subst h; simp [Reps]
  | d :: ds, vs, 0, h => by
    simp only [Reps] at h
    obtain ⟨v, us, rfl, r, rs⟩ := h
    simpa using rs
  | d :: ds, vs, k + 1, h => by
    simp only [Reps] at h
    obtain ⟨v, us, rfl, r, rs⟩ := h
    simp only [List.eraseIdx_cons_succ, Reps]
    exact ⟨v, _, rfl, r, Reps.erase k rs⟩
/-! ### a box is changed: x[e] = v -/
def mSetIx (ob ix v : Ev) : Ms := fun σ B => (v σ B).st fun d B1 => (ob σ B1).st fun o B2 => (ix σ B2).st fun i B3 => match o, i with
  | .box n, .int k => match B3[n]? with
    | some (.lst ds) => match ixN ds.length k with
      | some j => .next σ (B3.set n (.lst (ds.set j d)))
      | Option.none => .bad
    | _ => .bad
  | _, _ => .bad
theorem z_setIx {o ix : Expr} {mo mi : Ev} {b1 : Bool} (he : Snd g E H0 X false e me) (ho : Snd g E H0 X false o mo) (hi : Snd g E H0 X b1 ix mi) (hs : swapsWithSole [.Subscript o ix p1] e pos.line X.env = pure false := by rfl) (hw : swappedStores [.Subscript o ix p1] e X.env = pure none := by rfl)
    (h1 : (assignEach [.Subscript o ix p1] X.env).map (·.2) = [assign (.Subscript o ix p1) X.env] := by rfl)
    (ha : ∀ v, assign (.Subscript o ix p1) X.env v = (do
      let ov ← holding [v] (eval o X.env)
      let iv ← holding [v, ov] (eval ix X.env)
      standAt p1
      holding [v, ov, iv] (setItem ov iv v)
      release [v, ov, iv] []) := by intro _; rfl) : SndS g E w0 H0 X (.Assign [.Subscript o ix p1] e pos) (mSetIx mo mi me) := by
  refine weakS (ps_asg he (pg_sub ho hi set_list ha) hs hw h1) ?_
  rintro D σ H ⟨w, σI, B, s, x0, p⟩
  refine st_go s x0 p fun d B1 w1 v H1 x1 x2 s1 r p1 => ?_
  refine st_go s1 x1 p1 fun o B2 w2 ov H2 y1 y2 s2 r2 p2 => ?_
  refine st_go s2 y1 p2 fun i B3 w3 iv H3 z1 z2 s3 r3 p3 => ?_
  split at p3
  · rename_i n k
    split at p3
    · rename_i ds hb
      split at p3
      · rename_i j hj
        obtain ⟨a, rfl, hn⟩ := (RepB.up (r2 : RepB g w2 σI σ false (.box n) ov)).mono z2.le |>.box s3
        obtain ⟨a', oo, h1, h2, c⟩ := s3.rb.get _ _ hb
        rw [hn] at h1; cases h1
        simp only [Cont] at c
        obtain ⟨vs, rfl, rr⟩ := c
        have rv : Rep g w3 d v := Rep.mono (y2.le.trans z2.le) _ _ r
        refine ⟨a, vs, k, j, rfl, r3.up.int s3, h2, by rw [rr.len]; exact hj, ?_⟩
        exact p3 w3 σ _ (Le.refl _) (s3.mutB hn (by simp only [Cont]; exact ⟨_, rfl, Reps.set j rr rv⟩)) (z1.mutB hn)
      · exact p3.elim
    · exact p3.elim
  · exact p3.elim
/-! own list by place: x[k] = v -/
end

/-! ### calls -/
def PostC (g : Gs) (E : XK) (w : Wd) (H : Hp) (Q : VK) : Rs D → Prop
  | .ok d B' => ∀ w' v H', Ext w H w' H' → RB g w' B' H' → Rep g w' d v → Q v H'
  | .exc c x B' => ∀ w' cls dd H', Ext w H w' H' → RB g w' B' H' → ExcR g w' c x cls dd H' → E cls dd H'
  | .bad => False
/-- the promise of a def whose meaning is f -/
def spF (g : Gs) (f : Fn) : Sp := fun vs H Q E => ∃ w ds B, RB g w B H ∧ Reps g w ds vs ∧ PostC g E w H Q (f ds B)
/-- a body's end as a call's result -/
def Ss.fin : Ss → Rs D
  | .next _ B => .ok .none B
  | .ret d B => .ok d B
  | .exc c x B => .exc c x B
  | .bad => .bad
/-- the meaning of a def: n parameters, k names in all -/
def mkFn (n k : Nat) (b : Ms) : Fn := fun ds B => if ds.length = n then (b (ds.map (fun d => some (false, d)) ++ List.replicate (k - n) Option.none) B).fin else .bad
/-- what a body may count on -/
structure OkC (g : Gs) (E : XK) (lv : Nat) (X : Cx) : Prop extends Ok g X where
  room : Room lv X.A
  hx : Passes (L2N.CX X.prog X.w) X E
theorem OkC.blk {g : Gs} {E : XK} {lv : Nat} {X : Cx} (k : OkC g E lv X) (s : Shared) (H : Hp) (scope : Scope) (env : Env) (fp : List Addr) : OkC g E0 lv (X.blk s H scope env fp) := ⟨k.toOk.blk s H scope env fp, k.room, passN⟩
/-- a def of the module -/
def Def (g : Gs) (k : Nat) (x : Str) (dfl : List D) (f : Fn) : Prop := ∃ (fa : Addr) (fd : FuncData) (ps : List Str) (dvs : List V) (ds : List Value), FnOk g.prog g.w g.K g.mg g.base (L2N.CX g.prog g.w) k fa fd ps (spF g f) ∧ g.mg x = some (.ref fa) ∧ PySem.W.keepIn g.K (.ref fa) = true ∧ Binds g.K fd ps ds ∧ Vals dvs ds ∧ ∀ w, Reps g w dfl dvs
section
variable {g : Gs} {E : XK} {w0 w : Wd} {H0 H : Hp} {X : Cx} {e : Expr} {es : List Expr} {ms : Evs} {pos p : Pos} {x : Str} {f : Fn} {lv k : Nat} {dfl : List D} {σI : Sl} {σ : L2.St} {B : Bs} {Q : VK}
def mCall (f : Fn) (dfl : List D) (ms : Evs) : Ev := fun σ B => (ms σ B).bind fun ds B1 => f (ds ++ dfl) B1
theorem PostC.of (s : S0 g H0 w σI B σ H) : ∀ {m : Rs D}, PostE g E w H σI σ false Q m → PostC g E w H Q m
  | .ok _ _, h => h
  | .exc _ _ _, h => h
  | .bad, h => h
theorem call_go {sp : Sp} {dvs : List V} (hsp : sp = spF g f) (hd : ∀ w, Reps g w dfl dvs) : ∀ σ H Q, tI g E H0 false (mCall f dfl ms) σ H Q → tCall sp dvs E (tIs g E H0 ms) σ H Q := by
  subst hsp
  rintro σ H Q ⟨w, σI, B, s, p⟩
  exact tIs_bind s p fun ds B1 w1 vs H1 x1 s1 r1 p1 => ⟨w1, ds ++ dfl, B1, s1.rb, Reps.app r1 (hd w1), PostC.of s1 p1⟩
theorem s_call (c : OkC g E lv X) (d : Def g k x dfl f) (hk : k ≤ lv) (ha : Snds g E H0 X (e :: es) ms) (hg : Gl X x := by rfl) (hdb : (x == ("__debug__" : Str)) = false := by decide) (he : starEach (e :: es) X.env = (false, eval e X.env) :: starEach es X.env := by rfl) (hpl : (backTo pos (starEach es X.env)).any (·.1) = false := by rfl) :
    Snd g E H0 X false (.Call (.Name x p) (e :: es) [] pos) (mCall f dfl ms) := by
  obtain ⟨fa, fd, ps, dvs, ds, F, hm, kp, b, hd, hr⟩ := d
  obtain ⟨prog, w', K, mg, base, A, N, s_0, H_0, env, outer, stack, ex, fn, calm, pn, xe⟩ := X
  obtain ⟨⟨h1, h2, h3, h4, h5, h6, h7, hfx⟩, h8, h9⟩ := c
  simp only at h1 h2 h5 h6 h7
  subst h1 h2 h5 h6 h7
  exact weak (pe_call F (h8.mono hk) hg hm kp b hd h9 ha hdb he hpl) (call_go rfl hr)
/-! ### a def keeps its promise -/
variable {P : Program} {K : PySem.W.Frag} {base : Heap}
theorem start_at {N : List Str} {ds : List D} {vs : List V} {n : Nat} (rb : RB g w B H) (r : Reps g w ds vs) (hn : ds.length = n) (hN : n ≤ N.length) : S0 g H w (ds.map (fun d => some (false, d)) ++ List.replicate (N.length - n) Option.none) B (L2.start N vs) H where
  rb := rb
  len := by simp [L2.start, r.len, hn]
  sl := fun i d h => by
    by_cases hi : i < ds.length
    · rw [List.getElem?_append_left (by simpa using hi), List.getElem?_map] at h
      cases q : ds[i]? with
      | none => rw [q] at h; cases h
      | some d' =>
        rw [q] at h; cases h
        obtain ⟨v, e1, rv⟩ := Reps.get r q
        refine ⟨v, ?_, rv⟩
        unfold L2.start
        rw [List.getElem?_append_left (by rw [List.length_map, r.len]; exact hi), List.getElem?_map, e1]; rfl
    · rw [List.getElem?_append_right (by simp; omega)] at h
      rw [List.getElem?_replicate] at h
      split at h <;> cases h
  ow := fun i d h => by
    by_cases hi : i < ds.length
    · rw [List.getElem?_append_left (by simpa using hi), List.getElem?_map] at h
      cases q : ds[i]? with
      | none => rw [q] at h; cases h
      | some d' => rw [q] at h; cases h
    · rw [List.getElem?_append_right (by simp; omega)] at h
      rw [List.getElem?_replicate] at h
      split at h <;> cases h
  oi := fun i j d e a h => by
    by_cases hi : i < ds.length
    · rw [List.getElem?_append_left (by simpa using hi), List.getElem?_map] at h
      cases q : ds[i]? with
      | none => rw [q] at h; cases h
      | some d' => rw [q] at h; cases h
    · rw [List.getElem?_append_right (by simp; omega)] at h
      rw [List.getElem?_replicate] at h
      split at h <;> cases h
  me := fun i c es a h => by
    by_cases hi : i < ds.length
    · rw [List.getElem?_append_left (by simpa using hi), List.getElem?_map] at h
      cases q : ds[i]? with
      | none => rw [q] at h; cases h
      | some d' => rw [q] at h; cases h
    · rw [List.getElem?_append_right (by simp; omega)] at h
      rw [List.getElem?_replicate] at h
      split at h <;> cases h
/-- a def of the text whose body means b -/
theorem def_ok {x qual : Str} {st : Stmt} {fa : Addr} {fd : FuncData} {N ps : List Str} {n : Nat} {b : Ms} (F : L2.Fun g.K x qual st fa fd) (S : FnScope N ps (defScope st)) (hn : ps.length = n) (hN : n ≤ N.length)
    (fx : Fx g) (hb : ∀ (E : XK) (w0 : Wd) (H0 : Hp) (X : Cx), OkC g E k X → PassesOwn (model X.prog X.w) X.A X.env X.xe → L2N.Takes X (fun cls d _ H => E cls d H) → X.N = N → X.env.scope = defScope st → X.fn = (fun _ => true) → SndB g E w0 H0 X (defBody st) b) :
    FnOk g.prog g.w g.K g.mg g.base (L2N.CX g.prog g.w) (k + 1) fa fd ps (spF g (mkFn n N.length b)) := by
  refine F.okN S (fun vs H Q E h => ?_) (fun cdv A outer s H vs Q E hr h => ?_)
  · obtain ⟨w, ds, B, rb, r, p⟩ := h
    unfold mkFn at p
    split at p
    · rename_i e; rw [r.len, e, hn]
    · exact p.elim
  · obtain ⟨w, ds, B, rb, r, p⟩ := h
    unfold mkFn at p
    split at p
    · rename_i e
      refine ⟨_, hb E w H _ ⟨⟨rfl, rfl, rfl, ?_, rfl, rfl, rfl, fx⟩, hr, ?_⟩ (passes_of rfl) (L2N.takes_of rfl rfl rfl rfl) rfl rfl rfl, ?_⟩
      · have := hr.un; show A.units + 3 + 100 < cLine; have h2 : A.units + 3 + 16 * k + 200 < cLine := this; omega
      · exact L2N.passes_call (L2N.takes_of rfl rfl rfl rfl) (fun _ _ _ _ h => h)
      · refine ⟨w, _, B, start_at rb r e hN, Ext.refl _ _, ?_⟩
        revert p
        generalize b _ B = q
        intro p
        cases q with
        | next σI' B' => exact fun w' σ H' _ s x => p w' .non H' x s.rb (rep_none g w')
        | ret d B' => exact fun w' v H' rb x r => p w' v H' x rb r
        | exc c y B' => exact fun w' cls dd H' rb x r => p w' cls dd H' x rb r
        | bad => exact p
    · exact p.elim
end
end Hf

set_option Elab.async false
set_option linter.all false
set_option maxRecDepth 100000
set_option maxHeartbeats 4000000
namespace Hf
open PySem PySem.Spec PyProof.Rows L2

section
variable {g : Gs} {w : Wd} {H H0 : Hp} {σI : Sl} {σ : L2.St} {B : Bs} {x : V} {c : Nat} {ds : List D}
theorem RepO.inst (s : S0 g H0 w σI B σ H) (h : RepO g w σI σ (.inst c ds) x) : ∃ a dx vs, x = .ref a ∧ H a = some (.ins (g.cl c) dx ((fldN c).zip vs)) ∧ ds.length ≤ (fldN c).length ∧ g.has c = true ∧ Reps g w ds vs := by
  rcases h with h | ⟨i, h1, h2⟩
  · simp only [Rep] at h
    obtain ⟨a, dx, vs, rfl, p, l, hc, r⟩ := h
    exact ⟨a, dx, vs, rfl, s.rb.sub _ _ p, by omega, hc, r⟩
  · obtain ⟨a, o, e, ha, ct, _⟩ := s.ow i _ h1
    rw [h2] at e
    cases e
    simp only [Cont] at ct
    obtain ⟨dx, vs, rfl, l, hc, r⟩ := ct
    exact ⟨a, dx, vs, rfl, ha, l, hc, r⟩
theorem putF_zip : ∀ {ns : List Str} {vs : List V} {f : Str} {v : V}, ns.Nodup → ns[vs.length]? = some f → putF f v (ns.zip vs) = ns.zip (vs ++ [v])
  | [], vs, f, v, _, h => by simp at h
  | n :: ns, [], f, v, _, h => by simp at h; subst h; simp [putF]
  | n :: ns, u :: us, f, v, nd, h => by
    simp only [List.length_cons, List.getElem?_cons_succ] at h
    have hne : n ≠ f := fun e => by
      subst e
      exact (List.nodup_cons.mp nd).1 (List.mem_of_getElem? h)
    simp only [List.zip_cons_cons, List.cons_append, putF]
    rw [if_neg hne, putF_zip (List.nodup_cons.mp nd).2 h]
end
section
variable {g : Gs} {E : XK} {w0 w : Wd} {H0 H : Hp} {X : Cx} {e o : Expr} {es : List Expr} {m : Ev} {ms : Evs} {pos p p1 p2 : Pos} {x : Str} {f : Fn} {lv k c : Nat} {dfl : List D} {σI : Sl} {σ : L2.St} {B : Bs} {Q : VK} {b1 : Bool} {i : Nat}
/-! ### fields -/
/-- self.f = e in an __init__: self is the own instance in slot 0 -/
def mFldSet (c : Nat) (m : Ev) : Ms := fun σ B => (m σ B).st fun d B1 => match σ[(0 : Nat)]? with
  | some (some (true, .inst c' ds)) => if c' = c ∧ ds.length < (fldN c).length then .next (σ.set 0 (some (true, .inst c (ds ++ [d])))) B1 else .bad
  | _ => .bad
theorem fldN_len (c : Nat) : (fldN c).length ≤ 3 := by
  unfold fldN
  split <;> simp
theorem z_fldSet (ok : Ok g X) {j : Nat} {n : Str} (hj : (fldN c)[j]? = some n) (he : Snd g E H0 X false e m) (hN : X.N[0]? = some x := by rfl) (hv : Vis X.env.scope x := by first | exact Or.inl rfl | exact Or.inr (Or.inl rfl) | exact Or.inr (Or.inr rfl)) (hd : (x == ("__debug__" : Str)) = false := by decide) (hcd : (x == ("__classdict__" : Str)) = false := by decide)
    (hs : swapsWith e (some (.Attribute (.Name x p1) n p2)) pos.line X.env = pure false := by rfl) : SndS g E w0 H0 X (.Assign [.Attribute (.Name x p1) n p2] e pos) (fun σ B => match σ[(0 : Nat)]? with
      | some (some (true, .inst _ ds)) => if ds.length = j then mFldSet c m σ B else .bad
      | _ => .bad) := by
  refine weakS (ps_fld (pe_var hN hv hd hcd) he hs) ?_
  rintro D σ H ⟨w, σI, B, s, x0, p⟩
  unfold mFldSet at p
  simp only at p
  split at p
  · rename_i c0 ds hi
    split at p
    · rename_i hl0
      subst hl0
      refine st_go s x0 p fun d B1 w1 v H1 x1 x2 s1 r p1 => ?_
      simp only at p1
      split at p1
      · rename_i h
        obtain ⟨hc, hl⟩ := h
        subst hc
        obtain ⟨a, o, e1, ha, ct, np, nb, n0⟩ := s1.ow 0 _ hi
        simp only [Cont] at ct
        obtain ⟨dx, vs, rfl, l, hh, rr⟩ := ct
        have C := ok.fx.cls _ hh
        refine ⟨_, e1, a, _, dx, _, rfl, ha, ok.K ▸ C.cls, ok.K ▸ C.na _ (List.mem_of_getElem? hj), ?_, ?_⟩
        · have := fldN_len c0; rw [List.length_zip]; omega
        · rw [putF_zip C.nd (by rw [rr.len]; exact hj)]
          exact p1 w1 σ _ (Le.refl _) (s1.mut hi e1 (by simp only [Cont]; exact ⟨dx, _, rfl, by simp; omega, hh, Reps.app rr (Reps.one r)⟩) (fun _ _ _ => ⟨_, _, rfl⟩)) (x1.mut n0)
      · exact p1.elim
    · exact p.elim
  · exact p.elim
end
end Hf

set_option Elab.async false
set_option linter.all false
set_option maxRecDepth 100000
set_option maxHeartbeats 4000000
namespace Hf
open PySem PySem.Spec PyProof.Rows L2

/-- a constant of the module -/
def GlobC (g : Gs) (x : Str) (d : D) : Prop := ∃ v u, g.mg x = some u ∧ RelV v u ∧ ∀ w, Rep g w d v
theorem nbs {g : Gs} {X : Cx} (ok : Ok g X) {x : String} (h : x ∈ ["len", "range", "isinstance", "tuple", "list", "all", "any", "max", "min", "set", "sorted", "enumerate", "zip", "repr", "str", "int", "sum", "dict", "bool"] := by decide) : X.mg (Str.ofString x) = Option.none := by
  rw [ok.mg]
  exact ok.fx.nb x h
section
variable {g : Gs} {E : XK} {w0 w : Wd} {H0 H : Hp} {X : Cx} {e o a b : Expr} {es : List Expr} {m ma mb : Ev} {ms : Evs} {pos p p1 p2 apos : Pos} {x : Str} {f : Fn} {lv k c : Nat} {dfl : List D} {σI : Sl} {σ : L2.St} {B : Bs} {Q : VK} {b1 b2 : Bool} {i : Nat}
theorem s_glob (ok : Ok g X) {d : D} (G : GlobC g x d) (hg : Gl X x := by rfl) (hd : (x == ("__debug__" : Str)) = false := by decide) : Snd g E H0 X false (.Name x pos) (mC d) := by
  obtain ⟨v, u, hm, r, h⟩ := G
  exact s_const (pe_glob hg (by rw [ok.mg]; exact hm) r hd) h
/-! ### isinstance -/
def isB : Bt → D → Option Bool
  | .int, .int _ => some true
  | .int, .bool _ => some true
  | .bool, .bool _ => some true
  | .tuple, .tup _ => some true
  | .str, .str _ => some true
  | .list, .lst _ => some true
  | .list, .scr _ => some true
  | _, .prs _ => Option.none
  | _, .box _ => Option.none
  | _, .cls _ => Option.none
  | _, .ptr _ => Option.none
  | _, .fnT _ => Option.none
  | _, .exo .. => Option.none
  | _, .exn .. => Option.none
  | _, _ => some false
def tyN : D → Option String
  | .none => some "NoneType"
  | .int _ => some "int"
  | .bool _ => some "bool"
  | .str _ => some "str"
  | .lst _ => some "list"
  | .scr _ => some "list"
  | .tup _ => some "tuple"
  | .dct _ _ => some "dict"
  | .kd _ _ => some "dict"
  | _ => Option.none
def TyY (g : Gs) (H : Hp) (v : V) (t : Value) : Prop := TyX g.K H v t ∨ (∃ a xs, v = .ref a ∧ H a = some (dctO g a xs) ∧ t = .type "dict") ∨ ∃ (a : Addr) (k x : Int), v = .ref a ∧ H a = some (.dK [(.inl k, .int x)]) ∧ t = .type "dict"
def rIsY (g : Gs) : List V → Hp → VK → Prop := fun xs H Q => ∃ (x c : V) (t u : Value) (b : Bool), xs = [x, c] ∧ ClsV c u ∧ TyY g H x t ∧ PySem.W.kitOne g.K t u = some b ∧ Q (.bl b) H
theorem call_isY (hK : X.K = g.K) : CallR X (.builtin "isinstance") (rIsY g) := by
  intro pins s σ H xs us Q I r h
  obtain ⟨x, c, t, u, b, rfl, k, ty, e, q⟩ := h
  rcases ty with ty | ⟨a, ys, rfl, ha, rfl⟩ | ⟨a, kk, kx, rfl, ha, rfl⟩
  · exact call_isi pins s σ H _ us Q I r ⟨x, c, t, u, b, rfl, k, hK ▸ ty, hK ▸ e, q⟩
  · obtain ⟨u1, u2, rfl, r1, r2⟩ := vals2 r
    have e2 := k.eq r2
    subst e2
    cases (show u1 = Value.ref a from r1)
    obtain ⟨⟨_, _, _, _, _, _, o, es, ep, h1, h2, _⟩, _, _⟩ := (show ObjOk X.prog X.w H s.heap a (dctO g a ys) from I.hok a _ ha)
    exact PySem.W.kia_one PySem.W.kitx_dict I.kIn ⟨o, h1, h2.1⟩ (hK ▸ e) (fun z => nomatch z) fun tk => ⟨.bl b, H, I.tok tk, rfl, q⟩
  · obtain ⟨u1, u2, rfl, r1, r2⟩ := vals2 r
    have e2 := k.eq r2
    subst e2
    cases (show u1 = Value.ref a from r1)
    obtain ⟨_, _, vs, _, o, es, ep, h1, h2, _⟩ := dk_of I.hok ha
    exact PySem.W.kia_one PySem.W.kitx_dict I.kIn ⟨o, h1, h2.1⟩ (hK ▸ e) (fun z => nomatch z) fun tk => ⟨.bl b, H, I.tok tk, rfl, q⟩
theorem tyX_of (s : S0 g H0 w σI B σ H) {d : D} {v : V} {n : String} (r : RepO g w σI σ d v) (h : tyN d = some n) : TyY g H v (.type n) := by
  by_cases hd : ∃ ks ds, d = .dct ks ds
  · obtain ⟨ks, ds, rfl⟩ := hd
    cases h
    obtain ⟨a, xs, rfl, ha, _⟩ := r.dct s
    exact .inr (.inl ⟨a, xs, rfl, ha, rfl⟩)
  by_cases hk : ∃ k x, d = .kd k x
  · obtain ⟨k, x, rfl⟩ := hk
    cases h
    have z := r.of s (by simp) (by simp) (by simp)
    simp only [Rep] at z
    obtain ⟨a, rfl, ha⟩ := z
    exact .inr (.inr ⟨a, k, x, rfl, s.rb.sub _ _ ha, rfl⟩)
  refine .inl ?_
  cases d <;> simp only [tyN, Option.some.injEq, reduceCtorEq] at h <;> subst h
  · rw [r.none s]; exact .base .non
  · rw [r.bool s]; exact .base (.bl _)
  · rw [r.int s]; exact .base (.int _)
  · rw [r.str s]; exact .base (.str _)
  · obtain ⟨a, vs, rfl, q, _⟩ := r.tup s
    rcases q with (q | ⟨o, q⟩) | ⟨o, its, n, q, q2, _⟩
    · exact .base (.tup q)
    · exact .fTuple q
    · exact .kTuple q q2
  · obtain ⟨a, vs, rfl, q, _⟩ := r.lst s
    exact .base (.lst q)
  · obtain ⟨a, vs, rfl, q, _⟩ := r.scr s
    rcases q with (q | ⟨o, q⟩) | ⟨o, its, n, q, q2, _⟩
    · exact .base (.lst q)
    · exact .base (.frz q)
    · exact .kList q q2
  · exact absurd ⟨_, _, rfl⟩ hd
  · exact absurd ⟨_, _, rfl⟩ hk
theorem tyX_ins (ok : Ok g X) (s : S0 g H0 w σI B σ H) {ds : List D} {v : V} (r : RepO g w σI σ (.inst c ds) v) : g.has c = true ∧ TyY g H v (.ref (g.cl c)) := by
  obtain ⟨a, dx, vs, rfl, ha, hl, hh, r⟩ := r.inst s
  have C := ok.fx.cls _ hh
  exact ⟨hh, .inl (.base (.ins ha C.cls C.ha ok.fx.hn ok.fx.htk C.hm))⟩
theorem kit_tab : ∀ T : Bt, ∀ n ∈ ["NoneType", "int", "bool", "str", "list", "tuple", "dict"], kitB n T.nm = some (n == T.nm || (n == "bool" && T == .int)) := by
  intro T
  cases T <;> decide +kernel
theorem tyN_mem {d : D} {n : String} (h : tyN d = some n) : n ∈ ["NoneType", "int", "bool", "str", "list", "tuple", "dict"] := by
  cases d <;> simp only [tyN, Option.some.injEq, reduceCtorEq] at h <;> subst h <;> decide
theorem isB_ty (T : Bt) {d : D} {n : String} (h : tyN d = some n) : isB T d = some (n == T.nm || (n == "bool" && T == .int)) := by
  cases d <;> simp only [tyN, Option.some.injEq, reduceCtorEq] at h <;> subst h <;> cases T <;> rfl
theorem isB_kit (ok : Ok g X) (T : Bt) (s : S0 g H0 w σI B σ H) {d : D} {v : V} {r : Bool} (hr : RepO g w σI σ d v) (h : isB T d = some r) : ∃ t, TyY g H v t ∧ PySem.W.kitOne g.K t (.type T.nm) = some r := by
  cases q : tyN d with
  | some n =>
    refine ⟨_, tyX_of s hr q, ?_⟩
    rw [isB_ty T q] at h
    cases h
    exact kit_ty (kit_tab T n (tyN_mem q))
  | none =>
    cases d <;> simp only [tyN, reduceCtorEq] at q
    · cases T <;> simp [isB] at h
    · obtain ⟨hh, ty⟩ := tyX_ins ok s hr
      refine ⟨_, ty, ?_⟩
      have : r = false := by cases T <;> simp [isB] at h <;> first | exact h | exact h.symm
      subst this
      exact (ok.fx.cls _ hh).isB T
    · cases T <;> simp [isB] at h
    · cases T <;> simp [isB] at h
    · cases T <;> simp [isB] at h
    · cases T <;> simp [isB] at h
    · cases T <;> simp [isB] at h
    · cases T <;> simp [isB] at h
def mIsB (T : Bt) (m : Ev) : Ev := m1 (fun d B => match isB T d with
  | some r => .ok (.bool r) B
  | Option.none => .bad) m
theorem boot_bt (T : Bt) : bootBuiltins (Str.ofString T.nm) = some (.type T.nm) := by cases T <;> decide +kernel
theorem nm_mem (T : Bt) : T.nm ∈ ["len", "range", "isinstance", "tuple", "list", "all", "any", "max", "min", "set", "sorted", "enumerate", "zip", "repr", "str", "int", "sum", "dict", "bool"] := by cases T <;> decide
theorem s_isB (ok : Ok g X) (T : Bt) {tn : Str} (ht : tn = Str.ofString T.nm) (he : Snd g E H0 X b1 e m) (hg : Gl X "isinstance" := by rfl) (hg2 : Gl X tn := by rfl) (hd : (tn == ("__debug__" : Str)) = false := by decide) (hn : tn ≠ "__name__" := by decide)
    (h1 : starEach [e, .Name tn p2] X.env = (false, eval e X.env) :: starEach [.Name tn p2] X.env := by rfl) (h2 : starEach [.Name tn p2] X.env = (false, eval (.Name tn p2) X.env) :: starEach [] X.env := by rfl) (hpl : (backTo pos (starEach [.Name tn p2] X.env)).any (·.1) = false := by rfl) :
    Snd g E H0 X false (.Call (.Name "isinstance" p1) [e, .Name tn p2] [] pos) (mIsB T m) := by
  subst ht
  refine weak (pe_callB (call_isY (g := g) ok.K) hg (nbs ok) PyProof.Rows.boot_isinstance (pa_cons he (pa_cons (pe_bltn (v := .ty T.nm) hg2 (by rw [ok.mg]; exact ok.fx.nb _ (nm_mem T)) (boot_bt T) rfl hn hd) pa_nil h2) h1) (by decide) (by decide) h1 hpl) ?_
  rintro σ H Q ⟨w, σI, B, s, p⟩
  refine tI_bind s p fun d B1 w1 v H1 x1 s1 r1 p1 => ?_
  split at p1
  · rename_i r hr
    obtain ⟨t, ty, kt⟩ := isB_kit ok T s1 r1.up hr
    exact ⟨v, _, t, _, r, rfl, .ty _, ty, kt, p1.nowR s1 (rep_bool g w1 _)⟩
  · exact p1.elim
/-- a class of the module by its name -/
structure ClsN (g : Gs) (c : Nat) (x : Str) : Prop where
  has : g.has c = true
  mg : g.mg x = some (.ref (g.cl c))
/-! ### methods and properties of instances -/
end
end Hf

set_option Elab.async false
set_option linter.all false
set_option maxRecDepth 100000
set_option maxHeartbeats 8000000
namespace Hf
open PySem PySem.Spec PyProof.Rows L2
theorem sub_tuple_set : isSubtype (.type "tuple") (.type "set") = pure false := by
  rw [isSubtype_type]; kernel_rfl
theorem sub_tuple_frozenset : isSubtype (.type "tuple") (.type "frozenset") = pure false := by
  rw [isSubtype_type]; kernel_rfl
abbrev newSet (w : World) : Obj := { cls := .type "set", dict := none, data := .set #[] 0 (.fresh 0 0 (!w.params.followText "set-order")) }
theorem heap_none {h : Heap} {b : Addr} (hb : h.objs.size ≤ b) : h.get? b = Option.none := by
  cases q : h.get? b with
  | none => rfl
  | some o => exact (Nat.lt_irrefl _ (Nat.lt_of_lt_of_le (Heap.lt_size q) hb)).elim
section
variable {P : Program} {w : World} {A : Around} {E : Value → Shared → Prop} {s : Shared}
/-- set(x), x a list or a tuple: what its loop leaves, by whatever invariant the loop's lemma has -/
theorem set_of {Fin : Heap → Prop} {l : Addr} {T : String} {odict : Option Addr} {odata : Data} {oslots : Array (Option Value)} {ito : Obj} {Q : Value → Shared → Prop}
    (hol : s.heap.get? l = some { cls := .type T, dict := odict, data := odata, slots := oslots }) (sl1 : isSubtype (.type T) (.type "set") = pure false) (sl2 : isSubtype (.type T) (.type "frozenset") = pure false) (hne : (Value.type T == Value.type "dict") = false)
    (iter : ∀ (A' : Around) (E' : Value → Shared → Prop) (s1 : Shared) (Q' : Value → Shared → Prop), s1.heap.get? l = some { cls := .type T, dict := odict, data := odata, slots := oslots } → Q' (.ref s1.heap.objs.size) { s1 with heap := s1.heap.push ito } → wpAny (model P w) A' (pyIter (.ref l)) Q' E' s1)
    (loop : ∀ (R : Result → Shared → Prop), (∀ (h' : Heap) (tk : Nat), Fin h' → (∀ b o, s.heap.get? b = some o → h'.get? b = some o) → R (.ok (.ret .none)) { s with heap := h', toks := tk }) →
      codeAny (model P w) A.in1.in1 (.builtin "set.update.loop" ⟨[.ref s.heap.objs.size, .ref (s.heap.push (newSet w)).objs.size], []⟩) R { s with heap := (s.heap.push (newSet w)).push ito })
    (h : ∀ (h' : Heap) (tk : Nat), Fin h' → (∀ b o, s.heap.get? b = some o → h'.get? b = some o) → Q (.ref s.heap.objs.size) { s with heap := h', toks := tk }) :
    wpAny (model P w) A (call (.type "set") [.ref l]) Q E s := by
  obtain ⟨mc, mt, hmro⟩ := F.called_set.mro
  have hmade := F.called_set.made
  have hsub := F.called_set.sub
  refine wpAny_call (codeAny_of_tree ?_)
  show wpAny _ _ (callAny (.type "set") _) _ _ _
  refine wpAny_pure ⟨Code.quiet_builtin _ (by decide +kernel), ?_⟩
  refine codeAny_builtin F.entry_type_call ?_
  rw [Around.under_plain (weight_type_call_type "set" [Value.ref l] []) rfl]
  have nt := F.called_set.notType
  have cc := F.called_set.canCreate
  have ct1 := F.typeCall_set_1 (Value.ref l)
  repeat (any_goals (first | assumption | wp_step))
  let W1 : Value → Shared → Prop := fun obj s₁ => obj = .ref s.heap.objs.size ∧ s₁ = { s with heap := s.heap.push (newSet w) }
  refine codeAny_mono (code_set_led1 (Value.ref l) (E := E) (Q₁ := W1) ⟨rfl, rfl⟩) fun r s₁ hr => ?_
  cases r with
  | error e => exact hr
  | ok fl =>
    cases fl with
    | ret obj =>
      obtain ⟨rfl, rfl⟩ := hr
      have hS : (s.heap.push (newSet w)).get? s.heap.objs.size = some (newSet w) := Heap.get?_push_size _ rfl
      have hT : Shared.TypeIs { s with heap := s.heap.push (newSet w) } (.ref s.heap.objs.size) "set" := ⟨_, hS, rfl⟩
      have li := F.called_set.init.lookup
      have bi := F.called_set.init.bind (.ref s.heap.objs.size)
      repeat (any_goals (first | assumption | wp_step))
      let W2 : Value → Shared → Prop := fun r s₂ => r = .none ∧ ∃ h' tk, s₂ = { s with heap := h', toks := tk } ∧ Fin h' ∧ ∀ b o, s.heap.get? b = some o → h'.get? b = some o
      refine codeAny_mono (codeAny_call_builtin (R := wants W2 E) F.called_set.init.plain F.entry_set_init (check_set_init_1 hT ?_)) fun r₂ s₂ hr₂ => ?_
      · have hol' : (s.heap.push (newSet w)).get? l = some { cls := .type T, dict := odict, data := odata, slots := oslots } := Heap.get?_push_of_some _ hol
        unfold Builtin.«set.__init__» noKeywords Builtin.Frozenset.updateFrom
        generalize hPI : pyIter = PI
        wp_walk
        subst hPI
        refine iter _ _ _ _ hol' ?_
        refine wpAny_bind (wpAny_runValue ?_)
        refine loop _ fun h' tk' hF hkp => ?_
        refine wpAny_pure ?_
        show wpAny _ _ (ret Value.none) _ _ _
        exact wpAny_pure ⟨rfl, h', tk', rfl, hF, hkp⟩
      · cases r₂ with
        | error e => exact hr₂
        | ok fl₂ =>
          cases fl₂ with
          | ret r =>
            obtain ⟨rfl, h', tk, rfl, hF, hk'⟩ := hr₂
            repeat (any_goals (first | assumption | wp_step))
            exact h _ _ hF hk'
          | next => exact hr₂.elim
          | brk => exact hr₂.elim
          | cont => exact hr₂.elim
    | next => exact hr.elim
    | brk => exact hr.elim
    | cont => exact hr.elim
end
end Hf

set_option Elab.async false
set_option linter.all false
set_option maxRecDepth 100000
set_option maxHeartbeats 4000000
namespace Hf
open PySem PySem.Spec PyProof.Rows L2
/-! ### how many different ones -/
def dd {α : Type} [DecidableEq α] : List α → List α
  | [] => []
  | x :: xs => if x ∈ xs then dd xs else x :: dd xs
theorem mem_dd {α : Type} [DecidableEq α] {a : α} : ∀ {l : List α}, a ∈ dd l ↔ a ∈ l
  | [] => by simp [dd]
  | x :: xs => by
    unfold dd
    split
    · rename_i h
      rw [mem_dd, List.mem_cons]
      constructor
      · exact .inr
      · rintro (rfl | h')
        · exact h
        · exact h'
    · rw [List.mem_cons, List.mem_cons, mem_dd]
theorem nodup_dd {α : Type} [DecidableEq α] : ∀ l : List α, (dd l).Nodup
  | [] => by simp [dd]
  | x :: xs => by
    unfold dd
    split
    · exact nodup_dd xs
    · rename_i h
      exact List.nodup_cons.mpr ⟨fun z => h (mem_dd.mp z), nodup_dd xs⟩
theorem nodup_sub_le {α : Type} [DecidableEq α] : ∀ {l m : List α}, l.Nodup → (∀ a ∈ l, a ∈ m) → l.length ≤ m.length
  | [], _, _, _ => Nat.zero_le _
  | x :: xs, m, h, s => by
    have h1 := nodup_sub_le (l := xs) (m := m.erase x) (List.nodup_cons.mp h).2 fun a ha => by
      have ne : a ≠ x := fun e => (List.nodup_cons.mp h).1 (e ▸ ha)
      exact (List.mem_erase_of_ne ne).mpr (s a (List.mem_cons_of_mem _ ha))
    have hx := s x List.mem_cons_self
    rw [List.length_erase_of_mem hx] at h1
    have := List.length_pos_of_mem hx
    simp only [List.length_cons]
    omega
theorem nodup_len {α : Type} [DecidableEq α] {l m : List α} (h : l.Nodup) (h' : m.Nodup) (e : ∀ a, a ∈ l ↔ a ∈ m) : l.length = m.length :=
  Nat.le_antisymm (nodup_sub_le h fun a ha => (e a).mp ha) (nodup_sub_le h' fun a ha => (e a).mpr ha)

/-! ### len(set(t)), t a tuple of tuples of whole numbers -/
def intA : D → Option Int
  | .int i => some i
  | _ => Option.none
def intsA : List D → Option (List Int)
  | [] => some []
  | d :: ds => match intA d, intsA ds with
    | some k, some ks => some (k :: ks)
    | _, _ => Option.none
def tupA : D → Option (List Int)
  | .tup ds => intsA ds
  | _ => Option.none
def tupsA : List D → Option (List (List Int))
  | [] => some []
  | d :: ds => match tupA d, tupsA ds with
    | some k, some ks => some (k :: ks)
    | _, _ => Option.none
theorem intsA_map {ds : List D} {ns : List Int} (h : intsA ds = some ns) : ds = ns.map D.int := by
  induction ds generalizing ns with
  | nil => cases h; rfl
  | cons d ds ih =>
    unfold intsA at h
    split at h
    · rename_i k ks e1 e2
      cases h
      rw [ih e2]
      cases d <;> simp [intA] at e1
      subst e1; rfl
    · cases h
theorem Reps.ints {g : Gs} {w : Wd} : ∀ {ns : List Int} {vs : List V}, Reps g w (ns.map D.int) vs → vs = ns.map V.int
  | [], vs, h => by simpa only [List.map_nil, Reps] using h
  | n :: ns, vs, h => by
    simp only [List.map_cons, Reps, Rep] at h
    obtain ⟨v, us, rfl, rfl, r⟩ := h
    rw [Reps.ints r]; rfl
theorem reps_ints (g : Gs) (w : Wd) : ∀ ns : List Int, Reps g w (ns.map D.int) (ns.map V.int)
  | [] => by simp only [List.map_nil, Reps]
  | n :: ns => by
    simp only [List.map_cons, Reps, Rep]
    exact ⟨_, _, rfl, rfl, reps_ints g w ns⟩
/-- tuples of whole numbers with their addresses -/
theorem Reps.tups {g : Gs} {w : Wd} : ∀ {ds : List D} {vs : List V} {ks : List (List Int)}, Reps g w ds vs → tupsA ds = some ks → ∃ ps : List (Addr × List Int), vs = ps.map (fun p => V.ref p.1) ∧ ks = ps.map (·.2) ∧ ∀ p ∈ ps, SqT g.K w.P p.1 (p.2.map V.int)
  | [], vs, ks, h, e => by
    simp only [Reps] at h
    cases e
    exact ⟨[], h, rfl, by simp⟩
  | d :: ds, vs, ks, h, e => by
    simp only [Reps] at h
    obtain ⟨v, us, rfl, r, rs⟩ := h
    unfold tupsA at e
    split at e
    · rename_i k ks' e1 e2
      cases e
      obtain ⟨ps, h1, h2, h3⟩ := Reps.tups rs e2
      cases d <;> simp [tupA] at e1
      rw [intsA_map e1] at r
      simp only [Rep] at r
      obtain ⟨a, vs, rfl, q, rr⟩ := r
      have ev := rr.ints
      refine ⟨(a, k) :: ps, by simp [h1], by simp [h2], fun p hp => ?_⟩
      rcases List.mem_cons.mp hp with rfl | hp
      · exact ev ▸ q.T
      · exact h3 p hp
    · cases e
def fLenSet : D → Bs → Rs D
  | .tup ds, B => match tupsA ds with
    | some ks => if ks.length < 64 then .ok (.int (dd ks).length) B else .bad
    | Option.none => .bad
  | _, _ => .bad
section
variable {g : Gs} {E : XK} {H0 : Hp} {X : Cx} {e : Expr} {m : Ev} {b1 : Bool} {p p2 q pos : Pos}
def tLS (K : PySem.W.Frag) (ta : TE) : TE := fun σ H Q => ta σ H fun x H1 => ∃ (l : Addr) (ps : List (Addr × List Int)), x = V.ref l ∧ SqT K H1 l (ps.map fun p => V.ref p.1) ∧ (∀ p ∈ ps, SqT K H1 p.1 (p.2.map V.int)) ∧ ps.length < 64 ∧ Q (.int (dd (ps.map (·.2))).length) H1
theorem pe_ls {ta : TE} (hu : X.A.units + 64 < cLine) (hc : X.calm = true) (hg : Gl X "len") (hm : X.mg "len" = none) (hg2 : Gl X "set") (hm2 : X.mg "set" = none) (ha : PE X e ta) (na : starEach [e] X.env = (false, eval e X.env) :: starEach [] X.env) :
    PE X (.Call (.Name "len" p) [.Call (.Name "set" p2) [e] [] q] [] pos) (tLS X.K ta) := by
  refine ⟨fun pins s σ H Q I h => ?_⟩
  refine Call_ (ld_blt I hg hm PySem.boot_len (PyProof.Rows.callWith_builtin1 (PyProof.Rows.args_cons ?_ rfl) rfl rfl))
  refine Call_ (ld_blt I hg2 hm2 PyProof.Rows.boot_set (PyProof.Rows.callWith_type1 (PyProof.Rows.args_cons (thn (ha.run pins s σ H _ I h) fun v s1 ⟨x, H1, I1, r1, q1⟩ => PyProof.Rows.args_nil ?_) na) na rfl))
  obtain ⟨l, ps, rfl, hq, hk, hf, q1⟩ := q1
  cases r1
  obtain ⟨its, rv, ⟨⟨cls, od, data, sl⟩, ho, hcl, n, hd⟩, hz⟩ := I1.tuple hq
  simp only at hcl hd
  subst hcl hd
  have hit : its = ps.map fun p => Value.ref p.1 := refs_of_vals rv
  have hh : X.A.handled = Option.none := I1.ok.hd hc
  have hlS : l < s1.heap.objs.size := Heap.lt_size ho
  have hz1 : (s1.heap.push (newSet X.w)).objs.size = s1.heap.objs.size + 1 := Heap.size_push ..
  have hS : (s1.heap.push (newSet X.w)).get? s1.heap.objs.size = some (newSet X.w) := Heap.get?_push_size _ rfl
  have hsz : its.toArray.size = ps.length := by rw [List.size_toArray, hit, List.length_map]
  refine set_of (P := X.prog) (w := X.w) (Fin := fun h => ∃ L es ep t, SetTR X.prog X.w h s1.heap.objs.size L es ep t ∧ Got ps ps.length L) ho sub_tuple_set sub_tuple_frozenset (by decide) (fun A' E' s2 Q' h1 h2 => wpAny_pyIter_tuple ⟨_, h1, rfl, _, rfl⟩ h2) (fun R hR => ?_) fun h' tk ⟨L, es, ep, t, hT, gt⟩ hk' => ?_
  · have Wk := (Walks.tuple (prog := X.prog) (w := X.w) (A := X.A.in1.in1.in1) (by simp [hh]) (s1.heap.push (newSet X.w)).objs.size l (Nat.ne_of_lt (by rw [hz1]; exact Nat.lt_succ_of_lt hlS)) its.toArray).toS
    refine set_update_tups Wk s1.heap.objs.size ?_ ps hsz hf (fun i v hv => ?_) s1.heap (fun p hp => I1.isT (hk p hp)) (heap_none (Nat.le_refl _)) (fun b hb => ?_) (by show X.A.units + 1 + 1 + 1 < cLine; omega) (its.toArray.size - 0) 0 _ (by omega) (Nat.zero_le _)
      ⟨⟨_, Heap.get?_push_size _ rfl, rfl, rfl⟩, ⟨_, Heap.get?_push_of_some _ (Heap.get?_push_of_some _ ho), rfl, _, rfl⟩⟩ (fun b o e => Heap.get?_push_of_some _ (Heap.get?_push_of_some _ e)) ⟨[], #[], 0, _, setTR_fresh (Heap.get?_push_of_some _ hS), Got.zero ps⟩ ?_
    · simp only [List.mem_cons, List.not_mem_nil, or_false, not_or]
      exact ⟨Nat.ne_of_lt (by rw [hz1]; exact Nat.lt_succ_self _), Nat.ne_of_gt hlS⟩
    · have q : its[i]? = some v := by simpa using hv
      rw [hit, List.getElem?_map] at q
      obtain ⟨p, e1, e2⟩ := Option.map_eq_some_iff.mp q
      exact ⟨p, e1, e2.symm⟩
    · rw [List.mem_singleton.mp hb]
      exact heap_none (by rw [hz1]; exact Nat.le_succ _)
    · rintro ⟨h', g2, d', tk', os'⟩ L es ep t hm' hT gt hkp
      have eg : g2 = s1.gens := hm'.gens
      have ed : d' = s1.drawn := hm'.drawn
      have eo : os' = s1.os := hm'.os
      subst eg ed eo
      rw [hsz] at gt
      exact hR h' tk' ⟨L, es, ep, t, hT, gt⟩ hkp
  · obtain ⟨o, ho', hex, hd'⟩ := hT.ob
    have I2 : Inv X pins σ H1 { s1 with heap := h', toks := tk } := I1.kept fun b o e => hk' b o e
    have hlen : es.size = (dd (ps.map (·.2))).length := by
      rw [SetTR.size (s := { s1 with heap := h', toks := tk }) hT, ← List.length_map (f := (·.2)) (as := L)]
      refine nodup_len hT.nd (nodup_dd _) fun k => ?_
      rw [mem_dd]
      constructor
      · intro hk2
        obtain ⟨p, hp, rfl⟩ := List.mem_map.mp hk2
        exact List.mem_map_of_mem (List.mem_of_mem_take (gt.sub p hp))
      · intro hk2
        obtain ⟨p, hp, rfl⟩ := List.mem_map.mp hk2
        exact gt.all p (by rw [List.take_length]; exact hp)
    have hle : es.size ≤ 64 := by rw [SetTR.size (s := { s1 with heap := h', toks := tk }) hT]; have := hT.few; omega
    refine PyProof.Rows.args_nil (call_len_set (s := { s1 with heap := h', toks := tk }) ho' hex hd' (SetTR.fits (s := { s1 with heap := h', toks := tk }) hT) (by omega) ⟨.int _, H1, I2.tok _, ⟨_, by rw [hlen]⟩, q1⟩)
theorem s_lenSet (ok : Ok g X) (ha : Snd g E H0 X b1 e m) (hg : Gl X "len" := by rfl) (hg2 : Gl X "set" := by rfl) (na : starEach [e] X.env = (false, eval e X.env) :: starEach [] X.env := by rfl) :
    Snd g E H0 X false (.Call (.Name "len" p) [.Call (.Name "set" p2) [e] [] q] [] pos) (m1 fLenSet m) := by
  refine weak (pe_ls (by have := ok.un; omega) ok.calm hg (nbs ok) hg2 (nbs ok) ha na) ?_
  rintro σ H Q ⟨w, σI, B, s, p⟩
  refine tI_bind s p fun d B1 w1 v H1 x1 s1 r1 p1 => ?_
  unfold fLenSet at p1
  split at p1
  · rename_i ds
    split at p1
    · rename_i ks hks
      split at p1
      · rename_i hl
        obtain ⟨a, vs, rfl, q1, r⟩ := r1.up.tup s1
        obtain ⟨ps, rfl, rfl, h3⟩ := Reps.tups r hks
        exact ⟨a, ps, rfl, ok.K ▸ q1, fun p hp => ok.K ▸ sqT_mono s1.rb.sub (h3 p hp), by simpa using hl, p1.nowR s1 (rep_int g w1 _)⟩
      · exact p1.elim
    · exact p1.elim
  · exact p1.elim
end
end Hf

set_option Elab.async false
set_option linter.all false
set_option maxRecDepth 100000
set_option maxHeartbeats 4000000
namespace Hf
open PySem PySem.Spec PyProof.Rows L2

/-! ### a < b < c as a test -/
section
variable {g : Gs} {E : XK} {H0 : Hp} {X : Cx} {a b c : Expr} {ma mb mc : Ev} {pos : Pos} {b1 b2 b3 bo : Bool} {op op' : CmpOp} {f f' : D → D → Bs → Rs D}
theorem chainT_at (P : Cmp g E H0 X op f) {w : Wd} {H : Hp} {σI : Sl} {σ : L2.St} {B : Bs} {Q : Bool → Hp → Prop} {x y : D} {k : Bool → Bs → Rs Bool} (p : PostT g E w H Q ((toB (f x y B)).bind k)) :
    PostE g E w H σI σ false (fun z H' => ∃ b w' B', z = .bl b ∧ Ext w H w' H' ∧ RB g w' B' H' ∧ PostT g E w' H' Q (k b B')) (f x y B) := by
  rcases P.bl x y B with e | ⟨b, B', e⟩
  · rw [e] at p; exact p.elim
  · rw [e] at p ⊢
    intro w' v H' x rb r
    simp only [RepB, Rep] at r
    exact ⟨b, w', B', r, x, rb, PostT.ext x p⟩
theorem t_chain (P : Cmp g E H0 X op f) (P' : Cmp g E H0 X op' f') (ha : Snd g E H0 X b1 a ma) (hb : Snd g E H0 X b2 b mb) (hc : Snd g E H0 X b3 c mc) (hm : lastMarks [op, op'] [b, c] = false := by with_unfolding_all rfl) :
    SndT g E H0 X (.Compare a [op, op'] [b, c] pos) (mChainT f f' ma mb mc) := by
  obtain ⟨r, h1, h2⟩ := id P.ex
  obtain ⟨r', h1', h2'⟩ := id P'.ex
  refine weakT (pt_chain h1 h1' ha hb hc hm) ?_
  rintro σ H Q ⟨w, σI, B, s, p⟩
  refine tI_bindT s p fun d B1 w1 v H1 x1 s1 r1 p1 => ?_
  refine tI_bindT s1 p1 fun d2 B2 w2 v2 H2 x2 s2 r2 p2 => ?_
  refine h2 w2 σI B2 σ H2 _ v v2 d d2 s2 (r1.up.mono x2.le) r2.up ?_
  have p3 := chainT_at (σI := σI) (σ := σ) P p2
  revert p3
  generalize hm : f d d2 B2 = m
  intro p3
  cases m with
  | bad => exact p3
  | exc _ _ _ => exact p3
  | ok e B3 =>
    intro w' v' H' x rb rr
    obtain ⟨k, w3, B4, rfl, x3, rb3, p4⟩ := p3 w' v' H' x rb rr
    refine ⟨k, rfl, ?_⟩
    have s3 := s2.step x3 rb3
    cases k with
    | false => exact ⟨false, rfl, p4 w3 H' (Ext.refl _ _) rb3⟩
    | true =>
      refine tI_bindT s3 p4 fun d5 B5 w5 v5 H5 x5 s5 r5 p5 => ?_
      exact h2' w5 σI B5 σ H5 _ v2 v5 d2 d5 s5 (r2.up.mono (x3.le.trans x5.le)) r5.up (cmp_end P' p5)
end

/-! ### all, any, sum, max, min of a list -/
def boolA : D → Option Bool
  | .bool i => some i
  | _ => Option.none
def boolsA : List D → Option (List Bool)
  | [] => some []
  | d :: ds => match boolA d, boolsA ds with
    | some k, some ks => some (k :: ks)
    | _, _ => Option.none
theorem boolsA_map {ds : List D} {ns : List Bool} (h : boolsA ds = some ns) : ds = ns.map D.bool := by
  induction ds generalizing ns with
  | nil => cases h; rfl
  | cons d ds ih =>
    unfold boolsA at h
    split at h
    · rename_i k ks e1 e2
      cases h
      rw [ih e2]
      cases d <;> simp [boolA] at e1
      subst e1; rfl
    · cases h
theorem Reps.bools {g : Gs} {w : Wd} : ∀ {ns : List Bool} {vs : List V}, Reps g w (ns.map D.bool) vs → vs = ns.map V.bl
  | [], vs, h => by simpa only [List.map_nil, Reps] using h
  | n :: ns, vs, h => by
    simp only [List.map_cons, Reps, Rep] at h
    obtain ⟨v, us, rfl, rfl, r⟩ := h
    rw [Reps.bools r]; rfl
def fAll : D → Bs → Rs D
  | .lst ds, B => match boolsA ds with
    | some bs => .ok (.bool (bs.all id)) B
    | Option.none => .bad
  | _, _ => .bad
section
variable {g : Gs} {E : XK} {H0 : Hp} {X : Cx}
theorem o_all (c : Ok g X) : One g E H0 X (.builtin "all") fAll := ⟨_, cr_all c.calm, fun w σI B σ H Q x d s r p => by
  unfold fAll at p
  split at p
  · split at p
    · rename_i bs hb
      rw [boolsA_map hb] at r
      obtain ⟨a, vs, rfl, q, r⟩ := r.lst s
      rw [r.bools] at q
      exact ⟨a, bs, rfl, .inl (.inl q), p.nowR s (rep_bool g w _)⟩
    · exact p.elim
  · exact p.elim⟩
end

/-! ### sorted(a list or a tuple of whole numbers) -/
def ins (x : Int) : List Int → List Int
  | [] => [x]
  | y :: r => if x ≤ y then x :: y :: r else y :: ins x r
section
variable {prog : Program} {w : World} {A : Around} {E : Value → Shared → Prop} {s : Shared}
end
section
variable {g : Gs} {E : XK} {H0 : Hp} {X : Cx}
end
end Hf

set_option Elab.async false
set_option linter.all false
set_option maxRecDepth 100000
set_option maxHeartbeats 4000000
namespace Hf
open PySem PySem.Spec PyProof.Rows L2 HT

/-! ### texts: join, split, a constant tuple's index -/
section
variable {g : Gs} {E : XK} {w0 w : Wd} {H0 H : Hp} {X : Cx} {o e a b : Expr} {mo me m ma mb : Ev} {pos p p1 p2 p3 apos cpos : Pos} {x : Str} {σI : Sl} {σ : L2.St} {B : Bs} {Q : VK} {b1 b2 bo : Bool}
/-! ### list(range(..)), tuple(range(..)) -/
end

/-! ### xs[::-1], t[:0:-1] -/
/-- how many of the first are left out -/
def bk : Option Int → Nat
  | Option.none => 0
  | some _ => 1
section
variable {prog : Program} {w : World} {A : Around} {E : Value → Shared → Prop} {s : Shared}
end
section
variable {g : Gs} {E : XK} {w0 w : Wd} {H0 H : Hp} {X : Cx} {e : Expr} {m : Ev} {pos p1 p2 p3 p4 : Pos} {B : Bs} {b1 : Bool} {hi : Option Expr} {kc : Nat}
theorem Reps.reverse {g : Gs} {w : Wd} : ∀ {ds : List D} {vs : List V}, Reps g w ds vs → Reps g w ds.reverse vs.reverse
  | [], vs, h => by simp only [Reps] at h; subst h; simp [Reps]
  | d :: ds, vs, h => by
    simp only [Reps] at h
    obtain ⟨v, us, rfl, r, rs⟩ := h
    rw [List.reverse_cons, List.reverse_cons]
    exact Reps.app (Reps.reverse rs) (Reps.one r)
end
end Hf

set_option Elab.async false
set_option linter.all false
set_option maxRecDepth 100000
set_option maxHeartbeats 4000000
namespace Hf
open PySem PySem.Spec PyProof.Rows L2

/-! ### enumerate, zip -/
section
variable {X : Cx} {pins : List (Addr × Obj)} {σ : L2.St} {H : Hp} {s : Shared}
theorem Sk.At.inj (I : Inv X pins σ H s) {k : Sk} {xs ys : List V} (h : k.At X.K H xs) (h' : k.At X.K H ys) : xs = ys := by
  cases k with
  | l a => exact I.list_inj h h'
  | t a => exact I.tuple_inj h h'
  | s x =>
    have h : xs = chV x := h
    have h' : ys = chV x := h'
    rw [h, h']
end
theorem turn_gen {P : Program} {w : World} {K : PySem.W.Frag} {tg : Expr} {J : It} {fp : List Addr} {it : Addr} {tn : Nat → Heap → Prop} (mem : it ∈ fp)
    (obj : ∀ i h, tn i h → ∀ b ∈ fp, ∃ o, h.get? b = some o ∧ ∀ v, o.data ≠ .cell v) (keep : ∀ i h h', tn i h → (∀ b ∈ fp, ∀ o, h.get? b = some o → h'.get? b = some o) → tn i h')
    (self : ∀ (A : Around) (i : Nat) (s : Shared) (Q : Value → Shared → Prop) (E : Value → Shared → Prop), tn i s.heap → Q (.ref it) s → wpAny (model P w) A (pyIter (.ref it)) Q E s)
    (step : ∀ (X : Cx), X.prog = P → X.w = w → X.K = K → X.calm = true → ∀ (i : Nat) (pins : List (Addr × Obj)) (s : Shared) (σ : L2.St) (H : Hp), Inv X pins σ H s → (∀ b ∈ fp, FpOk X pins H b) → tn i s.heap → J.go i H →
      ∃ (fq wr : List Addr) (n : Nat) (Y : Nat → Heap → Value → Heap → Prop) (St : Nat → Heap → Prop), GoesN P w X.A tg it fq wr n Y St ∧ (∀ b ∈ wr, b ∈ fp) ∧ i < n ∧ St i s.heap ∧ (∀ h', St (i + 1) h' → tn (i + 1) h') ∧
        ∀ v h, Y i s.heap v h → ∃ (T : Addr) (xs : List V) (us : List Value), v = .ref T ∧ s.heap.objs.size ≤ T ∧ Vals xs us ∧ h.IsTuple T us.toArray ∧ xs.length ≤ sizeLine ∧ (H T = none → J.yld i H (.ref T) (upd H T (.tup xs))))
    (stop : ∀ (X : Cx), X.prog = P → X.w = w → X.K = K → X.calm = true → ∀ (i : Nat) (pins : List (Addr × Obj)) (s : Shared) (σ : L2.St) (H : Hp), Inv X pins σ H s → (∀ b ∈ fp, FpOk X pins H b) → tn i s.heap → J.stop i H →
      ∃ (fq wr : List Addr) (Y : Nat → Heap → Value → Heap → Prop) (St : Nat → Heap → Prop), GoesN P w X.A tg it fq wr i Y St ∧ (∀ b ∈ wr, b ∈ fp) ∧ St i s.heap) :
    Turn P w K tg J fp it tn where
  mem := mem
  obj := obj
  keep := keep
  self := self
  item := by
    intro X hP hw hK hc i pins s σ H E I hf st hg
    obtain ⟨fq, wr, n, Y, St, W, hwr, hi, hst, hnx, hY⟩ := step X hP hw hK hc i pins s σ H I hf st hg
    refine W.goes i s (fun u s2 => ∃ x H', Inv X pins σ H' s2 ∧ RelV x u ∧ J.yld i H x H' ∧ tn (i + 1) s2.heap ∧ ∀ b ∈ fp, H' b = none) E hi hst fun v h' tk y st' hk htk => ?_
    obtain ⟨T, xs, us, rfl, hT, rv, ht, hz, jy⟩ := hY v h' y
    have hn : H T = none := I.hok.fresh hT
    have new : ObjOk X.prog X.w (upd H T (.tup xs)) h' T (.tup xs) := ⟨hz, us, rv, ht⟩
    subst hP hw
    refine ⟨.ref T, _, I.turnedNew (t' := tk) (ch := fp) (fun b o hb q => hk b o (fun z => hb (hwr b z)) q) hf hT new, rfl, jy hn, hnx _ st', fun b hb => ?_⟩
    obtain ⟨o, e, _⟩ := obj i _ st b hb
    rw [upd_ne (Nat.ne_of_lt (Nat.lt_of_lt_of_le (Heap.lt_size e) hT))]
    exact (hf b hb).1
  done := by
    intro X hP hw hK hc i pins s σ H E I hf st hg
    obtain ⟨fq, wr, Y, St, W, hwr, hst⟩ := stop X hP hw hK hc i pins s σ H I hf st hg
    refine wpAny_mono (W.stops s (fun s1 => Inv X pins σ H s1) E hst fun h' tk hk htk => ?_) (fun r s1 h1 => h1) fun _ _ h => h
    exact I.turnedL (t' := tk) (ch := fp) (fun b o hb q => hk b o (fun z => hb (hwr b z)) q) hf
/-- enumerate(source) -/
def ItE (K : PySem.W.Frag) (k : Sk) : It := ⟨fun i H => ∃ xs, k.At K H xs ∧ i < xs.length, fun i H v H' => ∃ T x, v = .ref T ∧ H T = none ∧ H' = upd H T (.tup [.int (i : Nat), x]) ∧ ∀ xs, k.At K H xs → xs[i]? = some x, fun i H => ∃ xs, k.At K H xs ∧ i = xs.length⟩
theorem turn_enumS {P : Program} {w : World} {K : PySem.W.Frag} {elts : List Expr} {kk : Nat} {tpos : Pos} (k : Sk) (e it : Addr) (hei : e ≠ it) :
    Turn P w K (.Tuple elts kk tpos) (ItE K k) [e, it] e (fun i h => (∃ old, IsEnum h e it (0 + ((i : Nat) : Int)) old) ∧ k.St it i h) := by
  refine turn_gen (by simp) (fun i h st b hb => ?_) (fun i h h' st kp => ?_) (fun A i s Q E st h => ?_) (fun X hP hw hK hc i pins s σ H I hf st hg => ?_) fun X hP hw hK hc i pins s σ H I hf st hg => ?_
  · obtain ⟨⟨old, he⟩, st2⟩ := st
    simp only [List.mem_cons, List.not_mem_nil, or_false] at hb
    rcases hb with rfl | rfl
    · exact ⟨_, he, fun v q => nomatch q⟩
    · exact st2.obj
  · obtain ⟨⟨old, he⟩, st2⟩ := st
    exact ⟨⟨old, kp e (by simp) _ he⟩, st2.at fun o q => kp it (by simp) o q⟩
  · obtain ⟨⟨old, he⟩, st2⟩ := st
    exact wpAny_pyIter_enum he h
  · subst hP hw hK
    obtain ⟨he, st2⟩ := st
    obtain ⟨xs, hx, hi⟩ := hg
    obtain ⟨fq, n, Pd, St, D, rfl, sd, sb, vd, fd⟩ := Sk.draws I hx st2 X.A.in1 (I.ok.hd hc) (hf it (by simp))
    refine ⟨_, _, _, _, _, GoesN.enumFrom 0 D e hei (fun hm => ?_) (by simp), fun b hb => by simpa using hb, hi, ⟨he, sd⟩, fun h' q => ⟨q.1, sb _ _ q.2⟩, fun v h y => ?_⟩
    · rcases List.mem_cons.mp hm with q | q
      · exact hei q
      · exact src_ne I (hf e (by simp)) (fd e q) rfl
    · obtain ⟨T, t, u, rfl, hT, hP, ht⟩ := y
      obtain ⟨x, h1, h2⟩ := vd i u hP
      refine ⟨T, [.int (i : Nat), x], [.int (0 + (i : Int)) t, u], rfl, hT, .cons ⟨t, by simp⟩ (.cons h2 .nil), ht, by show 2 ≤ sizeLine; decide, fun hn => ⟨T, x, rfl, hn, rfl, fun ys hy => ?_⟩⟩
      rw [Sk.At.inj I hy hx]; exact h1
  · subst hP hw hK
    obtain ⟨he, st2⟩ := st
    obtain ⟨xs, hx, rfl⟩ := hg
    obtain ⟨fq, n, Pd, St, D, rfl, sd, sb, vd, fd⟩ := Sk.draws I hx st2 X.A.in1 (I.ok.hd hc) (hf it (by simp))
    refine ⟨_, _, _, _, GoesN.enumFrom 0 D e hei (fun hm => ?_) (by simp), fun b hb => by simpa using hb, ⟨he, sd⟩⟩
    rcases List.mem_cons.mp hm with q | q
    · exact hei q
    · exact src_ne I (hf e (by simp)) (fd e q) rfl
theorem meets_enumerate_one {v : Value} {o : Obj} {H : Heap → Prop} (B : Begins v o H) :
    Meets (Builtin.«enumerate.__new__» ⟨[.type "enumerate", v], []⟩) (fun _ R s => H s.heap ∧
      R (.ok (.ret (.ref (s.heap.push o).objs.size))) { s with heap := (s.heap.push o).push { cls := .type "enumerate", data := .fields #[.none, .bool false, .ref s.heap.objs.size, rawInt 0, .none, .none] } }) :=
  .of_wp fun prog w A R s h => by
    obtain ⟨hp, g, d, tk, os⟩ := s; obtain ⟨h1, h⟩ := h
    have hsub := sub_enumerate
    have q1 : ∀ {A' : Around} {E : Value → Shared → Prop} {Q : Value → Shared → Prop}, Q (.ref hp.objs.size) ⟨hp.push o, g, d, tk, os⟩ → wpAny (model prog w) A' (pyIter v) Q E ⟨hp, g, d, tk, os⟩ :=
      fun q => B.iter prog w _ _ ⟨hp, g, d, tk, os⟩ _ h1 q
    wp_walk using q1
    refine wpAny_stack_any fun st => wpAny_pure ?_
    split
    · rename_i c _ _ _ _ _
      cases (c == Value.type "enumerate")
      · wp_walk using q1
        exact ⟨_, rfl, h⟩
      · wp_walk using q1
        exact ⟨_, rfl, h⟩
    · wp_walk using q1
      exact ⟨_, rfl, h⟩
section
variable {prog : Program} {w : World} {A : Around} {E : Value → Shared → Prop} {s : Shared}
theorem enum_begins1 {v : Value} {o : Obj} {H : Heap → Prop} {Q : Value → Shared → Prop} (B : Begins v o H) (h1 : H s.heap)
    (h : ∀ h', IsEnum h' (s.heap.objs.size + 1) s.heap.objs.size 0 .none → h'.get? s.heap.objs.size = some o →
      (∀ b o, s.heap.get? b = some o → h'.get? b = some o) → Q (.ref (s.heap.objs.size + 1)) { s with heap := h' }) :
    wpAny (model prog w) A (call (.type "enumerate") [v]) Q E s := by
  refine callType_new F.called_enumerate (by decide) (F.typeCall_enumerate_1 _) (F.newCall_enumerate_1 _) (fun obj => F.args_object_init_2 obj _) F.entry_enumerate_new
    (meets_enumerate_one B) ⟨h1, ?_⟩
  have hz : (s.heap.push o).objs.size = s.heap.objs.size + 1 := Heap.size_push ..
  show _ ∧ _
  rw [hz]
  have he : IsEnum ((s.heap.push o).push { cls := .type "enumerate", data := .fields #[.none, .bool false, .ref s.heap.objs.size, rawInt 0, .none, .none] }) (s.heap.objs.size + 1) s.heap.objs.size 0 .none := by
    have := Heap.get?_push_size (s.heap.push o) (o := { cls := .type "enumerate", data := .fields #[.none, .bool false, .ref s.heap.objs.size, rawInt 0, .none, .none] }) rfl
    rw [hz] at this; exact this
  exact ⟨⟨_, he, rfl⟩, h _ he (Heap.get?_push_of_some _ (Heap.get?_push_size _ B.free)) fun b o x => Heap.get?_push_of_some _ (Heap.get?_push_of_some _ x)⟩
end
section
variable {X : Cx} {e e2 : Expr} {ta : TE} {tb : TE} {p pos tpos : Pos} {elts : List Expr} {kk : Nat}
def iEnumS (K : PySem.W.Frag) (ta : TE) : TI := fun σ H R => ta σ H fun x H1 => ∃ k xs, x = Sk.v k ∧ k.At K H1 xs ∧ R (ItE K k) H1
theorem pi_enumS (hg : Gl X "enumerate") (hm : X.mg "enumerate" = none) (he : PE X e ta) (na : starEach [e] X.env = (false, eval e X.env) :: starEach [] X.env := by rfl) :
    PI X (.Tuple elts kk tpos) (.Call (.Name "enumerate" p) [e] [] pos) (iEnumS X.K ta) := by
  refine ⟨fun pins s σ H R I h => ?_⟩
  refine Call_ (ld_blt I hg hm boot_enumerate (PyProof.Rows.callWith_type1 (args_cons (thn (he.run pins s σ H _ I h) fun u s1 ⟨x, H1, I1, r1, k, xs, ex, hk, q⟩ => args_nil ?_) na) na rfl))
  subst ex
  obtain ⟨o, HH, B, h1, hs⟩ := Sk.begins I1 hk r1
  refine enum_begins1 B h1 fun h' hE hit hk' => wpAny_pyIter_enum hE ?_
  refine ⟨s1.heap.objs.size + 1, [s1.heap.objs.size + 1, s1.heap.objs.size], _, _, H1, rfl, I1.kept (t' := s1.toks) hk', turn_enumS k (s1.heap.objs.size + 1) s1.heap.objs.size (Nat.succ_ne_self _), ⟨⟨_, hE⟩, hs _ _ hit⟩, fun c hc => ?_, q⟩
  have hle : s1.heap.objs.size ≤ c := by
    simp only [List.mem_cons, List.not_mem_nil, or_false] at hc
    rcases hc with z | z
    · rw [z]; exact Nat.le_succ _
    · rw [z]; exact Nat.le_refl _
  exact I1.fpOk hle (I1.hok.fresh hle)
end
section
variable {g : Gs} {E : XK} {H0 : Hp} {w : Wd}
theorem SkAt.at {k : Sk} {ds : List D} {H : Hp} (h : SkAt g w k ds) (hs : Same w.P H) : ∃ vs, k.At g.K H vs ∧ Reps g w ds vs := let ⟨vs, a, r⟩ := h; ⟨vs, a.mono hs, r⟩
theorem reg_pair {w1 : Wd} {H : Hp} {B : Bs} {T : Addr} {ds : List D} {vs : List V} (rb : RB g w1 B H) (hn : H T = none) (r : Reps g w1 ds vs) :
    ∃ w2, Ext w1 H w2 (upd H T (.tup vs)) ∧ RB g w2 B (upd H T (.tup vs)) ∧ Rep g w2 (.prs ds) (.ref T) :=
  ⟨regW w1 T (.tup vs), Ext.reg rb hn, rb.reg hn, by
    simp only [Rep]
    exact ⟨T, vs, rfl, .inl (.inl upd_same), Reps.mono (regLe w1 (rb.fresh_P hn)) _ _ r⟩⟩
def enumD (ds : List D) : List D := (List.range ds.length).zipWith (fun i d => D.prs [.int (i : Nat), d]) ds
theorem enumD_len (ds : List D) : (enumD ds).length = ds.length := by simp [enumD]
theorem it_enum {k : Sk} {ds : List D} (h : SkAt g w k ds) : ItOk g w (ItE g.K k) (enumD ds) where
  go := fun i H hi hs => by
    obtain ⟨vs, a, r⟩ := h.at hs
    exact ⟨vs, a, by rw [enumD_len] at hi; rw [r.len]; exact hi⟩
  stop := fun i H hi hs => by
    obtain ⟨vs, a, r⟩ := h.at hs
    exact ⟨vs, a, by rw [enumD_len] at hi; rw [r.len]; exact hi⟩
  yld := fun i H x H' d w1 B e l rb y => by
    obtain ⟨vs, a, r⟩ := h.at (l.P.trans rb.sub)
    obtain ⟨T, y, rfl, hn, rfl, hx⟩ := y
    have hx := hx vs a
    unfold enumD at e
    rw [List.getElem?_zipWith] at e
    have hi : i < ds.length := by rw [← r.len]; exact (List.getElem?_eq_some_iff.mp hx).1
    rw [List.getElem?_range hi, List.getElem?_eq_getElem hi] at e
    simp only [Option.some.injEq] at e
    subst e
    obtain ⟨v, e2, rv⟩ := Reps.get r (List.getElem?_eq_getElem hi)
    rw [hx] at e2; cases e2
    refine reg_pair rb hn ?_
    simp only [Reps, Rep]
    exact ⟨_, _, rfl, rfl, _, _, rfl, Rep.mono l _ _ rv, rfl⟩
variable {X : Cx} {a b : Expr} {ma mb : Ev} {p pos tpos : Pos} {elts : List Expr} {kk : Nat}
def itD (d : D) (B : Bs) : Rs (List D) := match itemsOf d with
  | some ds => .ok ds B
  | Option.none => .bad
def mEnum (m : Ev) : Ei := fun σ B => (m σ B).bind fun d B1 => (itD d B1).bind fun ds B2 => .ok (enumD ds) B2
theorem itD_go {B : Bs} {H : Hp} {R : It → Hp → Prop} {d : D} {v : V} {f : List D → Bs → Rs (List D)} (r : Rep g w d v) (p : PostI g E w H R ((itD d B).bind f)) : ∃ ds k, v = Sk.v k ∧ SkAt g w k ds ∧ PostI g E w H R (f ds B) := by
  unfold itD at p
  cases hd : itemsOf d with
  | none => rw [hd] at p; exact p.elim
  | some ds =>
    rw [hd] at p
    obtain ⟨k, e, hk⟩ := Rep.sk r hd
    exact ⟨ds, k, e, hk, p⟩
theorem SkAt.mono {w1 : Wd} {k : Sk} {ds : List D} (l : Le w w1) (h : SkAt g w k ds) : SkAt g w1 k ds := let ⟨vs, a, r⟩ := h; ⟨vs, a.mono l.P, Reps.mono l _ _ r⟩
theorem i_enum (c : Ok g X) (h : Snd g E H0 X false a ma) (hg : Gl X "enumerate" := by rfl) (na : starEach [a] X.env = (false, eval a X.env) :: starEach [] X.env := by rfl) : SndI g E H0 X (.Tuple elts kk tpos) (.Call (.Name "enumerate" p) [a] [] pos) (mEnum ma) := by
  refine weakI (pi_enumS hg (nbs c) h na) ?_
  rintro σ H R ⟨w, σI, B, s, p⟩
  refine tI_bindI s p fun d B1 w1 v H1 x1 s1 r p1 => ?_
  obtain ⟨ds, k, rfl, hk, p2⟩ := itD_go r p1
  obtain ⟨vs, a1, _⟩ := hk.at s1.rb.sub
  rw [c.K]
  exact ⟨k, vs, rfl, a1, p2 w1 _ H1 (Ext.refl _ _) s1.rb (it_enum hk)⟩
end
end Hf

set_option Elab.async false
set_option linter.all false
set_option maxRecDepth 100000
set_option maxHeartbeats 4000000
namespace Hf
open PySem PySem.Spec PyProof.Rows L2

/-! ### keys -/
section
variable {g : Gs} {w : Wd} {X : Cx} {pins : List (Addr × Obj)} {σ : L2.St} {H : Hp} {s : Shared}
mutual
theorem nk_is (I : Inv X pins σ H s) (hK : X.K = g.K) (hs : Same w.P H) : ∀ (d : D) (v : V) (u : Value) (k : NestedKey), Rep g w d v → RelV v u → nkD d = some k → NestedIs s.heap k u
  | .none, v, u, k, r, ru, h => by
    simp only [Rep] at r; subst r
    simp only [nkD, Option.some.injEq] at h; subst h
    cases (show u = Value.none from ru)
    exact .none
  | .bool b, v, u, k, r, ru, h => by
    simp only [Rep] at r; subst r
    simp only [nkD, Option.some.injEq] at h; subst h
    cases (show u = Value.bool b from ru)
    exact .bool rfl
  | .int i, v, u, k, r, ru, h => by
    simp only [Rep] at r; subst r
    simp only [nkD, Option.some.injEq] at h; subst h
    obtain ⟨t, rfl⟩ := ru
    exact .int _ _
  | .str i, v, u, k, r, ru, h => by
    simp only [Rep] at r; subst r
    simp only [nkD, Option.some.injEq] at h; subst h
    obtain ⟨t, rfl⟩ := ru
    exact .text _ _
  | .tup ds, v, u, k, r, ru, h => by
    simp only [Rep] at r
    obtain ⟨a, vs, rfl, q, r⟩ := r
    simp only [nkD, Option.map_eq_some_iff] at h
    obtain ⟨ks, h, rfl⟩ := h
    cases (show u = Value.ref a from ru)
    obtain ⟨its, rv, ⟨o, ho, hc, n, hd⟩, hz⟩ := I.tuple (hK ▸ sqT_mono hs q.T)
    exact .tup ho hc hd (by simpa using nks_is I hK hs ds vs its ks r rv h)
  | .lst ds, v, u, k, r, ru, h => by simp [nkD] at h
  | .scr ds, v, u, k, r, ru, h => by simp [nkD] at h
  | .prs ds, v, u, k, r, ru, h => by simp [nkD] at h
  | .dct ks ds, v, u, k, r, ru, h => by simp [nkD] at h
  | .inst c ds, v, u, k, r, ru, h => by simp [nkD] at h
  | .box n, v, u, k, r, ru, h => by simp [nkD] at h
  | .cls n, v, u, k, r, ru, h => by simp [nkD] at h
  | .kd n x, v, u, k, r, ru, h => by simp [nkD] at h
  | .fnT n, v, u, k, r, ru, h => by simp [nkD] at h
  | .exo a dd f x, v, u, k, r, ru, h => by simp [nkD] at h
  | .exn c ds, v, u, k, r, ru, h => by simp [nkD] at h
theorem nks_is (I : Inv X pins σ H s) (hK : X.K = g.K) (hs : Same w.P H) : ∀ (ds : List D) (vs : List V) (us : List Value) (ks : List NestedKey), Reps g w ds vs → Vals vs us → nksD ds = some ks → NestedAll s.heap ks us
  | [], vs, us, ks, r, ru, h => by
    simp only [Reps] at r; subst r
    simp only [nksD, Option.some.injEq] at h; subst h
    cases ru
    exact .nil
  | d :: ds, vs, us, ks, r, ru, h => by
    simp only [Reps] at r
    obtain ⟨v, ws, rfl, r, rs⟩ := r
    simp only [nksD] at h
    split at h
    · rename_i k ks' e1 e2
      cases h
      cases ru with
      | cons r1 r2 => exact .cons (nk_is I hK hs d v _ k r r1 e1) (nks_is I hK hs ds ws _ ks' rs r2 e2)
    · cases h
end
/-- at b stands a key k -/
def KeyH (g : Gs) (H : Hp) (k : NestedKey) (b : Addr) : Prop := ∃ w d, Same (Wd.P w) H ∧ Rep g w d (.ref b) ∧ nkD d = some k
theorem KeyH.is (I : Inv X pins σ H s) (ok : Ok g X) {k : NestedKey} {b : Addr} (h : KeyH g H k b) (hd : k.depth ≤ 8) : (nestedKind X.prog X.w).is s.heap k b := by
  obtain ⟨w, d, hs, r, e⟩ := h
  exact ⟨nk_is I ok.K hs d _ _ k r rfl e, hd⟩
def KeysH (g : Gs) (H : Hp) (xs : List (NestedKey × Addr × V)) : Prop := ∀ p ∈ xs, KeyH g H p.1 p.2.1
theorem paired_mem {α β : Type} {F : α → β → Prop} : ∀ {l : List α} {m : List β}, Paired F l m → ∀ b ∈ m, ∃ a ∈ l, F a b
  | _, _, .nil, _, h => nomatch h
  | _, _, .cons h t, b, hb => by
    rcases List.mem_cons.mp hb with rfl | hb
    · exact ⟨_, List.mem_cons_self, h⟩
    · obtain ⟨a, ha, f⟩ := paired_mem t b hb
      exact ⟨a, List.mem_cons_of_mem _ ha, f⟩
abbrev PF : (NestedKey × Addr × V) → (NestedKey × Addr × Value) → Prop := fun p q => p.1 = q.1 ∧ p.2.1 = q.2.1 ∧ RelV p.2.2 q.2.2
theorem paired_keys : ∀ {l : List (NestedKey × Addr × V)} {m : List (NestedKey × Addr × Value)}, Paired PF l m → l.map (·.1) = m.map (·.1)
  | _, _, .nil => rfl
  | _, _, .cons h t => by rw [List.map_cons, List.map_cons, h.1, paired_keys t]
theorem dct_of (I : Inv X pins σ H s) (ok : Ok g X) {a : Addr} {xs : List (NestedKey × Addr × V)} (h : H a = some (dctO g a xs)) (kh : KeysH g H xs) :
    (a == sysModules) = false ∧ xs.length ≤ sizeLine ∧ (∀ p ∈ xs, p.1.depth ≤ 8) ∧ ∃ ys, Paired PF xs ys ∧ s.heap.DictOfH (nestedKind X.prog X.w) a ys := by
  obtain ⟨h1, h2, h3, h4, ys, h5, o, es, ep, ho, hx, hd, he⟩ := (I.hok a _ h).1
  refine ⟨h1, h2, h3, ys, h5, o, es, ep, ho, hx, hd, by rw [ok.prog, ok.w]; exact he, fun y hy => ?_, by rw [← paired_keys h5]; exact h4⟩
  obtain ⟨p, hp, e1, e2, _⟩ := paired_mem h5 y hy
  rw [← e1, ← e2]
  exact (kh p hp).is I ok (h3 p hp)
def atX (xs : List (NestedKey × Addr × V)) (k : NestedKey) : Option V := (xs.find? fun p => decide (p.1 = k)).map (·.2.2)
theorem at_rel {k : NestedKey} : ∀ {xs : List (NestedKey × Addr × V)} {ys : List (NestedKey × Addr × Value)}, Paired PF xs ys → (atX xs k = none ∧ atKey ys k = none) ∨ ∃ v b u, atX xs k = some v ∧ atKey ys k = some (b, u) ∧ RelV v u
  | _, _, .nil => .inl ⟨rfl, rfl⟩
  | x :: xs, y :: ys, .cons h t => by
    unfold atX atKey
    by_cases e : x.1 = k
    · have e2 : y.1 = k := by rw [← h.1]; exact e
      simp only [List.find?_cons, decide_eq_true e, decide_eq_true e2, Option.map_some]
      exact .inr ⟨_, _, _, rfl, rfl, h.2.2⟩
    · have e2 : ¬ y.1 = k := by rw [← h.1]; exact e
      simp only [List.find?_cons, decide_eq_false e, decide_eq_false e2]
      exact at_rel t
def putP (k : NestedKey) (v : V) (p : NestedKey × Addr × V) : NestedKey × Addr × V := if p.1 = k then (p.1, p.2.1, v) else p
def stX (xs : List (NestedKey × Addr × V)) (k : NestedKey) (b : Addr) (v : V) : List (NestedKey × Addr × V) := if (atX xs k).isSome then xs.map (putP k v) else xs ++ [(k, b, v)]
theorem st_rel {k : NestedKey} {b : Addr} {v : V} {u : Value} {xs : List (NestedKey × Addr × V)} {ys : List (NestedKey × Addr × Value)} (h : Paired PF xs ys) (r : RelV v u) : Paired PF (stX xs k b v) (storedH ys k b u) := by
  unfold stX storedH
  rcases at_rel (k := k) h with ⟨e1, e2⟩ | ⟨v', b', u', e1, e2, _⟩
  · rw [e1, e2]
    simp only [Option.isSome_none, Bool.false_eq_true, if_false]
    exact h.snoc ⟨rfl, rfl, r⟩
  · rw [e1, e2]
    simp only [Option.isSome_some, if_true]
    clear e1 e2
    induction h with
    | nil => exact .nil
    | @cons p q l m hp t ih =>
      refine .cons ?_ ih
      unfold putP putAt
      rw [← hp.1]
      split
      · exact ⟨rfl, hp.2.1, r⟩
      · exact hp
theorem stX_keys {k : NestedKey} {b : Addr} {v : V} {xs : List (NestedKey × Addr × V)} : (∀ p ∈ stX xs k b v, (∃ q ∈ xs, q.1 = p.1 ∧ q.2.1 = p.2.1) ∨ (p.1 = k ∧ p.2.1 = b)) ∧ (stX xs k b v).length ≤ xs.length + 1 ∧ ((xs.map (·.1)).Nodup → ((stX xs k b v).map (·.1)).Nodup) := by
  unfold stX
  split
  · refine ⟨fun p hp => ?_, by simp, fun h => ?_⟩
    · obtain ⟨q, hq, rfl⟩ := List.mem_map.mp hp
      refine .inl ⟨q, hq, ?_⟩
      unfold putP
      split <;> exact ⟨rfl, rfl⟩
    · have : (xs.map (putP k v)).map (·.1) = xs.map (·.1) := by
        rw [List.map_map]
        refine List.map_congr_left fun q hq => ?_
        show (putP k v q).1 = q.1
        unfold putP
        split <;> rfl
      rw [this]; exact h
  · rename_i hn
    refine ⟨fun p hp => ?_, by simp, fun h => ?_⟩
    · rcases List.mem_append.mp hp with hp | hp
      · exact .inl ⟨p, hp, rfl, rfl⟩
      · rw [List.mem_singleton.mp hp]; exact .inr ⟨rfl, rfl⟩
    · rw [List.map_append, List.nodup_append]
      refine ⟨h, by simp, fun a ha c hc => ?_⟩
      simp only [List.map_cons, List.map_nil, List.mem_singleton] at hc
      subst hc
      rintro rfl
      obtain ⟨q, hq, e⟩ := List.mem_map.mp ha
      have : (atX xs a).isSome = true := by
        unfold atX
        rw [Option.isSome_map]
        exact List.find?_isSome.mpr ⟨q, hq, decide_eq_true e⟩
      exact hn this
/-- D[b] = v, in a comprehension -/
theorem d_setK {E : Value → Shared → Prop} {a b : Addr} {xs : List (NestedKey × Addr × V)} {k : NestedKey} {v : V} {r : Value} {Q : Unit → Shared → Prop} (I : Inv X pins σ H s) (ok : Ok g X) (h : H a = some (dctO g a xs)) (kh : KeysH g H xs) (kb : KeyH g H k b) (hd : k.depth ≤ 8) (hz : xs.length < sizeLine) (rv : RelV v r)
    (q : ∀ s', Inv X pins σ (upd H a (dctO g a (stX xs k b v))) s' → Q () s') : wpAny (model X.prog X.w) X.A (dictSet a (.ref b) r) Q E s := by
  obtain ⟨h1, h2, h3, ys, h5, hm⟩ := dct_of I ok h kh
  have hl : ys.length ≤ sizeLine := by rw [← Paired.length h5]; exact h2
  have hu : X.A.units + 8 < cLine := by have := ok.un; omega
  refine wpAny_dictSet_heap (hsz := hl) hu (kb.is I ok hd) hm fun h' hm' hs => q _ ?_
  obtain ⟨o, es, ep, ho, hx, hdt, he, _, hnd⟩ := hm'
  obtain ⟨c1, c2, c3⟩ := @stX_keys k b v xs
  obtain ⟨_, _, _, h4, _⟩ := (I.hok a _ h).1
  refine d_write I (by rw [h]; exact True.intro) hs ⟨o, ho⟩ ⟨⟨h1, by omega, fun p hp => ?_, c3 h4, _, st_rel h5 rv, o, es, ep, ho, hx, hdt, by rw [← ok.prog, ← ok.w]; exact he⟩, ⟨o, ho⟩, ?_⟩
  · rcases c1 p hp with ⟨q, hq, e, _⟩ | ⟨e, _⟩
    · rw [← e]; exact h3 q hq
    · rw [e]; exact hd
  · rintro g1 g2 ⟨i1, i2, i3, i4, ys', i5, o', es', ep', j1, j2, j3, j4⟩ hk
    exact ⟨i1, i2, i3, i4, ys', i5, o', es', ep', hk _ j1, j2, j3, j4⟩
theorem dct_new (ok : Ok g X) (h : Heap) (hb : sysModules < h.objs.size) : ObjOk X.prog X.w H (h.push { cls := .type "dict", data := .dict #[] }) h.objs.size (dctO g h.objs.size []) := by
  have e : (h.push { cls := .type "dict", data := .dict #[] }).get? h.objs.size = some { cls := .type "dict", data := .dict #[] } := Heap.get?_push_size _ rfl
  have z : (h.objs.size == sysModules) = false := beq_eq_false_iff_ne.mpr (Nat.ne_of_gt hb)
  have z2 : ∀ p ∈ ([] : List (NestedKey × Addr × V)), p.1.depth ≤ 8 := fun p hp => nomatch hp
  refine ⟨⟨z, Nat.zero_le _, z2, List.nodup_nil, [], Paired.nil, _, _, _, e, ⟨rfl, rfl, rfl⟩, rfl, rfl⟩, ⟨_, e⟩, ?_⟩
  · rintro g1 g2 ⟨i1, i2, i3, i4, ys', i5, o', es', ep', j1, j2, j3, j4⟩ hk
    exact ⟨i1, i2, i3, i4, ys', i5, o', es', ep', hk _ j1, j2, j3, j4⟩
end

/-! ### dicts as data -/
def dAt : List D → List D → NestedKey → Option D
  | k' :: ks, d :: ds, k => if nkD k' = some k then some d else dAt ks ds k
  | _, _, _ => Option.none
def dSet : List D → List D → NestedKey → D → List D
  | k' :: ks, d :: ds, k, v => (if nkD k' = some k then v else d) :: dSet ks ds k v
  | _, _, _, _ => []
def keyT : D → Option NestedKey
  | .tup ds => match nkD (.tup ds) with
    | some k => if k.depth ≤ 8 then some k else Option.none
    | Option.none => Option.none
  | _ => Option.none
def dPut (ks ds : List D) (kd vd : D) : Option (List D × List D) := match keyT kd with
  | some k => if ks.length < sizeLine then some (if (dAt ks ds k).isSome then (ks, dSet ks ds k vd) else (ks ++ [kd], ds ++ [vd])) else Option.none
  | Option.none => Option.none
theorem keyT_ok {d : D} {k : NestedKey} (h : keyT d = some k) : (∃ ds, d = .tup ds) ∧ nkD d = some k ∧ k.depth ≤ 8 := by
  cases d <;> simp only [keyT, reduceCtorEq] at h
  split at h
  · rename_i ds k' e
    split at h
    · rename_i hd
      cases h
      exact ⟨⟨_, rfl⟩, e, hd⟩
    · cases h
  · cases h
section
variable {g : Gs} {w : Wd}
theorem dAt_rel {k : NestedKey} : ∀ {ks ds : List D} {xs : List (NestedKey × Addr × V)}, ks.map nkD = xs.map (fun p => some p.1) → Reps g w ds (xs.map fun p => p.2.2) → (dAt ks ds k = Option.none ∧ atX xs k = none) ∨ ∃ d v, dAt ks ds k = some d ∧ atX xs k = some v ∧ Rep g w d v
  | [], ds, xs, h, r => by
    cases xs with
    | nil => exact .inl ⟨by cases ds <;> rfl, rfl⟩
    | cons x xs => simp at h
  | k' :: ks, ds, [], h, r => by simp at h
  | k' :: ks, [], x :: xs, h, r => by simp [Reps] at r
  | k' :: ks, d :: ds, x :: xs, h, r => by
    simp only [List.map_cons, List.cons.injEq] at h
    simp only [List.map_cons, Reps] at r
    obtain ⟨v, us, e, r1, r2⟩ := r
    cases e
    unfold dAt atX
    rw [h.1]
    by_cases e : x.1 = k
    · simp only [e, if_true, List.find?_cons, decide_true, Option.map_some]
      exact .inr ⟨_, _, rfl, rfl, r1⟩
    · simp only [Option.some.injEq, e, if_false, List.find?_cons, decide_false]
      exact dAt_rel h.2 r2
theorem dSet_rel {k : NestedKey} {vd : D} {v : V} (rv : Rep g w vd v) : ∀ {ks ds : List D} {xs : List (NestedKey × Addr × V)}, ks.map nkD = xs.map (fun p => some p.1) → Reps g w ds (xs.map fun p => p.2.2) → Reps g w (dSet ks ds k vd) ((xs.map (putP k v)).map fun p => p.2.2)
  | [], ds, xs, h, r => by
    cases xs with
    | nil => cases ds <;> simp [dSet, Reps]
    | cons x xs => simp at h
  | k' :: ks, ds, [], h, r => by simp at h
  | k' :: ks, [], x :: xs, h, r => by simp [Reps] at r
  | k' :: ks, d :: ds, x :: xs, h, r => by
    simp only [List.map_cons, List.cons.injEq] at h
    simp only [List.map_cons, Reps] at r
    obtain ⟨u, us, e, r1, r2⟩ := r
    cases e
    unfold dSet
    rw [h.1]
    simp only [List.map_cons, Reps]
    refine ⟨_, _, rfl, ?_, dSet_rel rv h.2 r2⟩
    unfold putP
    by_cases e : x.1 = k
    · simp only [e, if_true]; exact rv
    · simp only [Option.some.injEq, e, if_false]; exact r1
/-- a dict's content -/
def DC (g : Gs) (w : Wd) (ks ds : List D) (xs : List (NestedKey × Addr × V)) : Prop := ks.map nkD = xs.map (fun p => some p.1) ∧ Reps g w ks (xs.map fun p => V.ref p.2.1) ∧ Reps g w ds (xs.map fun p => p.2.2)
theorem DC.nil : DC g w [] [] [] := by simp [DC, Reps]
theorem DC.mono {w' : Wd} (l : Le w w') {ks ds : List D} {xs : List (NestedKey × Addr × V)} (h : DC g w ks ds xs) : DC g w' ks ds xs := ⟨h.1, Reps.mono l _ _ h.2.1, Reps.mono l _ _ h.2.2⟩
theorem DC.keys {H : Hp} (hs : Same w.P H) : ∀ {ks ds : List D} {xs : List (NestedKey × Addr × V)}, DC g w ks ds xs → KeysH g H xs := by
  intro ks ds xs h
  obtain ⟨h1, h2, h3⟩ := h
  clear h3
  induction xs generalizing ks with
  | nil => exact fun p hp => nomatch hp
  | cons x xs ih =>
    cases ks with
    | nil => simp at h1
    | cons k ks =>
      simp only [List.map_cons, List.cons.injEq] at h1
      simp only [List.map_cons, Reps] at h2
      obtain ⟨v, us, e, r1, r2⟩ := h2
      cases e
      intro p hp
      rcases List.mem_cons.mp hp with rfl | hp
      · exact ⟨w, k, hs, r1, h1.1⟩
      · exact ih h1.2 r2 p hp
theorem DC.put {ks ds : List D} {xs : List (NestedKey × Addr × V)} {kd vd : D} {k : NestedKey} {b : Addr} {v : V} {ks' ds' : List D} (h : DC g w ks ds xs) (rk : Rep g w kd (.ref b)) (rv : Rep g w vd v) (hk : keyT kd = some k) (hp : dPut ks ds kd vd = some (ks', ds')) : DC g w ks' ds' (stX xs k b v) ∧ xs.length < sizeLine := by
  unfold dPut at hp
  rw [hk] at hp
  simp only at hp
  split at hp
  · rename_i hz
    obtain ⟨h1, h2, h3⟩ := h
    have hl : ks.length = xs.length := by have := congrArg List.length h1; simpa using this
    refine ⟨?_, by omega⟩
    unfold stX
    rcases dAt_rel (k := k) h1 h3 with ⟨e1, e2⟩ | ⟨d, v', e1, e2, _⟩
    · rw [e1] at hp
      simp only [Option.isSome_none, Bool.false_eq_true, if_false, Option.some.injEq, Prod.mk.injEq] at hp
      obtain ⟨rfl, rfl⟩ := hp
      rw [e2]
      simp only [Option.isSome_none, Bool.false_eq_true, if_false]
      refine ⟨by rw [List.map_append, List.map_append, h1]; simp [(keyT_ok hk).2.1], ?_, ?_⟩
      · rw [List.map_append]; exact Reps.app h2 (Reps.one rk)
      · rw [List.map_append]; exact Reps.app h3 (Reps.one rv)
    · rw [e1] at hp
      simp only [Option.isSome_some, if_true, Option.some.injEq, Prod.mk.injEq] at hp
      obtain ⟨rfl, rfl⟩ := hp
      rw [e2]
      simp only [Option.isSome_some, if_true]
      have c1 : (xs.map (putP k v)).map (fun p => p.1) = xs.map (fun p => p.1) := by
        rw [List.map_map]
        refine List.map_congr_left fun q hq => ?_
        show (putP k v q).1 = q.1
        unfold putP; split <;> rfl
      have c2 : (xs.map (putP k v)).map (fun p => V.ref p.2.1) = xs.map (fun p => V.ref p.2.1) := by
        rw [List.map_map]
        refine List.map_congr_left fun q hq => ?_
        show V.ref (putP k v q).2.1 = V.ref q.2.1
        unfold putP; split <;> rfl
      refine ⟨?_, by rw [c2]; exact h2, dSet_rel rv h1 h3⟩
      have := congrArg (List.map some) c1
      rw [h1]
      simpa [List.map_map, Function.comp_def] using this.symm
  · cases hp
end
/-! ### in, not in -/
section
variable {g : Gs} {E : XK} {H0 : Hp} {X : Cx}
end
/-! ### d.get(k, x) -/
section
variable {g : Gs} {E : XK} {H0 : Hp} {X : Cx} {o e e2 : Expr} {to te tf : TE} {mo me mf : Ev} {apos cpos : Pos} {b1 b2 b3 : Bool}
end
end Hf

set_option Elab.async false
set_option linter.all false
set_option maxRecDepth 100000
set_option maxHeartbeats 4000000
namespace Hf
open PySem PySem.Spec PyProof.Rows L2

/-! ### {k: v for ..}, the keys tuples: turned from the library's rule for keys that are whole numbers or texts -/
section
variable {X : Cx}
def tDcK (g0 : Gs) (wi : TI) (gt : TG) (tt : TT) (tk tv : TE) (vs : List Nat) : TE := fun σ H Q => wi σ H fun J G1 => ∀ D, G1 D = none → ∃ W : Nat → Nat → Hp → Prop, (∃ m, W 0 m (upd G1 D (dctO g0 D []))) ∧ ∀ i m H, W i m H →
  (J.stop i H ∧ Q (.ref D) H) ∨ (J.go i H ∧ ∃ Nx : Hp → Prop, (∀ H', Nx H' → ∃ m', m' < m ∧ W (i + 1) m' H') ∧ ∀ x H', J.yld i H x H' → gt x (wipe σ vs) H' fun τ2 G2 => wipe τ2 vs = wipe σ vs ∧ tt τ2 G2 fun b G3 =>
    if b = true then tk τ2 G3 fun y G4 => tv τ2 G4 fun z G5 => ∃ xs k b, y = .ref b ∧ G5 D = some (dctO g0 D xs) ∧ KeysH g0 G5 xs ∧ KeyH g0 G5 k b ∧ k.depth ≤ 8 ∧ xs.length < sizeLine ∧ Nx (upd G5 D (dctO g0 D (stX xs k b z))) else Nx G3)
theorem dk_core {pins : List (Addr × Obj)} {s : Shared} {σ : L2.St} {H : Hp} {Q : VK} {ke ve tg iter : Expr} {ifs : List Expr} {scope : Scope} {mine : List (Str × Nat)} {pos pos2 : Pos} {g0 : Gs} {wi : TI} {gt : TG} {tt : TT} {tk tv : TE} {use : Option (Value → Sem Unit)} {Qf : Value → Shared → Prop}
    (ok0 : Ok g0 X) (hc : X.calm = true) (hN : X.N.Nodup) (I : Inv X pins σ H s) (hi : PI X tg iter wi) (ok : BlkOk X.N X.env.scope scope mine)
    (hg : ∀ (s : Shared) (H : Hp) (C : Addr) (cl : List (Str × Addr)) (fp : List Addr), PG (X.blk s H scope (compEnvC scope cl C X.env) fp) tg gt) (ht : ∀ (s : Shared) (H : Hp) (C : Addr) (cl : List (Str × Addr)) (fp : List Addr), PTs (X.blk s H scope (compEnvC scope cl C X.env) fp) ifs tt)
    (hk : ∀ (s : Shared) (H : Hp) (C : Addr) (cl : List (Str × Addr)) (fp : List Addr), PE (X.blk s H scope (compEnvC scope cl C X.env) fp) ke tk)
    (he : ∀ (s : Shared) (H : Hp) (C : Addr) (cl : List (Str × Addr)) (fp : List Addr), PE (X.blk s H scope (compEnvC scope cl C X.env) fp) ve tv) (hs : ∀ x, foldedSetIterable iter X.env x = pure x)
    (h : tDcK g0 wi gt tt tk tv (mine.map (·.2)) σ H Q)
    (hRR : ∀ D C s' m H', Inv X pins σ H' s' → Q (.ref D) H' → s'.heap.Ns C m → FpOk X pins H' C → compPost (model X.prog X.w) X.A X.xe use Qf (.ref D) C (.ok .next) s') :
    wpAny (model X.prog X.w) X.A (comprehension (.DictComp ke ve [⟨tg, iter, ifs, 0⟩] scope pos) scope X.env pos2 newDict false (eval iter X.env) use) Qf X.xe s := by
  have hfree : ∀ y ∈ scope.names, y.2 = .free → ∃ c, X.env.cells.lookup y.1 = some c := fun y hy e => by
    rcases ok.free y hy e with k | k
    · exact I.ok.has _ (.inl k)
    · exact I.ok.has _ (.inr k)
  refine wpAny_comprehension_free (use := use) rfl hs (closure_ok hfree) ok.kind (fun y hy e => by rw [ok.uniq y hy, e])
    (thn (hi.run pins s σ H _ I h) fun xv u1 hx => thn hx fun itv u2 hh2 => ?_)
  obtain ⟨it, fp, tn, J, G2, e, J2, T, stt2, ff2, q⟩ := hh2
  subst e
  refine wpAny_newObj_type (newEnv_comp ?_)
  generalize hD : u2.heap.objs.size = D
  have hEn : G2 D = none := J2.hok.fresh (Nat.le_of_eq hD)
  obtain ⟨W, ⟨mm0, ww0⟩, step1⟩ := q D hEn
  -- the new list
  generalize hv3 : ({ u2 with heap := u2.heap.push { cls := .type "dict", data := .dict #[] } } : Shared) = u3
  have J3 : Inv X pins σ (upd G2 D (dctO g0 D [])) u3 := by
    rw [← hv3]
    refine J2.laid (t' := u2.toks) (fun b o e => Heap.get?_push_of_some _ e) (Nat.le_of_eq hD) ?_
    rw [← hD]
    exact dct_new ok0 u2.heap J2.big
  have hh3 : u3.heap = u2.heap.push { cls := .type "dict", data := .dict #[] } := by rw [← hv3]
  have sz : ∀ b ∈ fp, b < u2.heap.objs.size := fun b hb => by
    obtain ⟨o, e, _⟩ := T.obj _ _ stt2 b hb
    exact Heap.lt_size e
  have ff3 : ∀ b ∈ fp, FpOk X pins (upd G2 D (dctO g0 D [])) b ∧ b < u3.heap.objs.size := fun b hb => by
    have hlt := sz b hb
    refine ⟨⟨?_, (ff2 b hb).2⟩, by rw [hh3, Heap.size_push]; exact Nat.lt_succ_of_lt hlt⟩
    rw [upd_ne (by rw [← hD]; exact Nat.ne_of_lt hlt)]
    exact (ff2 b hb).1
  have stt3 : tn 0 u3.heap := T.keep _ _ _ stt2 fun b _ o e => by rw [hh3]; exact Heap.get?_push_of_some _ e
  have J4 := block_start J3 ok hN ff3
  have pg := hg u3 (upd G2 D (dctO g0 D [])) u3.heap.objs.size (cellsFrom (u3.heap.objs.size + 1) scope.names (cloFrom X.env.cells scope.names [])) fp
  have pt := ht u3 (upd G2 D (dctO g0 D [])) u3.heap.objs.size (cellsFrom (u3.heap.objs.size + 1) scope.names (cloFrom X.env.cells scope.names [])) fp
  have pk := hk u3 (upd G2 D (dctO g0 D [])) u3.heap.objs.size (cellsFrom (u3.heap.objs.size + 1) scope.names (cloFrom X.env.cells scope.names [])) fp
  have pe := he u3 (upd G2 D (dctO g0 D [])) u3.heap.objs.size (cellsFrom (u3.heap.objs.size + 1) scope.names (cloFrom X.env.cells scope.names [])) fp
  show codeAny _ _ (.compStart (.DictComp ke ve [⟨tg, iter, ifs, 0⟩] scope pos) 0 (.ref it) (.ref D) (compEnvC scope (cellsFrom (u3.heap.objs.size + 1) scope.names (cloFrom X.env.cells scope.names [])) u3.heap.objs.size X.env)) (compPost (model X.prog X.w) X.A X.xe use Qf (.ref D) u3.heap.objs.size) { u3 with heap := pushCells (u3.heap.push { cls := .type "dict", data := .dict #[] }) scope.names }
  have nofp : ∀ b ∈ fp, (upd G2 D (dctO g0 D [])) b = none := fun b hb => (ff3 b hb).1.1
  generalize hce : compEnvC scope (cellsFrom (u3.heap.objs.size + 1) scope.names (cloFrom X.env.cells scope.names [])) u3.heap.objs.size X.env = ce at J4 pg pt pk pe ⊢
  have cL : ce.locals = u3.heap.objs.size := by subst hce; rfl
  generalize hG3 : upd G2 D (dctO g0 D []) = G3 at J3 J4 pg pt pk pe ww0 nofp ff3
  generalize hv4 : ({ u3 with heap := pushCells (u3.heap.push { cls := .type "dict", data := .dict #[] }) scope.names } : Shared) = u4 at J4 ⊢
  have stt4 : tn 0 u4.heap := T.keep _ _ _ stt3 fun b _ o e => by rw [← hv4]; exact pushCells_keeps _ _ _ _ (Heap.get?_push_of_some _ e)
  have fpst : ∀ {σ' : L2.St} {H' : Hp} {s' : Shared}, Inv (X.blk u3 G3 scope ce fp) [] σ' H' s' → (∀ b ∈ fp, H' b = none) → ∀ b ∈ fp, FpOk (X.blk u3 G3 scope ce fp) [] H' b := fun {σ' H' s'} I' hn b hb =>
    ⟨hn b hb, (I'.ok.exf b hb).1, I'.ok.exfs b hb, .inl hb, fun x c e => (I'.ok.exf b hb).2 x c e, fun p hp => absurd (show p ∈ ([] : List (Addr × Obj)) ++ [] from hp) (by simp)⟩
  have loop : codeAny (model X.prog X.w) X.A (.compLoop (.DictComp ke ve [⟨tg, iter, ifs, 0⟩] scope pos) 0 (.ref it) (.ref D) ce) (compPost (model X.prog X.w) X.A X.xe use Qf (.ref D) u3.heap.objs.size) u4 := by
    refine compLoop_anyD (fun n s' => ∃ i H', Inv (X.blk u3 G3 scope ce fp) [] (wipe σ (mine.map (·.2))) H' s' ∧ tn i s'.heap ∧ (∀ b ∈ fp, H' b = none) ∧ W i n H') ?_ mm0 ⟨0, G3, J4, stt4, nofp, ww0⟩
    rintro n u5 ⟨i, G5, J5, stt5, nn5, ww5⟩
    rcases step1 i n G5 ww5 with ⟨stop, qq⟩ | ⟨go, Nx, hNn, step2⟩
    · have td := T.done (X.blk u3 G3 scope ce fp) rfl rfl rfl hc i [] u5 _ G5 (fun _ _ => False) J5 (fpst J5 nn5) stt5 stop
      refine thnF td fun r u6 ⟨hr, J6⟩ => ?_
      subst hr
      -- back in the def's context
      have J7 : Inv X pins σ G5 u6 := J3.call' (ch := fp) J6.os J6.base J6.hok J6.bare fun b hb => ⟨(ff3 b hb).1.2.2.2.1, (ff3 b hb).1.2.1, (ff3 b hb).1.2.2.2.2.1, (ff3 b hb).1.2.2.2.2.2⟩
      have nC : G5 u3.heap.objs.size = none := by
        have z : G5 ce.locals = none := J6.free
        rw [cL] at z
        exact z
      obtain ⟨m, hn, _⟩ := J6.loc
      have hn : u6.heap.Ns ce.locals m := hn
      rw [cL] at hn
      exact hRR D u3.heap.objs.size u6 m G5 J7 qq hn (J3.fpOk (Nat.le_refl _) nC)
    · have ti := T.item (X.blk u3 G3 scope ce fp) rfl rfl rfl hc i [] u5 _ G5 (fun _ _ => False) J5 (fpst J5 nn5) stt5 go
      refine thnF ti fun r u6 ⟨u, hr, hh6⟩ => ?_
      subst hr
      refine thnF hh6 fun _ u7 ⟨x, G7, J7, rr7, yy7, stt7, nn7⟩ => ?_
      have I7' := J7.pinned (fpst J7 nn7) (T.obj _ _ stt7)
      refine thnF (pg.run _ u7 _ G7 x u _ I7' rr7 (step2 x G7 yy7)) fun _ u8 ⟨τ8, G8, J8, hx8, p8⟩ => ?_
      refine thnF (pt.run _ u8 τ8 G8 _ J8 p8) fun b u9 ⟨G9, J9, p9⟩ => ?_
      -- the turn's end
      have fin : ∀ {s' : Shared} {H' : Hp}, Inv (X.blk u3 G3 scope ce fp) ([] ++ pinsAt fp u7.heap) τ8 H' s' → Nx H' → ∃ m, m < n ∧ ∃ i H', Inv (X.blk u3 G3 scope ce fp) [] (wipe σ (mine.map (·.2))) H' s' ∧ tn i s'.heap ∧ (∀ b ∈ fp, H' b = none) ∧ W i m H' := fun {s' H'} I' nx => by
        obtain ⟨m', hm, w'⟩ := hNn H' nx
        have pin' : ∀ b ∈ fp, ∀ o, u7.heap.get? b = some o → s'.heap.get? b = some o ∧ H' b = none := fun b hb o e =>
          let z := I'.pin (b, o) (List.mem_append_right _ (List.mem_append_right _ (mem_pinsAt hb e)))
          ⟨z.1, z.2.1⟩
        have hl : (wipe σ (mine.map (·.2))).length = τ8.length := by rw [← hx8, wipe_length]
        refine ⟨m', hm, i + 1, H', (I'.unpinned (pins := [])).weak hl (fun j v e => ?_), T.keep _ _ _ stt7 fun b hb o e => (pin' b hb o e).1, fun b hb => ?_, w'⟩
        · rw [← hx8] at e
          exact (wipe_some e).1
        · obtain ⟨o, e, _⟩ := T.obj _ _ stt7 b hb
          exact (pin' b hb o e).2
      cases b with
      | false =>
        simp only [Bool.false_eq_true, if_false] at p9 ⊢
        exact fin J9 p9
      | true =>
        simp only [if_true] at p9 ⊢
        refine thnF (pk.run _ u9 τ8 G9 _ J9 p9) fun z u10 ⟨yk, G10, J10, rr10, p10⟩ => ?_
        refine thnF (pe.run _ u10 τ8 G10 _ J10 p10) fun z2 u11 ⟨yv, G11, J11, rr11, xs, k, b, ek, hE11, kh, kb, hdp, hy11, nx⟩ => ?_
        subst ek
        cases rr10
        exact d_setK (X := X.blk u3 G3 scope ce fp) J11 (ok0.blk u3 G3 scope ce fp) hE11 kh kb hdp hy11 rr11 fun u12 J12 => fin J12 nx
  exact codeAny_compStart_dict loop (T.self X.A 0 _ _ _ stt4 loop)
/-- as a value -/
theorem pe_dcK {ke ve tg iter : Expr} {ifs : List Expr} {scope : Scope} {mine : List (Str × Nat)} {pos : Pos} {g0 : Gs} {wi : TI} {gt : TG} {tt : TT} {tk tv : TE} (ok0 : Ok g0 X) (hc : X.calm = true) (hN : X.N.Nodup) (hi : PI X tg iter wi) (ok : BlkOk X.N X.env.scope scope mine)
    (hg : ∀ (s : Shared) (H : Hp) (C : Addr) (cl : List (Str × Addr)) (fp : List Addr), PG (X.blk s H scope (compEnvC scope cl C X.env) fp) tg gt) (ht : ∀ (s : Shared) (H : Hp) (C : Addr) (cl : List (Str × Addr)) (fp : List Addr), PTs (X.blk s H scope (compEnvC scope cl C X.env) fp) ifs tt)
    (hk : ∀ (s : Shared) (H : Hp) (C : Addr) (cl : List (Str × Addr)) (fp : List Addr), PE (X.blk s H scope (compEnvC scope cl C X.env) fp) ke tk)
    (he : ∀ (s : Shared) (H : Hp) (C : Addr) (cl : List (Str × Addr)) (fp : List Addr), PE (X.blk s H scope (compEnvC scope cl C X.env) fp) ve tv) (hs : ∀ x, foldedSetIterable iter X.env x = pure x := by intro _; rfl) :
    PE X (.DictComp ke ve [⟨tg, iter, ifs, 0⟩] scope pos) (tDcK g0 wi gt tt tk tv (mine.map (·.2))) := by
  refine ⟨fun pins s σ H Q I h => ?_⟩
  rw [arm_eval_DictComp]
  refine dk_core ok0 hc hN I hi ok hg ht hk he hs h fun D C s' m H' I' q hn f => ⟨m, hn, fun h'' sb => ?_⟩
  obtain ⟨ff0, ff1, ff2, ff3, ff4, ff5⟩ := f
  exact ⟨.ref D, H', I'.turned (t' := s'.toks) (fun b o hb e => (sb.2 b hb).trans e) ff0 ff1 ff3 ff4 ff5, rfl, q⟩
end

def dcL (t : Tg) (mt : Et) (mk mv : Ev) (σ : Sl) : List D → List D × List D → Bs → Rs (List D × List D)
  | [], acc, B => .ok acc B
  | d :: ds, acc, B => match t d σ with
    | some σ' => (mt σ' B).bind fun k B1 => if k then (mk σ' B1).bind fun kd B2 => (mv σ' B2).bind fun vd B3 => (match dPut acc.1 acc.2 kd vd with
        | some acc' => dcL t mt mk mv σ ds acc' B3
        | Option.none => .bad) else dcL t mt mk mv σ ds acc B1
    | Option.none => .bad
def mDc (vs : List Nat) (t : Tg) (mi : Ei) (mt : Et) (mk mv : Ev) : Ev := fun σ B => (mi σ B).bind fun ds B1 => (noX (dcL t mt mk mv (wipeI σ vs) ds ([], []) B1)).bind fun r B2 => .ok (.dct r.1 r.2) B2
theorem dcL_cons {t : Tg} {mt : Et} {mk mv : Ev} {σ : Sl} {d : D} {ds : List D} {acc r : List D × List D} {B B' : Bs} (h : dcL t mt mk mv σ (d :: ds) acc B = .ok r B') :
    ∃ σ' k B1, t d σ = some σ' ∧ mt σ' B = .ok k B1 ∧ ((k = true ∧ ∃ kd B2 vd B3 acc', mk σ' B1 = .ok kd B2 ∧ mv σ' B2 = .ok vd B3 ∧ dPut acc.1 acc.2 kd vd = some acc' ∧ dcL t mt mk mv σ ds acc' B3 = .ok r B') ∨ (k = false ∧ dcL t mt mk mv σ ds acc B1 = .ok r B')) := by
  simp only [dcL] at h
  cases e1 : t d σ with
  | none => rw [e1] at h; cases h
  | some σ' =>
    rw [e1] at h
    simp only at h
    cases e2 : mt σ' B with
    | bad => rw [e2] at h; cases h
    | exc _ _ _ => rw [e2] at h; cases h
    | ok k B1 =>
      rw [e2] at h
      simp only [Rs.bind] at h
      refine ⟨σ', k, B1, rfl, e2, ?_⟩
      cases k with
      | false => exact .inr ⟨rfl, h⟩
      | true =>
        simp only [if_true] at h
        cases e3 : mk σ' B1 with
        | bad => rw [e3] at h; cases h
        | exc _ _ _ => rw [e3] at h; cases h
        | ok kd B2 =>
          rw [e3] at h
          simp only at h
          cases e4 : mv σ' B2 with
          | bad => rw [e4] at h; cases h
          | exc _ _ _ => rw [e4] at h; cases h
          | ok vd B3 =>
            rw [e4] at h
            simp only at h
            cases e5 : dPut acc.1 acc.2 kd vd with
            | none => rw [e5] at h; cases h
            | some acc' =>
              rw [e5] at h
              exact .inl ⟨rfl, kd, B2, vd, B3, acc', rfl, e4, e5, h⟩
section
variable {g : Gs} {E : XK} {w0 w : Wd} {H H0 : Hp} {σI : Sl} {σ : L2.St} {B : Bs} {X : Cx}
def DcInv (g : Gs) (H0 : Hp) (w : Wd) (H : Hp) (w1 : Wd) (σI : Sl) (σ : L2.St) (vs : List Nat) (t : Tg) (mt : Et) (mk mv : Ev) (ds : List D) (r : List D × List D) (B' : Bs) (Da : Addr) (i : Nat) (H' : Hp) : Prop :=
  ∃ w' B2 acc xs, Ext w H w' H' ∧ Le w1 w' ∧ S0 g H0 w' σI B2 σ H' ∧ H' Da = some (dctO g Da xs) ∧ DC g w' acc.1 acc.2 xs ∧ w'.P Da = Option.none ∧ (∀ n, w'.io n ≠ some Da) ∧ (∀ (j : Nat) (e : D), σI[j]? = some (some (true, e)) → σ[j]? ≠ some (some (V.ref Da))) ∧
    dcL t mt mk mv (wipeI σI vs) (ds.drop i) acc B2 = .ok r B'
theorem dc_at {t : Tg} {mi : Ei} {mt : Et} {mk mv : Ev} {sl vs : List Nat} {wi : TI} (hwi : wi = tIi g E H0 mi) (hsl : ∀ j ∈ sl, j ∈ vs) {Q : VK} (s : S0 g H0 w σI B σ H) (p : PostE g E w H σI σ false Q (mDc vs t mi mt mk mv σI B)) :
    tDcK g wi (tG g H0 t sl) (tIt g E0 H0 mt) (tI g E0 H0 false mk) (tI g E0 H0 false mv) vs σ H Q := by
  subst hwi
  refine ⟨w, σI, B, s, ?_⟩
  unfold mDc at p
  cases q : mi σI B with
  | bad => rw [q] at p; exact p
  | exc c y B1 => rw [q] at p; exact p
  | ok ds B1 =>
    rw [q] at p
    simp only [Rs.bind] at p
    intro w1 J H1 x1 rb1 it D hD
    have s1 := s.step x1 rb1
    cases q2 : dcL t mt mk mv (wipeI σI vs) ds ([], []) B1 with
    | bad => rw [q2] at p; exact p.elim
    | exc c y B1 => rw [q2] at p; exact p.elim
    | ok r B' =>
      rw [q2] at p
      simp only [noX] at p
      have nD : H D = Option.none := Classical.byContradiction fun z => x1.there D z hD
      have start : DcInv g H0 w H w1 σI σ vs t mt mk mv ds r B' D 0 (upd H1 D (dctO g D [])) :=
        ⟨w1, B1, ([], []), [], x1.mut nD, Le.refl _, s1.other (s1.rb.fresh_P hD) (s1.rb.fresh_io hD) (fun j e hj => s1.own_ne hj hD) (fun u q => by rw [hD] at q; cases q), upd_same, DC.nil, s1.rb.fresh_P hD, s1.rb.fresh_io hD, fun j e hj => s1.own_ne hj hD, by simpa using q2⟩
      refine ⟨fun i m H' => m = ds.length - i ∧ i ≤ ds.length ∧ DcInv g H0 w H w1 σI σ vs t mt mk mv ds r B' D i H', ⟨ds.length, by simp, Nat.zero_le _, start⟩, ?_⟩
      rintro i m H' ⟨rfl, hi, w', B2, acc, xs, x', l', s', eD, dc, np, nb, nw, q3⟩
      by_cases hlt : i < ds.length
      · refine .inr ⟨it.go i H' hlt (l'.P.trans s'.rb.sub), DcInv g H0 w H w1 σI σ vs t mt mk mv ds r B' D (i + 1), fun H2 q => ⟨ds.length - (i + 1), by omega, rfl, hlt, q⟩, fun y H2 yl => ?_⟩
        obtain ⟨w2, x2, rb2, r2⟩ := it.yld i H' y H2 ds[i] w' B2 (List.getElem?_eq_getElem hlt) l' s'.rb yl
        have s2 := s'.step x2 rb2
        rw [List.drop_eq_getElem_cons hlt] at q3
        obtain ⟨σ', k, B3, et, em, q4⟩ := dcL_cons q3
        refine ⟨w2, ds[i], wipeI σI vs, B2, σ', s2.wipe vs, r2, et, fun σ2 s3 hl hk => ⟨(wipe_eq hl fun j hj => hk j fun z => hj (hsl j z)).trans (wipe_wipe _ _), ?_⟩⟩
        have keep : ∀ {wa wb : Wd} {Ha Hb : Hp}, Ext wa Ha wb Hb → Same wb.P Hb → Ha D = some (dctO g D xs) → wa.P D = Option.none → (∀ n, wa.io n ≠ some D) → Hb D = some (dctO g D xs) ∧ wb.P D = Option.none ∧ ∀ n, wb.io n ≠ some D := by
          intro wa wb Ha Hb x sb e n1 n2
          refine ⟨x.keep D _ e n2 (nt_dct _ _ _).t, ?_, fun n z => ?_⟩
          · cases q : wb.P D with
            | none => rfl
            | some u =>
              rcases x.pf D u q with z | z | z
              · rw [n1] at z; cases z
              · rw [e] at z; cases z
              · have y := sb D u q
                rw [x.keep D _ e n2 (nt_dct _ _ _).t] at y; cases y
                exact ((nt_dct _ _ _).px z).elim
          · rcases x.iof n D z with z | z
            · exact n2 n z
            · rw [e] at z; cases z
        obtain ⟨eD2, np2, nb2⟩ := keep x2 rb2.sub eD np nb
        refine tIt_go s3 (fun c x B1 q => by rw [em] at q; cases q) (by rw [em]; simp) fun k' B4 q5 w3 H3 x3 s4 => ?_
        rw [em] at q5; cases q5
        obtain ⟨eD3, np3, nb3⟩ := keep x3 s4.rb.sub eD2 np2 nb2
        have sO := (s2.step x3 s4.rb)
        rcases q4 with ⟨rfl, kd, B5, vd, B6, acc', e1, e2, e3, e4⟩ | ⟨rfl, e2⟩
        · rw [if_pos rfl]
          refine tI_go s4 (fun c x B1 q => by rw [e1] at q; cases q) (by rw [e1]; simp) fun d B7 q6 w4 v H4 x4 s5 r4 => ?_
          rw [e1] at q6; cases q6
          obtain ⟨eD4, np4, nb4⟩ := keep x4 s5.rb.sub eD3 np3 nb3
          refine tI_go s5 (fun c x B1 q => by rw [e2] at q; cases q) (by rw [e2]; simp) fun d' B8 q7 w5 v' H5 x5 s6 r5 => ?_
          rw [e2] at q7; cases q7
          obtain ⟨eD5, np5, nb5⟩ := keep x5 s6.rb.sub eD4 np4 nb4
          have hk : ∃ k, keyT kd = some k := by
            unfold dPut at e3
            cases hk : keyT kd with
            | none => rw [hk] at e3; cases e3
            | some k => exact ⟨k, rfl⟩
          obtain ⟨k, hk⟩ := hk
          obtain ⟨⟨ts, rfl⟩, hn, hd⟩ := keyT_ok hk
          have r4' : Rep g w5 (.tup ts) v := Rep.mono x5.le _ _ r4
          have rr := r4'
          simp only [Rep] at rr
          obtain ⟨b, _, rfl, _⟩ := rr
          have r5' : Rep g w5 vd v' := r5
          have l5 : Le w' w5 := ((x2.le.trans x3.le).trans x4.le).trans x5.le
          have dc5 := dc.mono l5
          obtain ⟨dc6, hz⟩ := dc5.put r4' r5' hk e3
          exact ⟨xs, k, b, rfl, eD5, dc5.keys s6.rb.sub, ⟨w5, _, s6.rb.sub, r4', hn⟩, hd, hz, w5, B6, acc', _, ((((x'.trans x2).trans x3).trans x4).trans x5).mut nD, l'.trans l5, ((sO.step x4 s5.rb).step x5 s6.rb).other np5 nb5 nw (fun u q => by rw [eD5] at q; cases q; exact nt_dct _ _ _), upd_same, dc6, np5, nb5, nw, e4⟩
        · rw [if_neg (by simp)]
          exact ⟨w3, B3, acc, xs, (x'.trans x2).trans x3, (l'.trans x2.le).trans x3.le, sO, eD3, dc.mono (x2.le.trans x3.le), np3, nb3, nw, e2⟩
      · rw [List.drop_eq_nil_of_le (by omega)] at q3
        simp only [dcL] at q3
        cases q3
        obtain ⟨xx, rb'⟩ := reg_ext x' s'.rb eD nD np nb (nt_dct _ _ _)
        refine .inl ⟨it.stop i H' (by omega) (l'.P.trans s'.rb.sub), p (regW w' D (dctO g D xs)) _ H' xx rb' ?_⟩
        have dc' := dc.mono (regLe w' (o := dctO g D xs) np)
        simp only [RepB, Rep]
        exact ⟨D, xs, rfl, upd_same, dc'⟩
variable {kx vx tg iter : Expr} {ifs : List Expr} {scope : Scope} {own : List (Str × Nat)} {pos : Pos} {t : Tg} {mi : Ei} {mt : Et} {mk mv : Ev} {sl : List Nat}
theorem s_dc (c : Ok g X) (hN : X.N.Nodup) (hi : SndI g E H0 X tg iter mi) (ok : BlkOk X.N X.env.scope scope own) (hsl : ∀ j ∈ sl, j ∈ own.map (·.2))
    (hg : ∀ (s : Shared) (H : Hp) (C : Addr) (cl : List (Str × Addr)) (fp : List Addr), SndG g H0 (X.blk s H scope (compEnvC scope cl C X.env) fp) tg t sl) (ht : ∀ (s : Shared) (H : Hp) (C : Addr) (cl : List (Str × Addr)) (fp : List Addr), SndTs g E0 H0 (X.blk s H scope (compEnvC scope cl C X.env) fp) ifs mt)
    (hk : ∀ (s : Shared) (H : Hp) (C : Addr) (cl : List (Str × Addr)) (fp : List Addr), Snd g E0 H0 (X.blk s H scope (compEnvC scope cl C X.env) fp) false kx mk)
    (he : ∀ (s : Shared) (H : Hp) (C : Addr) (cl : List (Str × Addr)) (fp : List Addr), Snd g E0 H0 (X.blk s H scope (compEnvC scope cl C X.env) fp) false vx mv) (hs : ∀ x, foldedSetIterable iter X.env x = pure x := by intro _; rfl) :
    Snd g E H0 X false (.DictComp kx vx [⟨tg, iter, ifs, 0⟩] scope pos) (mDc (own.map (·.2)) t mi mt mk mv) :=
  weak (pe_dcK c c.calm hN hi ok hg ht hk he hs) fun σ H Q ⟨w, σI, B, s, p⟩ => dc_at rfl hsl s p
end
end Hf

set_option Elab.async false
set_option linter.all false
set_option maxRecDepth 100000
set_option maxHeartbeats 4000000
namespace Hf
open PySem PySem.Spec PyProof.Rows L2

/-! ### special methods of one's own classes -/
section
variable {X : Cx} {CX : CXT} {k : Nat} {fa : Addr} {sp : Sp} {E : XK} {pins : List (Addr × Obj)} {σ : L2.St} {H : Hp} {s : Shared} {Q : VK} {us : List Value} {vs : List V} {A' : Around}
end
section
variable {g : Gs} {E : XK} {w0 w : Wd} {H0 H : Hp} {X : Cx} {o e a b : Expr} {es : List Expr} {m ma mb : Ev} {ms : Evs} {pos p p1 p2 apos : Pos} {x n : Str} {f : Fn} {lv k c : Nat} {dfl : List D} {σI : Sl} {σ : L2.St} {B : Bs} {Q : VK} {b1 b2 bo : Bool} {i : Nat}
/-- an instance, where it stands -/
theorem inst_at {pins : List (Addr × Obj)} {σ : L2.St} {H : Hp} {s : Shared} {a C dx : Addr} {fs : List (Str × V)} (I : Inv X pins σ H s) (h : H a = some (.ins C dx fs)) : ∃ od, PySem.W.InstAt s.heap a (PySem.W.instObj C dx) C (some od) := by
  obtain ⟨mA, O, _⟩ := ins_get I.hok h
  obtain ⟨od, J, _⟩ := O.look
  exact ⟨od, J⟩
/-! ### o.m(e, ..) -/
end
end Hf

set_option Elab.async false
set_option linter.all false
set_option maxRecDepth 100000
set_option maxHeartbeats 4000000
namespace Hf
open PySem PySem.Spec PyProof.Rows L2

/-! ### instances are made -/
section
variable {g : Gs} {E : XK} {w w' : Wd} {H H' : Hp} {B : Bs} {m : Option Addr}
theorem Ext.withMe (x : Ext { w with me := m } H w' H') : Ext w H { w' with me := w.me } H' := ⟨⟨x.le.P, x.le.io⟩, x.keep, x.pf, x.iof, x.there, rfl⟩
theorem leMe : Le w { w with me := m } := ⟨Same.refl _, fun _ _ h => h⟩
theorem RB.withMe (rb : RB g w B H) : RB g { w with me := m } B H := rb.keep leMe rfl rb.sub (Same.refl _) rb.np rb.nt
theorem ExcR.withMe {c : Nat} {x : Option D} {cls : Value} {dd : Option Addr} (h : ExcR g w c x cls dd H) : ExcR g { w with me := m } c x cls dd H := by
  unfold ExcR at h ⊢
  refine ⟨h.1, ?_⟩
  cases x with
  | none => exact h.2
  | some d =>
    obtain ⟨a, v, h1, h2, h3⟩ := h.2
    exact ⟨a, v, h1, h2, Rep.mono leMe _ _ h3⟩
end
/-- what is wanted of an __init__'s end -/
def PostN (g : Gs) (E : XK) (x : Addr) (w : Wd) (H : Hp) (Q : VK) : Rs D → Prop
  | .ok d B' => ∀ w' H', Ext w H w' H' → RB g w' B' H' → Rep g w' d (.ref x) → Q .non H'
  | .exc c y B' => ∀ w' cls dd H', Ext w H w' H' → RB g w' B' H' → ExcR g w' c y cls dd H' → E cls dd H'
  | .bad => False
/-- the promise of an __init__: what is made of the arguments -/
def spI (g : Gs) (c : Nat) (f : Fn) : Sp := fun vs H Q E => ∃ x dx ws H1 w ds B, vs = V.ref x :: ws ∧ H = upd (upd H1 dx (.own x)) x (.ins (g.cl c) dx []) ∧ H1 x = Option.none ∧ H1 dx = Option.none ∧ dx ≠ x ∧ RB g w B H1 ∧ Reps g w ds ws ∧ PostN g E x w H1 Q (f ds B)
/-- calls of the class c make instances as f says -/
def Ini (g : Gs) (k c : Nat) (f : Fn) : Prop := ∃ fI, L2.Mk g.K (g.cl c) fI ∧ FnR g.prog g.w g.K g.mg g.base (L2N.CX g.prog g.w) k fI (spI g c f) ∧ g.has c = true
section
variable {g : Gs} {E : XK} {w0 w : Wd} {H0 H : Hp} {X : Cx} {o e a b : Expr} {es : List Expr} {m ma mb : Ev} {ms : Evs} {pos p p1 p2 apos : Pos} {x n : Str} {f : Fn} {lv k c : Nat} {dfl : List D} {σI : Sl} {σ : L2.St} {B : Bs} {Q : VK} {b1 b2 bo : Bool} {i : Nat}
theorem make_go {ds : List D} {ws : List V} (rb : RB g w B H) (r : Reps g w ds ws) (p : PostC g E w H Q (f ds B)) : ∀ x dx, H x = Option.none → H dx = Option.none → dx ≠ x →
    spI g c f (V.ref x :: ws) (upd (upd H dx (.own x)) x (.ins (g.cl c) dx [])) (fun v H2 => v = .non ∧ Q (.ref x) H2) E := by
  intro x dx h1 h2 h3
  refine ⟨x, dx, ws, H, w, ds, B, rfl, rfl, h1, h2, h3, rb, r, ?_⟩
  revert p
  generalize f ds B = q
  intro p
  cases q with
  | ok d B' => exact fun w' H' y rb' rr => ⟨rfl, p w' _ H' y rb' rr⟩
  | exc c y B' => exact p
  | bad => exact p
def mMake (f : Fn) (ms : Evs) : Ev := fun σ B => (ms σ B).bind fun ds B1 => f ds B1
theorem s_make (ok : OkC g E lv X) (N : Ini g k c f) (C : ClsN g c x) (hk : k + 1 ≤ lv) (ha : Snds g E H0 X (e :: es) ms) (hg : Gl X x := by rfl) (hdb : (x == ("__debug__" : Str)) = false := by decide) (he : starEach (e :: es) X.env = (false, eval e X.env) :: starEach es X.env := by rfl) (hpl : (backTo pos (starEach es X.env)).any (·.1) = false := by rfl) :
    Snd g E H0 X false (.Call (.Name x p) (e :: es) [] pos) (mMake f ms) := by
  obtain ⟨fI, M, F, hc⟩ := N
  obtain ⟨prog, w', K, mg, base, A, N, s_0, H_0, env, outer, stack, ex, fn, calm, pn, xe⟩ := X
  obtain ⟨⟨h1, h2, h3, h4, h5, h6, h7, hfx⟩, h8, h9⟩ := ok
  simp only at h1 h2 h5 h6 h7
  subst h1 h2 h5 h6 h7
  refine weak (StX.pe_makeR M F (h8.mono hk) hg C.mg h9 ha hdb he hpl) ?_
  rintro σ H Q ⟨w, σI, B, s, p⟩
  exact tIs_bind s p fun ds B1 w1 vs H1 x1 s1 r1 p1 => make_go s1.rb r1 (PostC.of s1 p1)
/-! ### class methods -/
end
end Hf

set_option Elab.async false
set_option linter.all false
set_option maxRecDepth 100000
set_option maxHeartbeats 4000000
namespace Hf
open PySem PySem.Spec PyProof.Rows L2

/-! ### an __init__ keeps its promise -/
/-- the instance that a body leaves in its first name -/
def finI (c : Nat) : Ss → Rs D
  | .next σ B => match σ[(0 : Nat)]? with
    | some (some (true, .inst c' es)) => if c' = c ∧ es.length = (fldN c).length then .ok (.inst c es) B else .bad
    | _ => .bad
  | .ret _ _ => .bad
  | .exc c x B => .exc c x B
  | .bad => .bad
/-- def __init__(self, *words): k names in all -/
def mkIniS (c k : Nat) (b : Ms) : Fn := fun ds B => if ds.length ≤ sizeLine then finI c (b (some (true, .inst c []) :: some (false, .tup ds) :: List.replicate (k - 2) Option.none) B) else .bad
section
variable {g : Gs} {E : XK} {w : Wd} {H : Hp} {σI : Sl} {σ : L2.St} {B : Bs} {Q : VK} {c k : Nat}
/-- the end of an __init__ -/
theorem fin_go {x : Addr} {m : Ss} (hn : H x = Option.none) (p : PostN g E x w H Q (finI c m)) : PostS g E { w with me := some x } H w { nx := fun _ H' => Q .non H', rt := Q } m := by
  cases m with
  | bad => exact p
  | ret d B' => exact p.elim
  | exc c y B' => exact fun w' cls dd H' rb x1 r => p _ cls dd H' x1.withMe rb.withMe r.withMe
  | next σI' B' =>
    intro w' σ' H' _ s x1
    unfold finI at p
    simp only at p
    split at p
    · rename_i c' es hi
      split at p
      · rename_i h
        obtain ⟨rfl, hl⟩ := h
        obtain ⟨a, o, e1, ha, ct, np, nb, n0⟩ := s.ow 0 _ hi
        have e2 := s.me 0 _ _ a hi e1
        rw [x1.me] at e2
        cases (show some x = some a from e2)
        simp only [Cont] at ct
        obtain ⟨dx, vs, rfl, _, hh, rr⟩ := ct
        obtain ⟨x2, rb2⟩ := reg_ext x1 s.rb ha hn np nb (nt_ins _ _ _)
        refine p _ H' x2.withMe rb2.withMe ?_
        simp only [Rep]
        exact ⟨x, dx, vs, rfl, upd_same, hl, hh, Reps.mono ((regLe w' np).trans leMe) _ _ rr⟩
      · exact p.elim
    · exact p.elim
/-- def f(a, .., *v): what is left over is a new tuple without a dict -/
theorem fn_starN {P : Program} {w : World} {K : PySem.W.Frag} {mg : Str → Option Value} {base : Heap} {CX : CXT} {N ps : List Str} {k : Nat} {sp : Sp} {nm qual pv : Str} {params : Arguments} {body : List Stmt} {scope : Scope} {f : Addr} {oc dV kV doc pm cdv ct : Value} {od an : Option Addr} {osl : Array (Option Value)}
    (lk : K.lookup f = some ⟨oc, od, .func (PySem.W.fnOf nm qual params body scope dV kV doc pm an cdv ct), osl⟩) (hcd : PySem.W.codeIn K cdv qual = true) (S : FnScope N (ps ++ [pv]) scope) (hCX : StX.CXUp CX)
    (hb : ∀ us rest : List Value, us.length = ps.length → bindArgs (PySem.W.fnOf nm qual params body scope dV kV doc pm an cdv ct) ⟨us ++ rest, []⟩ = (newTuple rest >>= fun t => pure (ps.zip us ++ [(pv, t)])))
    (hbody : ∀ (A : Around) (outer : List Env) (s : Shared) (H : Hp) (vs : List V) (Q : VK) (E : XK), Room k (A.deeper (envOfC qual scope s.heap.objs.size f cdv)) → sp vs H Q E →
      ∃ t, PSs (cxOf CX P w K mg base N qual scope f cdv A outer s H E) body t ∧ t { nx := fun _ H' => Q .non H', rt := Q } (L2.start N vs) H) :
    FnR P w K mg base CX (k + 1) f (fun vs H Q E => ∃ ws rest, vs = ws ++ rest ∧ ws.length = ps.length ∧ rest.length ≤ sizeLine ∧ ∀ p (ob : Obj), H p = Option.none → ob.dict = Option.none → sp (ws ++ [V.ref p]) (upd H p (.frz ob (.tup rest))) Q E) := by
  intro A outer s H us vs Q E hr e0 r hsp
  obtain ⟨ws, rest, rfl, hl, hz, hq⟩ := hsp
  obtain ⟨u1, u2, rfl, r1, r2⟩ := StX.vals_split r
  have free : H s.heap.objs.size = Option.none := e0.hok.fresh (Nat.le_refl _)
  have m1 : u1.length = ps.length := by rw [← r1.length]; exact hl
  have m2 : u2.length ≤ sizeLine := by rw [← r2.length]; exact hz
  refine StX.run_bnd lk hcd S hr e0 (G := fun xs H2 => ∃ p, ∃ ob : Obj, ob.dict = Option.none ∧ H p = Option.none ∧ xs = ws ++ [V.ref p] ∧ H2 = upd H p (.frz ob (.tup rest))) (fun A1 Ex Q1 h => ?_) fun s2 H2 xs ⟨p, ob, hod, hp, ex, eH⟩ hr1 => ?_
  · rw [hb u1 u2 m1]
    refine wpAny_bind (wpAny_newTuple (wpAny_pure ?_) m2)
    obtain ⟨T, hT⟩ : ∃ T : Obj, T = { cls := .type "tuple", data := .seq u2.toArray } := ⟨_, rfl⟩
    have new : ObjOk P w (upd H s.heap.objs.size (.frz T (.tup rest))) (s.heap.push T) s.heap.objs.size (.frz T (.tup rest)) := by
      subst hT; exact frz_tup hz r2 (Heap.get?_push_size _ rfl)
    have hd : T.dict = Option.none := by subst hT; rfl
    rw [← hT]
    have un := StX.un_laid (fs := frs outer) (s := s) (o := T) (u := .frz T (.tup rest)) free
    have z := h _ _ (ws ++ [V.ref s.heap.objs.size]) (u1 ++ [Value.ref s.heap.objs.size]) (StX.env0_laid e0 new) un rfl (fun e s1 => hCX outer s H _ _ E e s1 un (fun c oc qc => Heap.get?_push_of_some _ qc) rfl) (r1.append (.cons rfl .nil))
      (by rw [List.length_append, List.length_append, hl] <;> rfl) ⟨_, T, hd, free, rfl, rfl⟩
    rw [List.zip_append m1.symm] at z
    exact z
  · subst ex eH
    exact hbody A outer s2 _ _ Q E hr1 (hq p ob hp hod)
/-- the start of an __init__ with one tuple -/
theorem start_star {N : List Str} {x dx p : Addr} {ds : List D} {rest : List V} (hN : 2 ≤ N.length) (hh : g.has c = true) (rb : RB g w B H) (r : Reps g w ds rest) (h1 : H x = Option.none) (h2 : H dx = Option.none) (h3 : dx ≠ x)
    {ob : Obj} (hod : ob.dict = Option.none) (hp : (upd (upd H dx (.own x)) x (.ins (g.cl c) dx [])) p = Option.none) :
    ∃ w1, S0 g H w1 (some (true, .inst c []) :: some (false, .tup ds) :: List.replicate (N.length - 2) Option.none) B (L2.start N [V.ref x, V.ref p]) (upd (upd (upd H dx (.own x)) x (.ins (g.cl c) dx [])) p (.frz ob (.tup rest))) ∧
      Ext { w with me := some x } H w1 (upd (upd (upd H dx (.own x)) x (.ins (g.cl c) dx [])) p (.frz ob (.tup rest))) := by
  have px : p ≠ x := fun e => by subst e; rw [upd_same] at hp; cases hp
  have pd : p ≠ dx := fun e => by
    rw [upd_ne px, e, upd_same] at hp; cases hp
  have hp0 : H p = Option.none := by rw [upd_ne px, upd_ne pd] at hp; exact hp
  generalize hH2 : upd (upd (upd H dx (.own x)) x (.ins (g.cl c) dx [])) p (.frz ob (.tup rest)) = H2
  have e2 : ∀ b, b ≠ p → b ≠ x → b ≠ dx → H2 b = H b := fun b q1 q2 q3 => by rw [← hH2, upd_ne q1, upd_ne q2, upd_ne q3]
  have ex : H2 x = some (.ins (g.cl c) dx []) := by rw [← hH2, upd_ne px.symm, upd_same]
  have ep : H2 p = some (.frz ob (.tup rest)) := by rw [← hH2, upd_same]
  have hk : Same H H2 := fun b u e => by
    rw [e2 b (ne_of_none e hp0) (ne_of_none e h1) (ne_of_none e h2)]; exact e
  have npp := rb.fresh_P hp0
  have l : Le w (regW w p (.frz ob (.tup rest))) := regLe w npp
  let w1 : Wd := { regW w p (.frz ob (.tup rest)) with me := some x }
  have l1 : Le w w1 := ⟨l.P, l.io⟩
  have sub1 : Same w1.P H2 := fun b u e => by
    have e : upd w.P p (.frz ob (.tup rest)) b = some u := e
    by_cases hb : b = p
    · subst hb; rw [upd_same] at e; cases e; exact ep
    · rw [upd_ne hb] at e; exact hk b u (rb.sub b u e)
  have rb1 : RB g w1 B H2 := rb.keep l1 rfl sub1 hk (fun n a e => by
    show upd w.P p (.frz ob (.tup rest)) a = Option.none
    rw [upd_ne (fun z => rb.fresh_io hp0 n (by rw [← z]; exact e))]
    exact rb.np n a e) (nt_reg rb.nt fun ps z => (nomatch z))
  have st : L2.start N [V.ref x, V.ref p] = some (V.ref x) :: some (V.ref p) :: List.replicate (N.length - 2) Option.none := rfl
  have tail : ∀ {j : Nat} {z : Option (Bool × D)}, (List.replicate (N.length - 2) (Option.none : Option (Bool × D)))[j]? = some z → z = Option.none := fun {j z} h => by
    rw [List.getElem?_replicate] at h
    split at h <;> cases h
    rfl
  refine ⟨w1, ⟨rb1, by rw [st]; simp, fun i d h => ?_, fun i d h => ?_, fun i j d e a q1 q2 _ _ => ?_, fun i c' es a q1 q2 => ?_⟩, ⟨⟨l1.P, l1.io⟩, fun b o e _ _ => hk b o e, fun b o e => ?_, fun n a e => .inl e, fun b e z => e (by
    cases q : H b with
    | none => rfl
    | some u => rw [hk b u q] at z; cases z), rfl⟩⟩
  · rw [st]
    match i, h with
    | 0, h => cases h
    | 1, h =>
      cases h
      refine ⟨V.ref p, rfl, ?_⟩
      simp only [Rep]
      exact ⟨p, rest, rfl, .inl ⟨ob, upd_same, hod⟩, Reps.mono l1 _ _ r⟩
    | j + 2, h => cases tail h
  · rw [st]
    match i, h with
    | 0, h =>
      cases h
      refine ⟨x, _, rfl, ex, ?_, ?_, fun n => rb.fresh_io h1 n, h1⟩
      · simp only [Cont]
        exact ⟨dx, [], by simp, Nat.zero_le _, hh, by simp only [Reps]⟩
      · show upd w.P p (.frz ob (.tup rest)) x = Option.none
        rw [upd_ne px.symm]; exact rb.fresh_P h1
    | 1, h => cases h
    | j + 2, h => cases tail h
  · match i, j, q1, q2 with
    | 0, 0, _, _ => rfl
    | 0, 1, _, h => cases h
    | 0, j + 2, _, h => cases tail h
    | 1, _, h, _ => cases h
    | i + 2, _, h, _ => cases tail h
  · match i, q1 with
    | 0, _ => rw [st] at q2; cases q2; rfl
    | 1, h => cases h
    | i + 2, h => cases tail h
  · have e : upd w.P p (.frz ob (.tup rest)) b = some o := e
    by_cases hb : b = p
    · subst hb; exact .inr (.inl hp0)
    · rw [upd_ne hb] at e; exact .inl e
theorem init_star {x qual sv pv : Str} {st : Stmt} {fa : Addr} {fd : FuncData} {N : List Str} {b : Ms} (F : L2.Fun g.K x qual st fa fd) (S : FnScope N ([sv] ++ [pv]) (defScope st)) (hN : 2 ≤ N.length) (hh : g.has c = true)
    (hb : ∀ (kV doc pm : Value) (an : Option Addr) (cdv ct : Value) (us rest : List Value), us.length = [sv].length → bindArgs (PySem.W.fnOf x qual (defArgs st) (defBody st) (defScope st) .none kV doc pm an cdv ct) ⟨us ++ rest, []⟩ = (newTuple rest >>= fun t => pure ([sv].zip us ++ [(pv, t)])))
    (fx : Fx g) (hbody : ∀ (E : XK) (w0 : Wd) (H0 : Hp) (X : Cx), OkC g E k X → PassesOwn (model X.prog X.w) X.A X.env X.xe → L2N.Takes X (fun cls d _ H => E cls d H) → X.N = N → X.env.scope = defScope st → X.fn = (fun _ => true) → SndB g E w0 H0 X (defBody st) b) :
    FnR g.prog g.w g.K g.mg g.base (L2N.CX g.prog g.w) (k + 1) fa (spI g c (mkIniS c N.length b)) := by
  obtain ⟨oc, od, kV, doc, pm, an, cdv, ct, osl, rfl, lk, hcd⟩ := F.ex
  let sp0 : Sp := fun vs H Q E => ∃ x dx p H1 w ds rest B, ∃ ob : Obj, ob.dict = Option.none ∧ vs = [V.ref x, V.ref p] ∧ H = upd (upd (upd H1 dx (.own x)) x (.ins (g.cl c) dx [])) p (.frz ob (.tup rest)) ∧ H1 x = Option.none ∧ H1 dx = Option.none ∧ dx ≠ x ∧ (upd (upd H1 dx (.own x)) x (.ins (g.cl c) dx [])) p = Option.none ∧
    RB g w B H1 ∧ Reps g w ds rest ∧ PostN g E x w H1 Q (mkIniS c N.length b ds B)
  have R := fn_starN (P := g.prog) (w := g.w) (mg := g.mg) (base := g.base) (CX := L2N.CX g.prog g.w) (k := k) (sp := sp0) (ps := [sv]) (pv := pv) lk hcd S cxUpN (hb kV doc pm an cdv ct) ?_
  · refine R.imp fun vs H Q E h => ?_
    obtain ⟨x, dx, ws, H1, w, ds, B, rfl, rfl, h1, h2, h3, rb, r, p⟩ := h
    have hz : ds.length ≤ sizeLine := by
      unfold mkIniS at p
      split at p
      · assumption
      · exact p.elim
    exact ⟨[V.ref x], ws, rfl, rfl, by rw [r.len]; exact hz, fun q ob hq ho => ⟨x, dx, q, H1, w, ds, ws, B, ob, ho, rfl, rfl, h1, h2, h3, hq, rb, r, p⟩⟩
  · rintro A outer s H vs Q E hr ⟨x, dx, p, H1, w, ds, rest, B, ob, hod, rfl, rfl, h1, h2, h3, hp, rb, r, q⟩
    unfold mkIniS at q
    split at q
    · refine ⟨_, hbody E { w with me := some x } H1 _ ⟨⟨rfl, rfl, rfl, ?_, rfl, rfl, rfl, fx⟩, hr, ?_⟩ (passes_of rfl) (L2N.takes_of rfl rfl rfl rfl) rfl rfl rfl, ?_⟩
      · have := hr.un; show A.units + 3 + 100 < cLine; have h2 : A.units + 3 + 16 * k + 200 < cLine := this; omega
      · exact L2N.passes_call (L2N.takes_of rfl rfl rfl rfl) (fun _ _ _ _ h => h)
      · obtain ⟨w1, s1, x1⟩ := start_star hN hh rb r h1 h2 h3 hod hp
        refine ⟨w1, _, B, s1, x1, ?_⟩
        have z := fin_go h1 q
        refine PostS.le ?_ z
        exact ⟨x1.le.P, x1.le.io⟩
    · exact q.elim
end
end Hf

set_option Elab.async false
set_option linter.all false
set_option maxRecDepth 100000
set_option maxHeartbeats 4000000
namespace Hf
open PySem PySem.Spec PyProof.Rows L2

/-! ### boxes are made: a new container that is shared and changed -/
def boxW (w : Wd) (n : Nat) (a : Addr) : Wd := { w with io := fun m => if m = n then some a else w.io m }
section
variable {g : Gs} {E : XK} {w0 w : Wd} {H0 H : Hp} {X : Cx} {e : Expr} {m me : Ev} {pos p1 apos cpos : Pos} {σI : Sl} {σ : L2.St} {B : Bs} {Q : VK} {b1 : Bool} {x : Str} {i : Nat}
theorem box_ext {w' : Wd} {H' : Hp} {a : Addr} {o : HO} {d : D} {B' : Bs} (x : Ext w H w' H') (rb : RB g w' B' H') (e : H' a = some o) (c : Cont g w' d a o) (n : H a = Option.none) (p : w'.P a = Option.none) (i : ∀ n, w'.io n ≠ some a) :
    Ext w H (boxW w' B'.length a) H' ∧ RB g (boxW w' B'.length a) (B' ++ [d]) H' ∧ Le w' (boxW w' B'.length a) := by
  have l : Le w' (boxW w' B'.length a) := ⟨Same.refl _, fun m b h => by
    show (if m = B'.length then some a else w'.io m) = some b
    rw [if_neg (Nat.ne_of_lt (rb.dom m b h))]; exact h⟩
  have io : ∀ m b, (boxW w' B'.length a).io m = some b → (m = B'.length ∧ b = a) ∨ (m ≠ B'.length ∧ w'.io m = some b) := fun m b h => by
    have h : (if m = B'.length then some a else w'.io m) = some b := h
    by_cases hm : m = B'.length
    · rw [if_pos hm] at h; cases h; exact .inl ⟨hm, rfl⟩
    · rw [if_neg hm] at h; exact .inr ⟨hm, h⟩
  refine ⟨⟨x.le.trans l, x.keep, x.pf, fun m b h => ?_, x.there, x.me⟩, ⟨rb.sub, fun m b h => ?_, fun m k b h1 h2 => ?_, fun m b h => ?_, fun m b h => ?_, rb.tb, rb.nt⟩, l⟩
  · rcases io m b h with ⟨_, rfl⟩ | ⟨_, h⟩
    · exact .inr n
    · exact x.iof m b h
  · by_cases hm : m < B'.length
    · rw [List.getElem?_append_left hm] at h
      obtain ⟨a', o', h1, h2, h3⟩ := rb.get m b h
      exact ⟨a', o', l.io _ _ h1, h2, h3.mono l⟩
    · rw [List.getElem?_append_right (Nat.le_of_not_lt hm)] at h
      have hm2 : m - B'.length = 0 := by
        have := (List.getElem?_eq_some_iff.mp h).1
        simp at this; exact this
      rw [hm2] at h
      cases h
      have : m = B'.length := by omega
      subst this
      exact ⟨a, o, by show (if _ then _ else _) = _; rw [if_pos rfl], e, c.mono l⟩
  · rcases io m b h1 with ⟨r1, r2⟩ | ⟨r1, r2⟩ <;> rcases io k b h2 with ⟨q1, q2⟩ | ⟨q1, q2⟩
    · rw [r1, q1]
    · subst r2; exact (i _ q2).elim
    · subst q2; exact (i _ r2).elim
    · exact rb.inj m k b r2 q2
  · rcases io m b h with ⟨_, rfl⟩ | ⟨_, h⟩
    · exact p
    · exact rb.np m b h
  · rw [List.length_append]
    rcases io m b h with ⟨rfl, _⟩ | ⟨_, h⟩
    · simp
    · have := rb.dom m b h
      omega
def mBox (m : Ev) : Ev := fun σ B => (m σ B).bind fun d B1 => .ok (.box B1.length) (B1 ++ [d])
theorem s_box (he : SndF g E H0 X e m) : Snd g E H0 X false e (mBox m) := by
  refine weak he ?_
  rintro σ H Q ⟨w, σI, B, s, p⟩
  refine ⟨w, σI, B, s, ?_⟩
  unfold mBox at p
  revert p
  generalize m σI B = q
  intro p
  cases q with
  | bad => exact p
  | exc c y B' => exact p
  | ok d B' =>
    intro w' a o H' x rb ha c n pp io z
    obtain ⟨x2, rb2, l⟩ := box_ext x rb ha c n pp io
    refine p _ (.ref a) H' x2 rb2 ?_
    simp only [RepB, Rep]
    exact ⟨a, rfl, by show (if _ then _ else _) = _; rw [if_pos rfl]⟩
end
/-! ### repr -/
structure OkG (g : Gs) (E : XK) (lv : Nat) (X : Cx) : Prop extends OkC g E lv X where
  gd : X.A.guards = some []
theorem OkG.blk {g : Gs} {E : XK} {lv : Nat} {X : Cx} (k : OkG g E lv X) (s : Shared) (H : Hp) (scope : Scope) (env : Env) (fp : List Addr) : OkG g E0 lv (X.blk s H scope env fp) := ⟨k.toOkC.blk s H scope env fp, k.gd⟩
def reprOk (d : D) : Bool := (match d with
  | .tup _ => true
  | .lst _ => true
  | _ => false) && (toPy d).canLay0 && (toPy d).showable && !(toPy d).hasDict && decide ((toPy d).depth < 50) && decide ((toPy d).shown.length ≤ sizeLine)
def fRepr : D → Bs → Rs D := fun d B => match d with
  | .int i => if decide (i.natAbs.log2 < 1920) then .ok (.str (PyData.shown (.int i))) B else .bad
  | .bool b => .ok (.str (PyData.shown (.bool b))) B
  | .none => .ok (.str (PyData.shown .none)) B
  | .str x => if decide ((PySem.reprText x).length ≤ sizeLine) then .ok (.str (PyData.shown (.str x))) B else .bad
  | .dct [] [] => .ok (.str (PyData.shown (.dict []))) B
  | d => if reprOk d then .ok (.str (toPy d).shown) B else .bad
def rRepr (K : PySem.W.Frag) : List V → Hp → VK → Prop := fun xs H Q => ∃ a d, xs = [.ref a] ∧ Dp K H (.ref a) d ∧ d.showable = true ∧ d.hasDict = false ∧ d.depth < 50 ∧ d.shown.length ≤ sizeLine ∧ Q (.str d.shown) H
theorem call_reprD {X : Cx} (hg : X.A.guards = some []) (hu : X.A.units + 100 < cLine) : CallR X (.builtin "repr") (rRepr X.K) := by
  intro pins s σ H xs us Q I r h
  obtain ⟨a, d, rfl, hd, h1, h2, h3, h4, q⟩ := h
  obtain ⟨u, rfl, ru⟩ := vals1 r
  obtain ⟨as, rd⟩ := Dp.reads I d (.ref a) u hd ru
  obtain rfl : u = Value.ref a := ru
  exact repr_of_reads' rd h1 (fun z => by rw [h2] at z; cases z) hg (by omega) (fun _ _ e => e) (fun h' t tk hk => ⟨.str _, H, I.kept hk, ⟨_, rfl⟩, q⟩) h4
section
variable {g : Gs} {E : XK} {H0 : Hp} {X : Cx} {lv : Nat}
theorem callR_or {f : Value} {r1 r2 : List V → Hp → VK → Prop} (h1 : CallR X f r1) (h2 : CallR X f r2) : CallR X f (fun xs H Q => r1 xs H Q ∨ r2 xs H Q) := fun pins s σ H xs us Q I r h => h.elim (h1 pins s σ H xs us Q I r) (h2 pins s σ H xs us Q I r)
theorem call_reprI : CallR X (.builtin "repr") (fun xs H Q => ∃ i, xs = [.int i] ∧ i.natAbs.log2 < 1920 ∧ Q (.str (PyData.shown (.int i))) H) := by
  intro pins s σ H xs us Q I r h
  obtain ⟨i, rfl, hz, q⟩ := h
  obtain ⟨u, rfl, t, rfl⟩ := vals1 r
  exact PySem.P.repr_of_int hz ⟨.str _, H, I.tok _, ⟨_, rfl⟩, q⟩
theorem call_reprB : CallR X (.builtin "repr") (fun xs H Q => ∃ b, xs = [.bl b] ∧ Q (.str (PyData.shown (.bool b))) H) := by
  intro pins s σ H xs us Q I r h
  obtain ⟨b, rfl, q⟩ := h
  obtain ⟨u, rfl, ru⟩ := vals1 r
  obtain rfl : u = Value.bool b := ru
  exact PySem.P.repr_of_bool ⟨.str _, H, I.tok _, ⟨_, rfl⟩, q⟩
theorem call_reprN : CallR X (.builtin "repr") (fun xs H Q => xs = [.non] ∧ Q (.str (PyData.shown .none)) H) := by
  intro pins s σ H xs us Q I r h
  obtain ⟨rfl, q⟩ := h
  obtain ⟨u, rfl, ru⟩ := vals1 r
  obtain rfl : u = Value.none := ru
  exact PySem.P.repr_of_none ⟨.str _, H, I.tok _, ⟨_, rfl⟩, q⟩
theorem call_reprS : CallR X (.builtin "repr") (fun xs H Q => ∃ x, xs = [.str x] ∧ (PySem.reprText x).length ≤ sizeLine ∧ Q (.str (PyData.shown (.str x))) H) := by
  intro pins s σ H xs us Q I r h
  obtain ⟨x, rfl, hz, q⟩ := h
  obtain ⟨u, rfl, t, rfl⟩ := vals1 r
  exact PySem.P.repr_of_str ⟨.str _, H, I.tok _, ⟨_, rfl⟩, q⟩ hz
theorem call_reprE (hg : X.A.guards = some []) (hu : X.A.units + 100 < cLine) : CallR X (.builtin "repr") (fun xs H Q => ∃ a, xs = [.ref a] ∧ H a = some (dctO g a []) ∧ Q (.str (PyData.shown (.dict []))) H) := by
  intro pins s σ H xs us Q I r h
  obtain ⟨a, rfl, ha, q⟩ := h
  obtain ⟨u, rfl, ru⟩ := vals1 r
  obtain rfl : u = Value.ref a := ru
  have hok := I.hok a _ ha
  obtain ⟨⟨hs, _, _, _, ys, hp, o, es, ep, ho, hx, hd, he⟩, _, _⟩ := hok
  cases hp
  have hes : es.toList = [] := he
  have rd : Reads s.heap (.ref a) (.dict []) ((a :: []) ++ []) := .dict ho hx.1 hd (by rw [hes]; exact .nil) (by rw [hes]; exact .nil)
  refine repr_of_reads' rd rfl (fun _ z => ?_) hg (by simp only [PyData.depth, PyData.depthKv]; omega) (fun _ _ e => e) (fun h' t tk hk => ⟨.str _, H, I.kept hk, ⟨_, rfl⟩, q⟩) (by decide +kernel)
  simp at z
  subst z
  simp at hs
def rReprG (g : Gs) : List V → Hp → VK → Prop := fun xs H Q => rRepr g.K xs H Q ∨ (∃ i, xs = [.int i] ∧ i.natAbs.log2 < 1920 ∧ Q (.str (PyData.shown (.int i))) H) ∨ (∃ b, xs = [.bl b] ∧ Q (.str (PyData.shown (.bool b))) H) ∨ (xs = [.non] ∧ Q (.str (PyData.shown .none)) H) ∨
  (∃ x, xs = [.str x] ∧ (PySem.reprText x).length ≤ sizeLine ∧ Q (.str (PyData.shown (.str x))) H) ∨ (∃ a, xs = [.ref a] ∧ H a = some (dctO g a []) ∧ Q (.str (PyData.shown (.dict []))) H)
theorem call_reprG (c : OkG g E lv X) : CallR X (.builtin "repr") (rReprG g) := callR_or (c.K ▸ call_reprD c.gd c.un) (callR_or call_reprI (callR_or call_reprB (callR_or call_reprN (callR_or call_reprS (call_reprE c.gd c.un)))))
theorem repr_go {w : Wd} {σI : Sl} {B : Bs} {σ : L2.St} {H : Hp} {Q : VK} {x : V} {d : D} (s : S0 g H0 w σI B σ H) (r : RepO g w σI σ d x) (p : PostE g E w H σI σ false Q (fRepr d B)) : rReprG g [x] H Q := by
  unfold fRepr at p
  split at p
  · split at p
    · rename_i i h
      rw [r.int s]
      exact .inr (.inl ⟨_, rfl, of_decide_eq_true h, p.nowR s (rep_str g w _)⟩)
    · exact p.elim
  · rw [r.bool s]
    exact .inr (.inr (.inl ⟨_, rfl, p.nowR s (rep_str g w _)⟩))
  · rw [r.none s]
    exact .inr (.inr (.inr (.inl ⟨rfl, p.nowR s (rep_str g w _)⟩)))
  · split at p
    · rename_i i h
      rw [r.str s]
      exact .inr (.inr (.inr (.inr (.inl ⟨_, rfl, of_decide_eq_true h, p.nowR s (rep_str g w _)⟩))))
    · exact p.elim
  · obtain ⟨a, xs, rfl, ha, h1, _, _⟩ := r.dct s
    have hx : xs = [] := by
      cases xs with
      | nil => rfl
      | cons _ _ => simp at h1
    subst hx
    exact .inr (.inr (.inr (.inr (.inr ⟨a, rfl, ha, p.nowR s (rep_str g w _)⟩))))
  · split at p
    · rename_i h
      unfold reprOk at h
      simp only [Bool.and_eq_true, decide_eq_true_eq, Bool.not_eq_true'] at h
      obtain ⟨⟨⟨⟨⟨h0, h1⟩, h2⟩, h3⟩, h4⟩, h5⟩ := h
      have hd := r.dp s h1
      have key : ∃ a, x = .ref a := by
        split at h0
        · obtain ⟨a, _, e, _⟩ := r.tup s; exact ⟨a, e⟩
        · obtain ⟨a, _, e, _⟩ := r.lst s; exact ⟨a, e⟩
        · cases h0
      obtain ⟨a, rfl⟩ := key
      exact .inl ⟨a, _, rfl, hd, h2, h3, h4, h5, p.nowR s (rep_str g w _)⟩
    · exact p.elim
theorem o_repr (c : OkG g E lv X) : One g E H0 X (.builtin "repr") fRepr := ⟨_, call_reprG c, fun w σI B σ H Q x d s r p => repr_go s r p⟩
end
/-! ### defs that ask for repr: promises where no repr is under way -/
structure FnG (P : Program) (w : World) (K : PySem.W.Frag) (mg : Str → Option Value) (base : Heap) (CX : CXT) (k : Nat) (f : Addr) (fd : FuncData) (ps : List Str) (sp : Sp) : Prop where
  len : ∀ vs H Q E, sp vs H Q E → vs.length = ps.length
  run : ∀ (A : Around) (outer : List Env) (s : Shared) (H : Hp) (args : Args) (us : List Value) (vs : List V) (Q : VK) (E : XK), A.guards = some [] → Room k A → Env0 P w K mg base A outer s H → BindsTo s fd args (ps.zip us) → Vals vs us → sp vs H Q E →
    codeAny (model P w) A (.call (.ref f) args) (CR CX outer P w H s Q E) s
theorem FnG.mono {P : Program} {w : World} {K : PySem.W.Frag} {mg : Str → Option Value} {base : Heap} {CX : CXT} {j k : Nat} {f : Addr} {fd : FuncData} {ps : List Str} {sp : Sp} (F : FnG P w K mg base CX j f fd ps sp) (h : j ≤ k) : FnG P w K mg base CX k f fd ps sp :=
  ⟨F.len, fun A outer s H args us vs Q E hg hr => F.run A outer s H args us vs Q E hg (hr.mono h)⟩
def DefG (g : Gs) (k : Nat) (x : Str) (dfl : List D) (f : Fn) : Prop := ∃ (fa : Addr) (fd : FuncData) (ps : List Str) (dvs : List V) (ds : List Value), FnG g.prog g.w g.K g.mg g.base (L2N.CX g.prog g.w) k fa fd ps (spF g f) ∧ g.mg x = some (.ref fa) ∧ PySem.W.keepIn g.K (.ref fa) = true ∧ Binds g.K fd ps ds ∧ Vals dvs ds ∧ ∀ w, Reps g w dfl dvs
section
variable {g : Gs} {E : XK} {w0 w : Wd} {H0 H : Hp} {X : Cx} {e : Expr} {es : List Expr} {ms : Evs} {pos p : Pos} {x : Str} {f : Fn} {lv k : Nat} {dfl : List D} {σI : Sl} {σ : L2.St} {B : Bs} {Q : VK}
theorem run_g {CX : CXT} {fa : Addr} {fd : FuncData} {ps : List Str} {sp : Sp} {ds us : List Value} {dvs vs : List V} {pins : List (Addr × Obj)} {s : Shared} (F : FnG X.prog X.w X.K X.mg X.base CX k fa fd ps sp) (hg : X.A.guards = some []) (hr : Room k X.A) (hb : Binds X.K fd ps ds) (hd : Vals dvs ds) (hx : Passes CX X E)
    (I : Inv X pins σ H s) (r : Vals vs us) (h : sp (vs ++ dvs) H Q E) : wpAny (model X.prog X.w) X.A (call (.ref fa) us) (EP X pins σ Q) X.xe s := by
  have r2 : Vals (vs ++ dvs) (us ++ ds) := r.append hd
  refine wpAny_call (codeAny_mono (F.run X.A X.stack s H ⟨us, []⟩ (us ++ ds) (vs ++ dvs) Q E hg hr I.env0 (hb s us I.kIn (by rw [← r2.length]; exact F.len _ _ _ _ h)) r2 h) fun r s' hq => ?_)
  cases r with
  | error e => exact hx pins σ H s e s' I hq
  | ok fl =>
    cases fl with
    | ret u => exact I.after hq
    | next | brk | cont => exact hq.elim
theorem s_callG (c : OkG g E lv X) (d : DefG g k x dfl f) (hk : k ≤ lv) (ha : Snds g E H0 X (e :: es) ms) (hg : Gl X x := by rfl) (hdb : (x == ("__debug__" : Str)) = false := by decide) (he : starEach (e :: es) X.env = (false, eval e X.env) :: starEach es X.env := by rfl) (hpl : (backTo pos (starEach es X.env)).any (·.1) = false := by rfl) :
    Snd g E H0 X false (.Call (.Name x p) (e :: es) [] pos) (mCall f dfl ms) := by
  obtain ⟨fa, fd, ps, dvs, ds, F, hm, kp, b, hd, hr⟩ := d
  obtain ⟨prog, w', K, mg, base, A, N, s_0, H_0, env, outer, stack, ex, fn, calm, pn, xe⟩ := X
  obtain ⟨⟨⟨h1, h2, h3, h4, h5, h6, h7, hfx⟩, h8, h9⟩, h10⟩ := c
  simp only at h1 h2 h5 h6 h7
  subst h1 h2 h5 h6 h7
  refine weak (t := tCall (spF g f) dvs E (tIs g E H0 ms)) ⟨fun pins s σ H Q I h => ?_⟩ (call_go rfl hr)
  refine wpAny_Call_Name_kw (ld_glob I hg hm (PySem.W.callWith_K (h₀ := g.base) I.ok.mod.kin kp (thn (ha.run pos pins s σ H _ I h) fun us s1 ⟨vs, H1, I1, r, q⟩ => ⟨I1.kIn, run_g F h10 (h8.mono hk) b hd h9 I1 r q⟩) he hpl) hdb)
/-- a def whose body asks for repr -/
theorem def_okG {qual : Str} {st : Stmt} {fa : Addr} {fd : FuncData} {N ps : List Str} {n : Nat} {b : Ms} (F : L2.Fun g.K x qual st fa fd) (S : FnScope N ps (defScope st)) (hn : ps.length = n) (hN : n ≤ N.length)
    (fx : Fx g) (hb : ∀ (E : XK) (w0 : Wd) (H0 : Hp) (X : Cx), OkG g E k X → PassesOwn (model X.prog X.w) X.A X.env X.xe → L2N.Takes X (fun cls d _ H => E cls d H) → X.N = N → X.env.scope = defScope st → X.fn = (fun _ => true) → SndB g E w0 H0 X (defBody st) b) :
    FnG g.prog g.w g.K g.mg g.base (L2N.CX g.prog g.w) (k + 1) fa fd ps (spF g (mkFn n N.length b)) := by
  obtain ⟨oc, od, kV, doc, pm, an, cdv, ct, osl, rfl, lk, hcd⟩ := F.ex
  have hl : ∀ vs H Q E, spF g (mkFn n N.length b) vs H Q E → vs.length = ps.length := fun vs H Q E h => by
    obtain ⟨w, ds, B, rb, r, p⟩ := h
    unfold mkFn at p
    split at p
    · rename_i e; rw [r.len, e, hn]
    · exact p.elim
  refine ⟨hl, fun A outer s H args us vs Q E hg hr e0 hbd r h => ?_⟩
  refine StX.run_bnd lk hcd S hr e0 (G := fun xs H2 => xs = vs ∧ H2 = H) (fun A' Ex Q' hq => hbd _ _ _ _ (hq s H vs us e0 Un.refl rfl (fun _ _ z => z) r (hl _ _ _ _ h) ⟨rfl, rfl⟩)) ?_
  rintro s2 H2 xs ⟨rfl, rfl⟩ hr'
  obtain ⟨w, ds, B, rb, r, p⟩ := h
  unfold mkFn at p
  split at p
  · rename_i e
    refine ⟨_, hb E w H2 _ ⟨⟨⟨rfl, rfl, rfl, ?_, rfl, rfl, rfl, fx⟩, hr', ?_⟩, hg⟩ (passes_of rfl) (L2N.takes_of rfl rfl rfl rfl) rfl rfl rfl, ?_⟩
    · have := hr'.un; show A.units + 3 + 100 < cLine; have h2 : A.units + 3 + 16 * k + 200 < cLine := this; omega
    · exact L2N.passes_call (L2N.takes_of rfl rfl rfl rfl) (fun _ _ _ _ h => h)
    · refine ⟨w, _, B, start_at rb r e hN, Ext.refl _ _, ?_⟩
      revert p
      generalize b _ B = q
      intro p
      cases q with
      | next σI' B' => exact fun w' σ H' _ s x => p w' .non H' x s.rb (rep_none g w')
      | ret d B' => exact fun w' v H' rb x r => p w' v H' x rb r
      | exc c y B' => exact fun w' cls dd H' rb x r => p w' cls dd H' x rb r
      | bad => exact p
  · exact p.elim
end
end Hf

set_option Elab.async false
set_option linter.all false
set_option maxRecDepth 100000
set_option maxHeartbeats 4000000
namespace Hf
open PySem PySem.Spec PyProof.Rows L2

/-! ### the built-ins by their names -/
theorem bt_len : bootBuiltins "len" = some (.builtin "len") := by decide +kernel
theorem bt_all : bootBuiltins "all" = some (.builtin "all") := by decide +kernel
theorem bt_max : bootBuiltins "max" = some (.builtin "max") := by decide +kernel
theorem bt_min : bootBuiltins "min" = some (.builtin "min") := by decide +kernel
theorem bt_repr : bootBuiltins "repr" = some (.builtin "repr") := by decide +kernel
section
variable {g : Gs} {E : XK} {w0 w : Wd} {H0 H : Hp} {X : Cx} {a b e : Expr} {ma mb m : Ev} {pos p1 : Pos} {b1 b2 : Bool} {lv : Nat} {st : Stmt}
theorem q_len (c : Ok g X) (he : Snd g E H0 X b1 e m) (hg : Gl X "len" := by rfl) (h1 : starEach (e :: []) X.env = (false, eval e X.env) :: starEach [] X.env := by rfl) : Snd g E H0 X false (.Call (.Name "len" p1) [e] [] pos) (m1 fLen m) := s_b1 (o_len c) bt_len (nbs c) he hg (by decide) (by decide) h1
theorem q_all (c : Ok g X) (he : Snd g E H0 X b1 e m) (hg : Gl X "all" := by rfl) (h1 : starEach (e :: []) X.env = (false, eval e X.env) :: starEach [] X.env := by rfl) : Snd g E H0 X false (.Call (.Name "all" p1) [e] [] pos) (m1 fAll m) := s_b1 (o_all c) bt_all (nbs c) he hg (by decide) (by decide) h1
theorem q_max2 (c : Ok g X) (ha : Snd g E H0 X b1 a ma) (hb : Snd g E H0 X b2 b mb) (hg : Gl X "max" := by rfl) (h1 : starEach (a :: [b]) X.env = (false, eval a X.env) :: starEach [b] X.env := by rfl) (h2 : starEach (b :: []) X.env = (false, eval b X.env) :: starEach [] X.env := by rfl) (hpl : (backTo pos (starEach [b] X.env)).any (·.1) = false := by rfl) :
    Snd g E H0 X false (.Call (.Name "max" p1) [a, b] [] pos) (mBin fMax2 ma mb) := s_b2 (o_max2 c) bt_max (nbs c) ha hb hg (by decide) (by decide) h1 h2 hpl
theorem q_min2 (c : Ok g X) (ha : Snd g E H0 X b1 a ma) (hb : Snd g E H0 X b2 b mb) (hg : Gl X "min" := by rfl) (h1 : starEach (a :: [b]) X.env = (false, eval a X.env) :: starEach [b] X.env := by rfl) (h2 : starEach (b :: []) X.env = (false, eval b X.env) :: starEach [] X.env := by rfl) (hpl : (backTo pos (starEach [b] X.env)).any (·.1) = false := by rfl) :
    Snd g E H0 X false (.Call (.Name "min" p1) [a, b] [] pos) (mBin fMin2 ma mb) := s_b2 (o_min2 c) bt_min (nbs c) ha hb hg (by decide) (by decide) h1 h2 hpl
theorem q_repr (c : OkG g E lv X) (he : Snd g E H0 X b1 e m) (hg : Gl X "repr" := by rfl) (h1 : starEach (e :: []) X.env = (false, eval e X.env) :: starEach [] X.env := by rfl) : Snd g E H0 X false (.Call (.Name "repr" p1) [e] [] pos) (m1 fRepr m) := s_b1 (o_repr c) bt_repr (nbs c.toOk) he hg (by decide) (by decide) h1
/-- what is not reached may be anything -/
def mBad : Ms := fun _ _ => .bad
theorem z_bad : SndS g E w0 H0 X st mBad := ⟨fun pins s σ H Q I q => by
  obtain ⟨_, _, _, _, _, z⟩ := q
  exact z.elim⟩
/-- self.f = e in an __init__, f the j-th field -/
def mFldJ (c j : Nat) (m : Ev) : Ms := fun σ B => match σ[(0 : Nat)]? with
  | some (some (true, .inst _ ds)) => if ds.length = j then mFldSet c m σ B else .bad
  | _ => .bad
end
end Hf

set_option Elab.async false
set_option linter.all false
set_option maxRecDepth 100000
set_option maxHeartbeats 4000000
namespace Hf
open PySem PySem.Spec PyProof.Rows L2

/-! ### the head: the law's call, no repr under way -/
/-! ### isinstance's answers from a class's record -/
theorem kit_obj {K : PySem.W.Frag} {C : Addr} {b : String} (h : PySem.W.mroIn K C (.type b) = some false) (hm : PySem.W.kitMeta b = true := by decide +kernel) : PySem.W.kitOne K (.ref C) (.type b) = some false := by
  have e : (Value.ref C == Value.type b) = false := beq_eq_false_iff_ne.mpr (fun z => nomatch z)
  unfold PySem.W.kitOne PySem.W.kitCls
  simp only [e, Bool.false_eq_true, if_false, hm, if_true]
  exact h
theorem kit_self {K : PySem.W.Frag} {C : Addr} : PySem.W.kitOne K (.ref C) (.ref C) = some true := by
  unfold PySem.W.kitOne
  rw [if_pos (beq_self_eq_true _)]
theorem mro_no (C : Addr) : ∀ T ∈ ["NoneType", "int", "bool", "str", "list", "tuple", "dict"], (fastBuiltinMro T).map (·.contains (Value.ref C)) = some false := by
  intro T h
  simp only [List.mem_cons, List.not_mem_nil, or_false] at h
  rcases h with rfl | rfl | rfl | rfl | rfl | rfl | rfl <;> kernel_rfl
theorem kit_own {K : PySem.W.Frag} {C : Addr} {T : String} (hT : T ∈ ["NoneType", "int", "bool", "str", "list", "tuple", "dict"]) (hi : PySem.W.isClsIn K C = true) (ht : PySem.W.typeIn K (.ref C) = some (.type "type")) : PySem.W.kitOne K (.type T) (.ref C) = some false := by
  have e : (Value.type T == Value.ref C) = false := beq_eq_false_iff_ne.mpr (fun z => nomatch z)
  have hc : (PySem.W.clsIn K C).isSome = true := hi
  unfold PySem.W.kitOne PySem.W.kitCls
  simp only [e, Bool.false_eq_true, if_false, hc, ht, beq_self_eq_true, Bool.and_self, if_true]
  exact mro_no C T hT
end Hf

set_option Elab.async false
set_option linter.all false
set_option maxRecDepth 100000
set_option maxHeartbeats 8000000
namespace Hf
open PySem PySem.Spec PyProof.Rows L2

/-! ### a set of whole numbers, made of a list -/
section
variable {P : Program} {w : World} {A : Around}
end
section
variable {g : Gs} {E : XK} {H0 : Hp} {X : Cx}
/-! ### sorted(set(xs)), len(set(xs)) -/
variable {e : Expr} {m : Ev} {b1 : Bool} {p p2 q pos : Pos}
end
/-! ### defs with defaults -/
section
variable {g : Gs} {k : Nat}
end
end Hf

set_option Elab.async false
set_option linter.all false
set_option maxRecDepth 100000
set_option maxHeartbeats 8000000
namespace Hf
open PySem PySem.Spec PyProof.Rows L2
section
variable {g : Gs} {E : XK} {w0 w : Wd} {H0 H : Hp} {X : Cx} {e : Expr} {pos p : Pos} {x : Str} {f : Fn} {lv k : Nat} {dfl : List D} {σI : Sl} {σ : L2.St} {B : Bs} {Q : VK}
end
end Hf

set_option Elab.async false
set_option linter.all false
set_option maxRecDepth 100000
set_option maxHeartbeats 8000000
namespace Hf
open PySem PySem.Spec PyProof.Rows L2
section
variable {g : Gs} {E : XK} {w0 w : Wd} {H0 H : Hp} {X : Cx} {o e a b : Expr} {es : List Expr} {m ma mb mo : Ev} {ms : Evs} {pos p p1 p2 apos cpos : Pos} {x n : Str} {f : Fn} {lv k c : Nat} {dfl : List D} {σI : Sl} {σ : L2.St} {B : Bs} {Q : VK} {b1 b2 bo : Bool} {i : Nat}
/-! ### t.index(x), l.index(x): the first place of an equal one -/
def ixD (d : D) : List D → Option Nat
  | [] => Option.none
  | z :: r => if PyData.eqv (toPy z) (toPy d) then some 0 else (ixD d r).map (· + 1)
theorem ixD_some {d : D} : ∀ {l : List D} {j : Nat}, ixD d l = some j → ∃ z, (toPys l)[j]? = some z ∧ PyData.eqv z (toPy d) = true ∧ ∀ (m : Nat) (z' : PyData), m < j → (toPys l)[m]? = some z' → PyData.eqv z' (toPy d) = false
  | [], j, h => by cases h
  | z :: r, j, h => by
    unfold ixD at h
    split at h
    · rename_i e
      cases h
      exact ⟨toPy z, by simp [toPys], e, fun m _ hm => absurd hm (Nat.not_lt_zero _)⟩
    · rename_i e
      obtain ⟨q, h1, rfl⟩ := Option.map_eq_some_iff.mp h
      obtain ⟨z1, a1, a2, a3⟩ := ixD_some h1
      refine ⟨z1, by simpa [toPys] using a1, a2, fun m z' hm hz => ?_⟩
      cases m with
      | zero =>
        have : z' = toPy z := by simpa [toPys] using hz.symm
        rw [this]; exact Bool.eq_false_iff.mpr e
      | succ m => exact a3 m z' (by omega) (by simpa [toPys] using hz)
def fIdx : D → D → Bs → Rs D
  | .tup ds, d, B => if shp (.tup ds) && shp d then (match ixD d ds with
    | some j => .ok (.int (j : Nat)) B
    | Option.none => .bad) else .bad
  | .lst ds, d, B => if shp (.lst ds) && shp d then (match ixD d ds with
    | some j => .ok (.int (j : Nat)) B
    | Option.none => .bad) else .bad
  | _, _, _ => .bad
def isLi : D → Bs → Rs D
  | .lst ds, B => .ok (.lst ds) B
  | _, _ => .bad
def mIdxL (mo me : Ev) : Ev := fun σ B => (mo σ B).bind fun o B1 => (isLi o B1).bind fun o B2 => (me σ B2).bind fun d B3 => fIdx o d B3
theorem s_idxL (ok : Ok g X) (ho : Snd g E H0 X b1 o mo) (he : Snd g E H0 X false e m)
    (hbase : attributeBase o "index" X.env (eval o X.env) = eval o X.env := by rfl)
    (hfew : ((backTo cpos (starEach [e] X.env)).all (fun x => !x.1) && (backToKw cpos (keywordEach [] X.env)).all (fun x => x.1.isSome) && decide ([e].length + ([] : List Keyword).length + (if ([] : List Keyword).isEmpty then 0 else 1) < 30)) = true := by rfl)
    (hline : (apos.endLine == cpos.line) = true := by rfl) (hs : starEach [e] X.env = (false, eval e X.env) :: starEach [] X.env := by rfl) (hpl : (backTo cpos (starEach [] X.env)).any (·.1) = false := by rfl) :
    Snd g E H0 X false (.Call (.Attribute o "index" apos) [e] [] cpos) (mIdxL mo m) := by
  refine weak (pe_bm PySem.F.plainAttrs_list PySem.F.slot_list_index PySem.F.type_list_index (mt_indexD (by have := ok.un; omega)) ho (pa_cons he pa_nil hs) hbase hfew hline hs hpl) ?_
  rintro σ H Q ⟨w, σI, B, s, p⟩
  refine tI_bind s p fun d B1 w1 v H1 x1 s1 r1 p1 => ?_
  cases d <;> first | exact p1.elim | skip
  rename_i ds
  obtain ⟨a0, vs0, e0, q0, rr0⟩ := r1.up.lst s1
  subst e0
  refine ⟨tyL q0, ?_⟩
  refine tI_bind s1 p1 fun d2 B2 w2 v2 H2 x2 s2 r2 p2 => ?_
  unfold fIdx at p2
  simp only at p2
  split at p2
  · rename_i hsh
    obtain ⟨sh1, sh2⟩ := Bool.and_eq_true_iff.mp hsh
    split at p2
    · rename_i j hj
      obtain ⟨z, z1, z2, z3⟩ := ixD_some hj
      have rt : RepO g w2 σI σ (.lst ds) (.ref a0) := r1.up.mono x2.le
      have dp := rt.dp s2 (SeqAt.canLay_of_shaped sh1)
      exact ⟨a0, v2, toPy d2, toPys ds, j, z, rfl, rfl, ok.K ▸ dp, ok.K ▸ r2.up.dp s2 (SeqAt.canLay_of_shaped sh2), sh1, sh2, z1, z2, z3, p2.nowR s2 (rep_int g w2 _)⟩
    · exact p2.elim
  · exact p2.elim
/-! ### x[e], x(e, ..), e in x of an own instance -/
/-- c has the special method n, a def that means f, and is a function of the text -/
def DunF (g : Gs) (k c : Nat) (n : Str) (f : Fn) : Prop := ∃ fa, FnR g.prog g.w g.K g.mg g.base (L2N.CX g.prog g.w) k fa (spF g f) ∧ PySem.W.findIn g.K (.ref (g.cl c)) n = some (some (.ref fa)) ∧ PySem.W.isFn g.K (.ref fa) = true ∧ PySem.W.fnIn g.K fa = true ∧ g.has c = true
/-! ### a, b = x, []: one of both is an own container -/
end
end Hf

set_option Elab.async false
set_option linter.all false
set_option maxRecDepth 100000
set_option maxHeartbeats 8000000
namespace Hf
open PySem PySem.Spec PyProof.Rows L2

/-! ### calls by the parameters' names -/
/-- the values in the parameters' order: pi tells for each parameter which of the named values it is -/
def permL {α : Type} (pi : List Nat) (ws : List α) : List α := pi.filterMap fun i => ws[i]?
/-- m values by place, then named ones -/
def KwB (K : PySem.W.Frag) (fd : FuncData) (ps ks : List Str) (m : Nat) (pi : List Nat) : Prop := ∀ (s : Shared) (us ws : List Value), K.In s.heap → us.length = m → ws.length = ks.length → BindsTo s fd ⟨us, ks.zip ws⟩ (ps.zip (us ++ permL pi ws))
section
variable {g : Gs} {E : XK} {w0 w : Wd} {H0 H : Hp} {X : Cx} {e o a b : Expr} {es : List Expr} {m ma mb : Ev} {ms : Evs} {pos p apos kpos : Pos} {x : Str} {f : Fn} {lv k c : Nat} {σI : Sl} {σ : L2.St} {B : Bs} {Q : VK} {kws : List Keyword} {ks : List Str} {pi : List Nat} {nm : Option Str}
def named (n : Nat) (pi : List Nat) (f : List D → Bs → Rs D) (ds : List D) (B : Bs) : Rs D := if ds.length = n then f (permL pi ds) B else .bad
/-! ### x.m() -/
/-! ### C.m(k = v, ..), m a class method -/
/-! ### x(k = v, ..), x an own instance -/
end
end Hf

set_option Elab.async false
set_option linter.all false
set_option maxRecDepth 100000
set_option maxHeartbeats 8000000
namespace Hf
open PySem PySem.Spec PyProof.Rows L2

section
variable {g : Gs} {E : XK} {w0 w : Wd} {H0 H : Hp} {X : Cx} {e o a b : Expr} {es : List Expr} {m ma mb : Ev} {ms : Evs} {pos p apos kpos : Pos} {x : Str} {f : Fn} {lv k c : Nat} {σI : Sl} {σ : L2.St} {B : Bs} {Q : VK} {kws : List Keyword} {ks : List Str} {pi : List Nat} {b1 b2 : Bool}
/-! ### a ^ b of numbers -/
/-! ### sorted of a list of data that is in order already -/
/-! ### sum of a tuple of numbers -/
end
end Hf

set_option Elab.async false
set_option linter.all false
set_option maxRecDepth 100000
set_option maxHeartbeats 8000000
namespace Hf
open PySem PySem.Spec PyProof.Rows L2

/-! ### an __init__ with parameters, some with defaults -/
section
variable {g : Gs} {E : XK} {w0 w : Wd} {H0 H : Hp} {X : Cx} {e : Expr} {es : List Expr} {m : Ev} {ms : Evs} {pos p : Pos} {x : Str} {f : Fn} {lv k c : Nat} {σI : Sl} {σ : L2.St} {B : Bs} {Q : VK} {kws : List Keyword} {ks : List Str} {pi : List Nat}
/-! ### C(k = v, ..) -/
end
end Hf

set_option Elab.async false
set_option linter.all false
set_option maxRecDepth 100000
set_option maxHeartbeats 8000000
namespace Hf
open PySem PySem.Spec PyProof.Rows L2

/-! ### defaults and names of an __init__, classes among each other -/
theorem kit_ref {K : PySem.W.Frag} {C D : Addr} {b : Bool} (h : PySem.W.mroIn K C (.ref D) = some b) (h2 : PySem.W.mroIn K D (.ref D) = some true) (hi : PySem.W.isClsIn K D = true) (ht : PySem.W.typeIn K (.ref D) = some (.type "type")) : PySem.W.kitOne K (.ref C) (.ref D) = some b := by
  by_cases e : C = D
  · subst e
    rw [h] at h2
    cases h2
    exact kit_self
  · have e' : (Value.ref C == Value.ref D) = false := beq_eq_false_iff_ne.mpr (fun z => e (Value.ref.inj z))
    have hc : (PySem.W.clsIn K D).isSome = true := hi
    unfold PySem.W.kitOne PySem.W.kitCls
    simp only [e', Bool.false_eq_true, if_false, hc, ht, beq_self_eq_true, Bool.and_self, if_true]
    exact h
end Hf

set_option Elab.async false
set_option linter.all false
set_option maxRecDepth 100000
set_option maxHeartbeats 8000000
namespace Hf
open PySem PySem.Spec PyProof.Rows L2

/-! ### a box compared by what it holds -/
section
variable {g : Gs} {E : XK} {H0 : Hp} {X : Cx}
end
end Hf

set_option Elab.async false
set_option linter.all false
set_option maxRecDepth 100000
namespace Hf
open PySem PySem.Spec PyProof.Rows L2

/-! ### the meanings, run on plain data -/
@[simp] theorem z_mSkip (σ : Sl) (B : Bs) : mSkip σ B = .next σ B := (rfl)
@[simp] theorem z_mSeq (m1 m2 : Ms) (σ : Sl) (B : Bs) : mSeq m1 m2 σ B = (m1 σ B).seq m2 := (rfl)
@[simp] theorem z_mRet (m : Ev) (σ : Sl) (B : Bs) : mRet m σ B = (m σ B).st fun d B1 => .ret d B1 := (rfl)
@[simp] theorem z_mIf (t : Et) (m1 m2 : Ms) (σ : Sl) (B : Bs) : mIf t m1 m2 σ B = (t σ B).st fun k B1 => if k then m1 σ B1 else m2 σ B1 := (rfl)
@[simp] theorem z_mSet (i : Nat) (m : Ev) (σ : Sl) (B : Bs) : mSet i m σ B = (m σ B).st fun d B1 => .next (σ.set i (some (false, d))) B1 := (rfl)
@[simp] theorem z_mSetO (i : Nat) (m : Ev) (σ : Sl) (B : Bs) : mSetO i m σ B = (m σ B).st fun d B1 => .next (σ.set i (some (true, d))) B1 := (rfl)
@[simp] theorem z_mAsg (t : Tg) (m : Ev) (σ : Sl) (B : Bs) : mAsg t m σ B = (m σ B).st fun d B1 => match t d σ with
  | some σ' => .next σ' B1
  | Option.none => .bad := (rfl)
@[simp] theorem z_gN (i : Nat) (d : D) (σ : Sl) : gN i d σ = some (σ.set i (some (false, d))) := (rfl)
@[simp] theorem z_gT (t : Tgs) (d : D) (σ : Sl) : gT t d σ = match d with
  | .tup ds => t ds σ
  | .prs ds => t ds σ
  | _ => Option.none := (rfl)
@[simp] theorem z_gs0 (ds : List D) (σ : Sl) : gs0 ds σ = match ds with
  | [] => some σ
  | _ => Option.none := (rfl)
@[simp] theorem z_gsC (t : Tg) (u : Tgs) (ds : List D) (σ : Sl) : gsC t u ds σ = match ds with
  | d :: r => (t d σ).bind fun σ' => u r σ'
  | [] => Option.none := rfl
@[simp] theorem z_mVar (i : Nat) (σI : Sl) (B : Bs) : mVar i σI B = match σI[i]? with
  | some (some (false, d)) => .ok d B
  | _ => .bad := rfl
@[simp] theorem z_mBor (i : Nat) (σI : Sl) (B : Bs) : mBor i σI B = match σI[i]? with
  | some (some (_, d)) => .ok d B
  | _ => .bad := rfl
@[simp] theorem z_mC (d : D) (w0 : Sl) (B : Bs) : mC d w0 B = .ok d B := (rfl)
@[simp] theorem z_mBin (f : D → D → Bs → Rs D) (a b : Ev) (σI : Sl) (B : Bs) : mBin f a b σI B = (a σI B).bind fun x B1 => (b σI B1).bind fun y B2 => f x y B2 := (rfl)
@[simp] theorem z_mCmpT (f : D → D → Bs → Rs D) (ma mb : Ev) (σI : Sl) (B : Bs) : mCmpT f ma mb σI B = (ma σI B).bind fun x B1 => (mb σI B1).bind fun y B2 => toB (f x y B2) := (rfl)
@[simp] theorem z_mChain (f f' : D → D → Bs → Rs D) (ma mb mc : Ev) (σI : Sl) (B : Bs) : mChain f f' ma mb mc σI B = (ma σI B).bind fun x B1 => (mb σI B1).bind fun y B2 => (toB (f x y B2)).bind fun k B3 =>
  if k then (mc σI B3).bind fun z B4 => f' y z B4 else .ok (.bool false) B3 := rfl
@[simp] theorem z_mChainT (f f' : D → D → Bs → Rs D) (ma mb mc : Ev) (σI : Sl) (B : Bs) : mChainT f f' ma mb mc σI B = (ma σI B).bind fun x B1 => (mb σI B1).bind fun y B2 => (toB (f x y B2)).bind fun k B3 =>
  if k then (mc σI B3).bind fun z B4 => toB (f' y z B4) else .ok false B3 := rfl
@[simp] theorem z_mT (m : Ev) (σI : Sl) (B : Bs) : mT m σI B = (m σI B).bind fun d B1 => tru d B1 := (rfl)
@[simp] theorem z_mNotT (t : Et) (σI : Sl) (B : Bs) : mNotT t σI B = (t σI B).bind fun k B1 => .ok (!k) B1 := (rfl)
@[simp] theorem z_mOrT (t u : Et) (σI : Sl) (B : Bs) : mOrT t u σI B = (t σI B).bind fun k B1 => if k then .ok true B1 else u σI B1 := (rfl)
@[simp] theorem z_mAnd (ma mb : Ev) (σI : Sl) (B : Bs) : mAnd ma mb σI B = (ma σI B).bind fun d B1 => (tru d B1).bind fun k _ => if k then mb σI B1 else .ok d B1 := (rfl)
@[simp] theorem z_mNot (ma : Ev) (σI : Sl) (B : Bs) : mNot ma σI B = (ma σI B).bind fun d B1 => (tru d B1).bind fun k _ => .ok (.bool (!k)) B1 := (rfl)
@[simp] theorem z_mIte (t : Et) (ma mb : Ev) (σI : Sl) (B : Bs) : mIte t ma mb σI B = (t σI B).bind fun k B1 => if k then ma σI B1 else mb σI B1 := (rfl)
@[simp] theorem z_mNil (w0 : Sl) (B : Bs) : mNil w0 B = .ok [] B := (rfl)
@[simp] theorem z_mCons (m : Ev) (ms : Evs) (σI : Sl) (B : Bs) : mCons m ms σI B = (m σI B).bind fun d B1 => (ms σI B1).bind fun ds B2 => .ok (d :: ds) B2 := (rfl)
@[simp] theorem z_mTup (ms : Evs) (σI : Sl) (B : Bs) : mTup ms σI B = (ms σI B).bind fun ds B1 => if szL ds then .ok (.tup ds) B1 else .bad := (rfl)
@[simp] theorem z_mLst (ms : Evs) (σI : Sl) (B : Bs) : mLst ms σI B = (ms σI B).bind fun ds B1 => if szL ds then .ok (.lst ds) B1 else .bad := (rfl)
@[simp] theorem z_m1 (k : D → Bs → Rs D) (m : Ev) (σI : Sl) (B : Bs) : m1 k m σI B = (m σI B).bind k := (rfl)
@[simp] theorem z_mItems (m : Ev) (σ : Sl) (B : Bs) : mItems m σ B = (m σ B).bind fun d B1 => match itemsOf d with
  | some ds => .ok ds B1
  | Option.none => .bad := (rfl)
@[simp] theorem z_mRng1 (m : Ev) (σ : Sl) (B : Bs) : mRng1 m σ B = (m σ B).bind fun d B1 => (asI d B1).bind fun n B2 => if rngB n then .ok (rngD 0 n.toNat) B2 else .bad := (rfl)
@[simp] theorem z_mYes (w0 : Sl) (B : Bs) : mYes w0 B = .ok true B := (rfl)
@[simp] theorem z_mCall (f : Fn) (dfl : List D) (ms : Evs) (σ : Sl) (B : Bs) : mCall f dfl ms σ B = (ms σ B).bind fun ds B1 => f (ds ++ dfl) B1 := (rfl)
@[simp] theorem z_mBad (w0 : Sl) (w1 : Bs) : mBad w0 w1 = .bad := (rfl)
@[simp] theorem z_mMake (f : Fn) (ms : Evs) (σ : Sl) (B : Bs) : mMake f ms σ B = (ms σ B).bind fun ds B1 => f ds B1 := (rfl)
@[simp] theorem z_bind_ok {α β : Type} (a : α) (B : Bs) (f : α → Bs → Rs β) : (Rs.ok a B).bind f = f a B := (rfl)
@[simp] theorem z_st_ok {α : Type} (a : α) (B : Bs) (f : α → Bs → Ss) : (Rs.ok a B).st f = f a B := (rfl)
@[simp] theorem z_seq_next (σ : Sl) (B : Bs) (k : Ms) : (Ss.next σ B).seq k = k σ B := (rfl)
@[simp] theorem z_seq_ret (d : D) (B : Bs) (k : Ms) : (Ss.ret d B).seq k = .ret d B := (rfl)
@[simp] theorem z_fin_next (σ : Sl) (B : Bs) : (Ss.next σ B).fin = .ok .none B := (rfl)
@[simp] theorem z_fin_ret (d : D) (B : Bs) : (Ss.ret d B).fin = .ok d B := (rfl)
@[simp] theorem z_toB (b : Bool) (B : Bs) : toB (.ok (.bool b) B) = .ok b B := (rfl)
@[simp] theorem z_tru_b (b : Bool) (B : Bs) : tru (.bool b) B = .ok b B := (rfl)
@[simp] theorem z_tru_i (i : Int) (B : Bs) : tru (.int i) B = .ok (i != 0) B := (rfl)
@[simp] theorem z_okIf (d : D) (B : Bs) : okIf (some d) B = .ok d B := (rfl)
@[simp] theorem z_asI (i : Int) (B : Bs) : asI (.int i) B = .ok i B := (rfl)
@[simp] theorem z_it_t (ds : List D) : itemsOf (.tup ds) = some ds := (rfl)
@[simp] theorem z_it_l (ds : List D) : itemsOf (.lst ds) = some ds := (rfl)
@[simp] theorem z_it_s (ds : List D) : itemsOf (.scr ds) = some ds := (rfl)
@[simp] theorem z_mkFn (n k : Nat) (b : Ms) (ds : List D) (B : Bs) : mkFn n k b ds B = if ds.length = n then (b (ds.map (fun d => some (false, d)) ++ List.replicate (k - n) Option.none) B).fin else .bad := (rfl)
@[simp] theorem z_noX {α : Type} (a : α) (B : Bs) : noX (.ok a B) = .ok a B := (rfl)
@[simp] theorem z_isIi (i : Int) : isB .int (.int i) = some true := (rfl)
@[simp] theorem z_isBi (i : Int) : isB .bool (.int i) = some false := (rfl)
@[simp] theorem z_isTt (ds : List D) : isB .tuple (.tup ds) = some true := (rfl)
@[simp] theorem z_isSs (x : Str) : isB .str (.str x) = some true := (rfl)
@[simp] theorem z_mIsB (T : Bt) (m : Ev) (σ : Sl) (B : Bs) : mIsB T m σ B = (m σ B).bind fun d B => match isB T d with
  | some r => .ok (.bool r) B
  | Option.none => .bad := (rfl)
@[simp] theorem z_frz (i : Nat) (σ : Sl) : frz i σ = match σ[i]? with
  | some (some (true, .inst _ _)) => Option.none
  | some (some (_, d)) => some (σ.set i (some (false, d)))
  | _ => Option.none := (rfl)
@[simp] theorem z_fSub (i j : Int) (B : Bs) : fSub (.int i) (.int j) B = .ok (.int (i - j)) B := (rfl)
@[simp] theorem z_fAddI (i j : Int) (B : Bs) : fAdd (.int i) (.int j) B = .ok (.int (i + j)) B := (rfl)
theorem z_fMod (i j : Int) (B : Bs) (h : 0 < j) : fMod (.int i) (.int j) B = .ok (.int (i % j)) B := by simp [fMod, fI2, h]
theorem z_fDiv (i j : Int) (B : Bs) (h : 0 < j) (h2 : j < 1073741824) : fDiv (.int i) (.int j) B = .ok (.int (i / j)) B := by simp [fDiv, fI2, h, h2]
theorem z_fMulI (i j : Int) (B : Bs) (h : (wideB i || wideB j) = true) : fMul (.int i) (.int j) B = .ok (.int (i * j)) B := by simp [fMul, h]
theorem wide_of {i : Int} (h : -(2 ^ 64) < i) (h2 : i < 2 ^ 64) : wideB i = true := by simp [wideB]; omega
@[simp] theorem z_fLt (i j : Int) (B : Bs) : fLt (.int i) (.int j) B = .ok (.bool (decide (i < j))) B := (rfl)
@[simp] theorem z_fLe (i j : Int) (B : Bs) : fLe (.int i) (.int j) B = .ok (.bool (decide (i ≤ j))) B := (rfl)
@[simp] theorem z_fGt (i j : Int) (B : Bs) : fGt (.int i) (.int j) B = .ok (.bool (decide (j < i))) B := (rfl)
@[simp] theorem z_fMax2 (i j : Int) (B : Bs) : fMax2 (.int i) (.int j) B = .ok (.int (if j > i then j else i)) B := (rfl)
@[simp] theorem z_fMin2 (i j : Int) (B : Bs) : fMin2 (.int i) (.int j) B = .ok (.int (if j < i then j else i)) B := (rfl)
@[simp] theorem z_lenT (ds : List D) (B : Bs) : fLen (.tup ds) B = .ok (.int ds.length) B := (rfl)
@[simp] theorem z_lenL (ds : List D) (B : Bs) : fLen (.lst ds) B = .ok (.int ds.length) B := (rfl)
@[simp] theorem z_lenS (ds : List D) (B : Bs) : fLen (.scr ds) B = .ok (.int ds.length) B := (rfl)
theorem forL_inv {t : Tg} {b : Ms} (I : Nat → Sl → Bs → Prop) : (ds : List D) → (n : Nat) → (σ : Sl) → (B : Bs) → (h : ∀ i d σ B, ds[i]? = some d → I (n + i) σ B → ∃ σ', t d σ = some σ' ∧ ∃ σ'' B'', b σ' B = .next σ'' B'' ∧ I (n + i + 1) σ'' B'') → I n σ B →
    ∃ σ' B', forL t b ds σ B = .next σ' B' ∧ I (n + ds.length) σ' B'
  | [], n, σ, B, _, hI => ⟨σ, B, rfl, hI⟩
  | d :: ds, n, σ, B, h, hI => by
    obtain ⟨σ', h1, σ2, B2, h2, h3⟩ := h 0 d σ B rfl hI
    obtain ⟨σ3, B3, h4, h5⟩ := forL_inv (t := t) (b := b) I ds (n + 1) σ2 B2 (fun i d σ B hd hI => by
      have e : n + 1 + i = n + (i + 1) := by omega
      rw [e] at hI ⊢
      exact h (i + 1) d σ B (by simpa using hd) hI) h3
    refine ⟨σ3, B3, by simp [forL, h1, h2, h4], ?_⟩
    have e : n + 1 + ds.length = n + (d :: ds).length := by simp; omega
    rwa [e] at h5
theorem rngD_get {a : Int} {n i : Nat} {d : D} (h : (rngD a n)[i]? = some d) : d = .int (a + (i : Nat)) ∧ i < n := by
  simp only [rngD, List.getElem?_map, Option.map_eq_some_iff] at h
  obtain ⟨j, h1, h2⟩ := h
  obtain ⟨h3, h4⟩ := List.getElem?_eq_some_iff.mp h1
  simp at h3 h4; subst h4; exact ⟨h2.symm, h3⟩
end Hf

set_option Elab.async false
set_option linter.all false
set_option maxRecDepth 100000
set_option maxHeartbeats 4000000
namespace Hf
open PySem PySem.Spec PyProof.Rows L2

/-! ### own exceptions without fields: raise -/
structure ExcK (g : Gs) (c : Nat) : Prop where
  keep : PySem.W.keepIn g.K (.ref (g.cl c)) = true
  exc : PySem.W.excIn g.K (g.cl c) [.type "ValueError", .type "Exception", .type "BaseException", .type "object"] "ValueError.__new__" = true
  sub : PySem.W.subIn g.K (.ref (g.cl c)) (.type "BaseException") = some true
  ty : PySem.W.typeIn g.K (.ref (g.cl c)) = some (.type "type")
def mRaise (c : Nat) : Ms := fun _ B => .exc c Option.none B
section
variable {g : Gs} {E : XK} {w0 w : Wd} {H0 H : Hp} {X : Cx} {e o a b : Expr} {es : List Expr} {m ma mb mo : Ev} {pos p p1 p2 pos2 apos cpos : Pos} {x : Str} {lv c : Nat} {b1 b2 : Bool}
theorem z_raise {n : Nat} {t : Str} {j : Nat} (k : OkC g E lv X) (tk : L2N.Takes X (fun cls d _ H => E cls d H)) (K : ExcK g n) (hm : g.mg x = some (.ref (g.cl n))) (hg : Gl X x := by rfl) (hdb : (x == ("__debug__" : Str)) = false := by decide) :
    SndS g E w0 H0 X (.Raise (some (.Call (.Name x p) [.Constant (.str t) j p2] [] pos)) none pos2) (mRaise n) := by
  refine weakS (L2N.ps_raise k.calm tk (L2N.pmk_own PySem.F.excBase_ValueError (by rw [k.K]; exact K.exc) (by rw [k.mg]; exact hm) (by rw [k.K]; exact K.keep) (raises_own (by rw [k.K]; exact K.sub) (by rw [k.K]; exact K.ty)) hg hdb)) ?_
  rintro D σ H ⟨w, σI, B, s, x0, p⟩
  exact p w _ _ H s.rb x0 ⟨rfl, rfl⟩
end
/-! ### what is told of the exceptions' classes -/
def excL : List Nat := [11, 12, 13, 14, 15, 16, 17, 18, 19, 20, 21, 22, 23, 24, 25, 26, 27, 28]
structure FxE (g : Gs) (R : List Nat) : Prop where
  le : ∀ c ∈ R, c ∈ ([11, 12, 13, 14, 15, 16, 17, 18, 19, 20, 21, 22, 23, 24, 25, 26, 28] : List Nat)
  is : ∀ c ∈ R, L2.ExcC g.K (g.cl c)
  sub : ∀ c ∈ R, ∀ d ∈ excL, PySem.W.kitOne g.K (.ref (g.cl c)) (.ref (g.cl d)) = some (c == d)
  ve : ∀ c ∈ R, PySem.W.kitOne g.K (.ref (g.cl c)) (.type "ValueError") = some true
  rd : ∀ c ∈ R, PySem.W.exmOne g.K (.ref (g.cl c)) (.ref (g.cl 10)) = some true
  kd : ∀ c ∈ R, PySem.W.findIn g.K (.ref (g.cl c)) "kind" = some none
  nv : g.mg "ValueError" = Option.none
/-! ### where an exception is handled -/
structure OkB (g : Gs) (X : Cx) : Prop where
  K : X.K = g.K
  mg : X.mg = g.mg
  un : X.A.units + 100 < cLine
  prog : X.prog = g.prog
  w : X.w = g.w
  base : X.base = g.base
  fx : Fx g
/-- the exception at a, of class c, is pinned -/
structure OkW (g : Gs) (R : List Nat) (X : Cx) (c : Nat) (a : Addr) (po : Option Addr) : Prop extends OkB g X where
  fe : FxE g R
  mem : c ∈ R
  pin : ∃ oe, (a, oe) ∈ X.pn ∧ Zc (.ref (g.cl c)) po oe ∧ ∃ vs, oe.data = .fields vs
theorem nbH {g : Gs} {X : Cx} (ok : OkB g X) {x : String} (h : x ∈ ["len", "range", "isinstance", "tuple", "list", "all", "any", "max", "min", "set", "sorted", "enumerate", "zip", "repr", "str", "int", "sum", "dict", "bool"] := by decide) : X.mg (Str.ofString x) = Option.none := by
  rw [ok.mg]
  exact ok.fx.nb x h
/-- isinstance(e, c), e an exception, its dict known -/
def rIsH (K : PySem.W.Frag) (D a : Addr) (po : Option Addr) : List V → Hp → VK → Prop := fun xs H Q => (∀ dd, po = some dd → ∃ fs, H dd = some (.xd fs)) ∧ rIsE K D a xs H Q
theorem call_isH {X : Cx} {a D : Addr} {po : Option Addr} {oe : Obj} (C : ExcC X.K D) (hp : (a, oe) ∈ X.pn) (hz : Zc (.ref D) po oe) (hf : ∃ vs, oe.data = .fields vs) : CallR X (.builtin "isinstance") (rIsH X.K D a po) := by
  intro pins s σ H xs us Q I r h
  obtain ⟨hpo, c, cv, b, rfl, hcv, e, q⟩ := h
  obtain ⟨u1, u2, rfl, r1, r2⟩ := vals2 r
  have ec := hcv _ r2
  subst ec
  obtain rfl : u1 = Value.ref a := r1
  obtain ⟨hget, _⟩ := I.pin (a, oe) (List.mem_append.mpr (.inl hp))
  obtain ⟨vs, hv⟩ := hf
  obtain ⟨od, J⟩ : ∃ od, PySem.W.InstAt s.heap a oe D od := by
    obtain ⟨oc, od, oda, osl⟩ := oe
    obtain ⟨h1, h2⟩ := hz
    dsimp only at h1 h2 hv
    subst h1 h2 hv
    cases od with
    | none => exact ⟨none, hget, rfl, rfl, trivial⟩
    | some dd =>
      obtain ⟨fs, hx⟩ := hpo dd rfl
      have ho : ObjOk X.prog X.w H s.heap dd (.xd fs) := I.hok dd _ hx
      obtain ⟨mA, hns, _⟩ := ho
      obtain ⟨o2, ho2, _⟩ := lookIn_ns hns
      exact ⟨some o2, hget, rfl, rfl, ho2⟩
  have hcl : (PySem.W.clsIn X.K D).isSome = true := by
    have z := C.hd
    unfold PySem.W.hasDictIn at z
    cases q : PySem.W.clsIn X.K D with
    | none => rw [q] at z; cases z
    | some _ => rfl
  exact PySem.W.kia_one (PySem.W.kitx_exc hcl C.hg C.hk C.hs C.ha C.hn C.ht C.hm) I.kIn J e (fun z => nomatch z) fun tk => ⟨.bl b, H, I.tok tk, rfl, q⟩
/-! ### l.count(x) -/
def rCountD (K : PySem.W.Frag) : V → List V → Hp → VK → Prop := fun x xs H Q => ∃ (a : Addr) (y : V) (d : PyData) (ds : List PyData), x = V.ref a ∧ xs = [y] ∧ Dp K H (V.ref a) (.list ds) ∧ Dp K H y d ∧
  SeqAt.shaped (.list ds) = true ∧ SeqAt.shaped d = true ∧ Q (.int (ds.countP (fun z => PyData.eqv z d) : Nat)) H
theorem mt_countD {X : Cx} (hu : X.A.units + 65 < cLine) : MtR X "list.count" (rCountD X.K) := by
  intro pins s σ H x xs v us Q I rx rxs h
  obtain ⟨a, y, d, ds, rfl, rfl, hl, hy, sl, sd, q⟩ := h
  cases rx
  obtain ⟨uy, rfl, ry⟩ := vals1 rxs
  obtain ⟨bs, r1⟩ := Dp.reads I d y uy hy ry
  have hxs : PyData.canLayAll0 ds = true := SeqAt.canLay_of_shaped sl
  have hroom : X.A.units + 1 + min (PyData.depthAll ds) d.depth < cLine := room_in_shaped sd hu
  cases hl with
  | lst hs ha =>
    obtain ⟨its, rv, ⟨⟨cls, dd, data, sls⟩, n, ho, hc, hdn, hdt⟩, hlen⟩ := I.list hs
    simp only at hc hdt
    subst hc hdt
    obtain ⟨as, h4⟩ := Dp.readsAll I ds _ its ha rv
    have hmap : its.map (SeqAt.readOf s.heap) = ds := SeqAt.readsAll_map ds its as hxs h4
    refine call_meets PySem.F.slot_list_count ⟨_, ho, rfl⟩ PySem.F.entry_list_count (PySem.F.args_list_count_2 _ _)
      (SeqAt.list_countAt a its.toArray n dd sls uy (fun u => PyData.eqv (SeqAt.readOf s.heap u) d)) ⟨ho, SeqAt.items_eqAt (vs := its.toArray) (show ReadsAll s.heap its.toArray.toList ds as from h4) r1 hxs (SeqAt.canLay_of_shaped sd) hroom, ?_⟩
    have ec : its.toArray.toList.countP (fun u => PyData.eqv (SeqAt.readOf s.heap u) d) = ds.countP (fun z => PyData.eqv z d) := by
      rw [← hmap, List.countP_map]
      rfl
    refine ⟨.int (ds.countP (fun z => PyData.eqv z d) : Nat), H, I.tok _, ⟨s.toks, ?_⟩, q⟩
    rw [ec]
def fCnt : D → D → Bs → Rs D
  | .lst ds, d, B => if SeqAt.shaped (.list (toPys ds)) && SeqAt.shaped (toPy d) then .ok (.int ((toPys ds).countP (fun z => PyData.eqv z (toPy d)) : Nat)) B else .bad
  | _, _, _ => .bad
def mCntL (mo me : Ev) : Ev := fun σ B => (mo σ B).bind fun o B1 => (isLi o B1).bind fun o B2 => (me σ B2).bind fun d B3 => fCnt o d B3
/-- the exception at a, its dict at po -/
def isX (a : Addr) (po : Option Addr) : D → Bool
  | .ptr a' => decide (a' = a ∧ po = Option.none)
  | .exo a' dd _ _ => decide (a' = a ∧ po = some dd)
  | _ => false
def mIsE (a : Addr) (po : Option Addr) (b : Bool) (m : Ev) : Ev := fun σ B => (m σ B).bind fun d B1 => if isX a po d then .ok (.bool b) B1 else .bad
theorem isX_rep {g : Gs} {w : Wd} {H : Hp} {a : Addr} {po : Option Addr} {d : D} {v : V} (h : isX a po d = true) (hs : Same w.P H) (r : Rep g w d v) : v = .ref a ∧ ∀ dd, po = some dd → ∃ fs, H dd = some (.xd fs) := by
  cases d <;> first | cases h | skip
  · simp only [isX, decide_eq_true_eq] at h
    simp only [Rep] at r
    obtain ⟨rfl, rfl⟩ := h
    exact ⟨r, fun _ z => by cases z⟩
  · simp only [isX, decide_eq_true_eq] at h
    simp only [Rep] at r
    obtain ⟨rfl, rfl⟩ := h
    obtain ⟨e, y, q, _⟩ := r
    exact ⟨e, fun _ z => by cases z; exact ⟨_, hs _ _ q⟩⟩
/-- repr of a text -/
def fReprS : D → Bs → Rs D
  | .str x, B => if decide ((PySem.reprText x).length ≤ sizeLine) then .ok (.str (PyData.shown (.str x))) B else .bad
  | _, _ => .bad
/-- e.f of such an exception -/
def mXf (a : Addr) (po : Option Addr) (f : Str) (m : Ev) : Ev := fun σ B => (m σ B).bind fun d B1 => match d with
  | .exo a' dd f' x => if a' = a ∧ po = some dd ∧ f' = f then .ok x B1 else .bad
  | _ => .bad
section
variable {g : Gs} {R : List Nat} {E : XK} {w0 w : Wd} {H0 H : Hp} {X : Cx} {e o a b : Expr} {es : List Expr} {m ma mb mo : Ev} {pos p p1 p2 pos2 apos cpos : Pos} {x : Str} {lv c d : Nat} {ea : Addr} {b1 b2 : Bool}
theorem s_addH (c : OkB g X) (ha : Snd g E H0 X b1 a ma) (hb : Snd g E H0 X b2 b mb) : Snd g E H0 X false (.BinOp a .Add b pos) (mBin fAdd ma mb) := s_bin (c.K ▸ op_addA) os_add ha hb
theorem c_neH (k : OkB g X) : Cmp g E H0 X .NotEq fNe := ⟨⟨_, k.K ▸ op_neD (by have := k.un; omega), os_ne⟩, fun _ _ _ => blB _ _ _⟩
theorem s_ixH (k : OkB g X) (ha : Snd g E H0 X b1 a ma) (hb : Snd g E H0 X b2 b mb) (hs : PlainIx b := by exact fun _ _ => rfl) : Snd g E H0 X false (.Subscript a b pos) (mBin fIx ma mb) := weak (pe_ix (k.K ▸ ix_seq) ha hb hs) (tOp_of os_ix)
theorem t_valH (k : OkB g X) (ha : Snd g E H0 X b1 a ma) (he : ∀ whole, isTrue a X.env whole = (do let v ← whole; standAt a.pos; holding [v] (truthy v)) := by intro _; rfl) : SndT g E H0 X a (mT ma) := by
  refine weakT (pt_truth ha he) ?_
  rintro σ H Q ⟨w, σI, B, s, p⟩
  refine tI_bindT s p fun d B1 w1 v H1 x1 s1 r1 p1 => ?_
  unfold tru at p1
  split at p1
  · rename_i k' e
    exact ⟨k', k.K ▸ r1.up.tru s1 e, p1 w1 H1 (Ext.refl _ _) s1.rb⟩
  · exact p1.elim
theorem isX_up {po : Option Addr} {σI : Sl} {σ : L2.St} {B : Bs} {d0 : Hf.D} {v : V} (h : isX ea po d0 = true) (s : S0 g H0 w σI B σ H) (r : RepO g w σI σ d0 v) : Rep g w d0 v := by
  cases d0 <;> first | cases h | exact r.of s (by simp) (by simp) (by simp)
theorem s_isE {po : Option Addr} (ok : OkW g R X c ea po) (hd : d ∈ excL) (hm : g.mg x = some (.ref (g.cl d))) (he : Snd g E H0 X b1 e m) (hg : Gl X "isinstance" := by rfl) (hg2 : Gl X x := by rfl) (hdb : (x == ("__debug__" : Str)) = false := by decide)
    (h1 : starEach [e, .Name x p2] X.env = (false, eval e X.env) :: starEach [.Name x p2] X.env := by rfl) (h2 : starEach [.Name x p2] X.env = (false, eval (.Name x p2) X.env) :: starEach [] X.env := by rfl) (hpl : (backTo pos (starEach [.Name x p2] X.env)).any (·.1) = false := by rfl) :
    Snd g E H0 X false (.Call (.Name "isinstance" p1) [e, .Name x p2] [] pos) (mIsE ea po (c == d) m) := by
  obtain ⟨oe, hp, hz, hf⟩ := ok.pin
  refine weak (pe_callB (call_isH (D := g.cl c) (by rw [ok.K]; exact ok.fe.is c ok.mem) hp hz hf) hg (nbH ok.toOkB) PyProof.Rows.boot_isinstance (pa_cons he (pa_cons (pe_glob (v := .ref (g.cl d)) hg2 (by rw [ok.mg]; exact hm) rfl hdb) pa_nil h2) h1) (by decide) (by decide) h1 hpl) ?_
  rintro σ H Q ⟨w, σI, B, s, p⟩
  refine tI_bind s p fun dd B1 w1 v H1 x1 s1 r1 p1 => ?_
  split at p1
  · rename_i hx
    obtain ⟨rfl, hpo⟩ := isX_rep hx s1.rb.sub (isX_up hx s1 r1.up)
    exact ⟨hpo, _, .ref (g.cl d), _, rfl, fun u z => z, by rw [ok.K]; exact ok.fe.sub c ok.mem d hd, p1.nowR s1 (rep_bool g w1 _)⟩
  · exact p1.elim
theorem s_isVE {po : Option Addr} (ok : OkW g R X c ea po) (he : Snd g E H0 X b1 e m) (hg : Gl X "isinstance" := by rfl) (hg2 : Gl X "ValueError" := by rfl)
    (h1 : starEach [e, .Name "ValueError" p2] X.env = (false, eval e X.env) :: starEach [.Name "ValueError" p2] X.env := by rfl) (h2 : starEach [.Name "ValueError" p2] X.env = (false, eval (.Name "ValueError" p2) X.env) :: starEach [] X.env := by rfl) (hpl : (backTo pos (starEach [.Name "ValueError" p2] X.env)).any (·.1) = false := by rfl) :
    Snd g E H0 X false (.Call (.Name "isinstance" p1) [e, .Name "ValueError" p2] [] pos) (mIsE ea po true m) := by
  obtain ⟨oe, hp, hz, hf⟩ := ok.pin
  refine weak (pe_callB (call_isH (D := g.cl c) (by rw [ok.K]; exact ok.fe.is c ok.mem) hp hz hf) hg (nbH ok.toOkB) PyProof.Rows.boot_isinstance (pa_cons he (pa_cons (pe_bltn (v := .ty "ValueError") hg2 (by rw [ok.mg]; exact ok.fe.nv) (by decide +kernel) rfl (by decide) (by decide)) pa_nil h2) h1) (by decide) (by decide) h1 hpl) ?_
  rintro σ H Q ⟨w, σI, B, s, p⟩
  refine tI_bind s p fun dd B1 w1 v H1 x1 s1 r1 p1 => ?_
  split at p1
  · rename_i hx
    obtain ⟨rfl, hpo⟩ := isX_rep hx s1.rb.sub (isX_up hx s1 r1.up)
    exact ⟨hpo, _, .type "ValueError", _, rfl, fun u z => z, by rw [ok.K]; exact ok.fe.ve c ok.mem, p1.nowR s1 (rep_bool g w1 _)⟩
  · exact p1.elim
/-- e.f -/
theorem s_xf {po : Option Addr} {f : Str} (ok : OkW g R X c ea po) (he : Snd g E H0 X b1 e m) (hno : PySem.W.findIn g.K (.ref (g.cl c)) f = some none) (hb : attributeBase e f X.env (eval e X.env) = eval e X.env := by rfl) : Snd g E H0 X false (.Attribute e f pos) (mXf ea po f m) := by
  obtain ⟨oe, hp, hz, vs, hf⟩ := ok.pin
  have C := ok.fe.is c ok.mem
  refine ⟨fun pins s σ H Q I h => ?_⟩
  obtain ⟨w, σI, B, s0, p⟩ := h
  refine attr_of hb (thn (he.run pins s σ H (fun v H1 => ∃ dd fs y, po = some dd ∧ v = .ref ea ∧ H1 dd = some (.xd fs) ∧ fs.lookup f = some y ∧ Q y H1) I ?_) fun u s1 hh => ?_)
  · refine tI_bind s0 p fun d B1 w1 v H1 x1 s1 r1 p1 => ?_
    split at p1
    · rename_i a' dd f' x
      split at p1
      · rename_i hx
        obtain ⟨rfl, rfl, rfl⟩ := hx
        have rr := r1.up.of s1 (by simp) (by simp) (by simp)
        simp only [Rep] at rr
        obtain ⟨e1, y, q, ry⟩ := rr
        exact ⟨dd, _, y, rfl, e1, s1.rb.sub _ _ q, by simp [List.lookup], p1.nowR s1 ry⟩
      · exact p1.elim
    · exact p1.elim
  · obtain ⟨x, H1, I1, rx, dd, fs, y, e1, e2, e3, e4, q⟩ := hh
    subst e1 e2
    obtain rfl : u = Value.ref ea := rx
    obtain ⟨ha, _⟩ := I1.pin (ea, oe) (List.mem_append_left _ hp)
    have hx : ObjOk X.prog X.w H1 s1.heap dd (.xd fs) := I1.hok dd _ e3
    obtain ⟨mA, hns, hr⟩ := hx
    obtain ⟨od, ho, hl⟩ := lookIn_ns hns
    obtain ⟨u, hu, ru⟩ := RelO.some_of (v := y) (o := mA f) (by rw [← e4]; exact hr f)
    have J : PySem.W.InstAt s1.heap ea oe (g.cl c) (some od) := ⟨ha, hz.1, by unfold PySem.W.notCls; rw [hf] <;> rfl, by rw [hz.2]; exact ho⟩
    refine HandSPX.exc_get I1.kIn J (by rw [ok.K]; exact C.hg) (by rw [ok.K]; exact C.hk) (by rw [ok.K]; exact C.hs) (PySem.W.findObj_own (by rw [ok.K]; exact C.hd) (by rw [ok.K]; exact hno) rfl (by rw [hl, hu])) (handed_of ru) ⟨y, H1, I1.tok _, ru, q⟩
/-- repr(e) of a text -/
theorem s_reprH (ok : OkB g X) (he : Snd g E H0 X b1 e m) (hg : Gl X "repr" := by rfl) (h1 : starEach [e] X.env = (false, eval e X.env) :: starEach [] X.env := by rfl) (hpl : (backTo pos (starEach [] X.env)).any (·.1) = false := by rfl) :
    Snd g E H0 X false (.Call (.Name "repr" p1) [e] [] pos) (m1 fReprS m) := by
  refine weak (pe_callB call_reprS hg (nbH ok) bt_repr (pa_cons he pa_nil h1) (by decide) (by decide) h1 hpl) ?_
  rintro σ H Q ⟨w, σI, B, s, p⟩
  refine tI_bind s p fun d B1 w1 v H1 x1 s1 r1 p1 => ?_
  cases d <;> first | exact p1.elim | skip
  rename_i x
  unfold fReprS at p1
  simp only at p1
  split at p1
  · rename_i h
    refine ⟨x, ?_, of_decide_eq_true h, p1.nowR s1 (rep_str g w1 _)⟩
    rw [r1.up.str s1]
  · exact p1.elim
theorem s_cntH (ok : OkB g X) (ho : Snd g E H0 X b1 o mo) (he : Snd g E H0 X false e m)
    (hbase : attributeBase o "count" X.env (eval o X.env) = eval o X.env := by rfl)
    (hfew : ((backTo cpos (starEach [e] X.env)).all (fun x => !x.1) && (backToKw cpos (keywordEach [] X.env)).all (fun x => x.1.isSome) && decide ([e].length + ([] : List Keyword).length + (if ([] : List Keyword).isEmpty then 0 else 1) < 30)) = true := by rfl)
    (hline : (apos.endLine == cpos.line) = true := by rfl) (hs : starEach [e] X.env = (false, eval e X.env) :: starEach [] X.env := by rfl) (hpl : (backTo cpos (starEach [] X.env)).any (·.1) = false := by rfl) :
    Snd g E H0 X false (.Call (.Attribute o "count" apos) [e] [] cpos) (mCntL mo m) := by
  refine weak (pe_bm PySem.F.plainAttrs_list PySem.F.slot_list_count PySem.F.type_list_count (mt_countD (by have := ok.un; omega)) ho (pa_cons he pa_nil hs) hbase hfew hline hs hpl) ?_
  rintro σ H Q ⟨w, σI, B, s, p⟩
  refine tI_bind s p fun d B1 w1 v H1 x1 s1 r1 p1 => ?_
  cases d <;> first | exact p1.elim | skip
  rename_i ds
  obtain ⟨a0, vs0, e0, q0, rr0⟩ := r1.up.lst s1
  subst e0
  refine ⟨tyL q0, ?_⟩
  refine tI_bind s1 p1 fun d2 B2 w2 v2 H2 x2 s2 r2 p2 => ?_
  unfold fCnt at p2
  simp only at p2
  split at p2
  · rename_i hsh
    obtain ⟨sh1, sh2⟩ := Bool.and_eq_true_iff.mp hsh
    have rt : RepO g w2 σI σ (.lst ds) (.ref a0) := r1.up.mono x2.le
    have dp := rt.dp s2 (SeqAt.canLay_of_shaped sh1)
    exact ⟨a0, v2, toPy d2, toPys ds, rfl, rfl, ok.K ▸ dp, ok.K ▸ r2.up.dp s2 (SeqAt.canLay_of_shaped sh2), sh1, sh2, p2.nowR s2 (rep_int g w2 _)⟩
  · exact p2.elim
theorem s_idxH (ok : OkB g X) (ho : Snd g E H0 X b1 o mo) (he : Snd g E H0 X false e m)
    (hbase : attributeBase o "index" X.env (eval o X.env) = eval o X.env := by rfl)
    (hfew : ((backTo cpos (starEach [e] X.env)).all (fun x => !x.1) && (backToKw cpos (keywordEach [] X.env)).all (fun x => x.1.isSome) && decide ([e].length + ([] : List Keyword).length + (if ([] : List Keyword).isEmpty then 0 else 1) < 30)) = true := by rfl)
    (hline : (apos.endLine == cpos.line) = true := by rfl) (hs : starEach [e] X.env = (false, eval e X.env) :: starEach [] X.env := by rfl) (hpl : (backTo cpos (starEach [] X.env)).any (·.1) = false := by rfl) :
    Snd g E H0 X false (.Call (.Attribute o "index" apos) [e] [] cpos) (mIdxL mo m) := by
  refine weak (pe_bm PySem.F.plainAttrs_list PySem.F.slot_list_index PySem.F.type_list_index (mt_indexD (by have := ok.un; omega)) ho (pa_cons he pa_nil hs) hbase hfew hline hs hpl) ?_
  rintro σ H Q ⟨w, σI, B, s, p⟩
  refine tI_bind s p fun d B1 w1 v H1 x1 s1 r1 p1 => ?_
  cases d <;> first | exact p1.elim | skip
  rename_i ds
  obtain ⟨a0, vs0, e0, q0, rr0⟩ := r1.up.lst s1
  subst e0
  refine ⟨tyL q0, ?_⟩
  refine tI_bind s1 p1 fun d2 B2 w2 v2 H2 x2 s2 r2 p2 => ?_
  unfold fIdx at p2
  simp only at p2
  split at p2
  · rename_i hsh
    obtain ⟨sh1, sh2⟩ := Bool.and_eq_true_iff.mp hsh
    split at p2
    · rename_i j hj
      obtain ⟨z, z1, z2, z3⟩ := ixD_some hj
      have rt : RepO g w2 σI σ (.lst ds) (.ref a0) := r1.up.mono x2.le
      have dp := rt.dp s2 (SeqAt.canLay_of_shaped sh1)
      exact ⟨a0, v2, toPy d2, toPys ds, j, z, rfl, rfl, ok.K ▸ dp, ok.K ▸ r2.up.dp s2 (SeqAt.canLay_of_shaped sh2), sh1, sh2, z1, z2, z3, p2.nowR s2 (rep_int g w2 _)⟩
    · exact p2.elim
  · exact p2.elim
end
/-! ### the meaning of _law_word: c the class, a the place -/
def mIs4 (a : Addr) (po : Option Addr) (c d : Nat) (ms : Evs) : Evs := mCons (mIsE a po (c == d) (mVar 0)) ms
def mStr (l : List String) : Evs := l.foldr (fun x ms => mCons (mC (.str (Str.ofString x))) ms) mNil
def mWord (c : Nat) (a : Addr) (po : Option Addr) : Ms :=
  mSeq (mSet 1 (mLst (mIs4 a po c 11 (mIs4 a po c 12 (mIs4 a po c 13 (mIs4 a po c 14 mNil))))))
  (mSeq (mSet 1 (mBin fAdd (mVar 1) (mLst (mIs4 a po c 15 (mIs4 a po c 16 (mIs4 a po c 17 (mIs4 a po c 18 mNil)))))))
  (mSeq (mSet 1 (mBin fAdd (mVar 1) (mLst (mIs4 a po c 19 (mIs4 a po c 20 (mIs4 a po c 21 (mIs4 a po c 22 mNil)))))))
  (mSeq (mSet 1 (mBin fAdd (mVar 1) (mLst (mIs4 a po c 23 (mIs4 a po c 24 (mIs4 a po c 25 (mIs4 a po c 26 mNil)))))))
  (mSeq (mSet 1 (mBin fAdd (mVar 1) (mLst (mIs4 a po c 27 (mIs4 a po c 28 mNil)))))
  (mSeq (mIf (mOrT (mCmpT fNe (mCntL (mVar 1) (mC (.bool true))) (mC (.int 1))) (mNotT (mT (mIsE a po true (mVar 0))))) (mRet (mC (.str "other"))) mSkip)
  (mSeq (mSet 2 (mLst (mStr ["NoWords", "NoCode", "NoValue", "NoWord", "NoOrder", "NoPlaces", "NoText", "NoSpan", "NoNumber"])))
  (mSeq (mSet 2 (mBin fAdd (mVar 2) (mLst (mStr ["NoBridge", "NoState", "NoBeat", "NoLap", "NoLook", "NothingDone", "TooMuch"]))))
  (mSeq (mIf (mT (mIsE a po (c == 27) (mVar 0))) mBad mSkip)
  (mRet (mIte (mT (mIsE a po (c == 28) (mVar 0))) (mBin fAdd (mC (.str (Str.ofString "Broken "))) (m1 fReprS (mXf a po (Str.ofString "kind") (mVar 0)))) (mBin fIx (mVar 2) (mIdxL (mVar 1) (mC (.bool true))))))))))))))
def nmE (c : Nat) : Str := match c with
  | 11 => "NoWords" | 12 => "NoCode" | 13 => "NoValue" | 14 => "NoWord" | 15 => "NoOrder" | 16 => "NoPlaces" | 17 => "NoText" | 18 => "NoSpan" | 19 => "NoNumber"
  | 20 => "NoBridge" | 21 => "NoState" | 22 => "NoBeat" | 23 => "NoLap" | 24 => "NoLook" | 25 => "NothingDone" | 26 => "TooMuch" | _ => "other"
end Hf

set_option Elab.async false
set_option linter.all false
set_option maxRecDepth 100000
set_option maxHeartbeats 4000000
namespace Hf
open PySem PySem.Spec PyProof.Rows L2

/-- the marks as they come out -/
def mkL (c : Nat) (l : List Nat) : List D := l.map fun d => .bool (c == d)
theorem isE_atG {a : Addr} {po : Option Addr} {dv : D} (hx : isX a po dv = true) (b : Bool) (r : Sl) (B : Bs) : mIsE a po b (mVar 0) (some (false, dv) :: r) B = .ok (.bool b) B := by
  unfold mIsE
  simp [mVar, Rs.bind, hx]
theorem is4_at {a : Addr} {po : Option Addr} {dv : D} (hx : isX a po dv = true) (c d : Nat) (r : Sl) (B : Bs) (ms : Evs) (ds : List D) (h : ms (some (false, dv) :: r) B = .ok ds B) : mIs4 a po c d ms (some (false, dv) :: r) B = .ok (.bool (c == d) :: ds) B := by
  show ((mIsE a po (c == d) (mVar 0)) (some (false, dv) :: r) B).bind _ = _
  rw [isE_atG hx]
  show (ms (some (false, dv) :: r) B).bind _ = _
  rw [h]
  rfl
theorem is0_at (r : Sl) (B : Bs) : mNil r B = .ok [] B := rfl
/-- what _law_word says -/
def wordX (c : Nat) : Option D → Option Str
  | Option.none => if c ≠ 28 then some (nmE c) else Option.none
  | some (.str x) => if c = 28 ∧ (PySem.reprText x).length ≤ 1000 then some (Str.ofString "Broken " ++ PyData.shown (.str x)) else Option.none
  | _ => Option.none
theorem mWord_at {a : Addr} {po : Option Addr} {dv : D} (hx : isX a po dv = true) {B : Bs} : ∀ c ∈ ([11, 12, 13, 14, 15, 16, 17, 18, 19, 20, 21, 22, 23, 24, 25, 26, 28] : List Nat), ∃ L N : D, mWord c a po [some (false, dv), Option.none, Option.none] B =
    if c = 28 then mRet (mBin fAdd (mC (.str (Str.ofString "Broken "))) (m1 fReprS (mXf a po (Str.ofString "kind") (mVar 0)))) [some (false, dv), some (false, L), some (false, N)] B else .ret (.str (nmE c)) B := by
  intro c hc
  refine ⟨.lst (mkL c [11, 12, 13, 14, 15, 16, 17, 18, 19, 20, 21, 22, 23, 24, 25, 26, 27, 28]), .lst [.str "NoWords", .str "NoCode", .str "NoValue", .str "NoWord", .str "NoOrder", .str "NoPlaces", .str "NoText", .str "NoSpan", .str "NoNumber", .str "NoBridge", .str "NoState", .str "NoBeat", .str "NoLap", .str "NoLook", .str "NothingDone", .str "TooMuch"], ?_⟩
  have step : ∀ (d1 d2 d3 d4 : Nat) (l : D) (n : Option (Bool × D)), mBin fAdd (mVar 1) (mLst (mIs4 a po c d1 (mIs4 a po c d2 (mIs4 a po c d3 (mIs4 a po c d4 mNil))))) [some (false, dv), some (false, l), n] B = fAdd l (.lst (mkL c [d1, d2, d3, d4])) B := fun d1 d2 d3 d4 l n => by
    have e := is4_at hx c d1 [some (false, l), n] B _ _ (is4_at hx c d2 [some (false, l), n] B _ _ (is4_at hx c d3 [some (false, l), n] B _ _ (is4_at hx c d4 [some (false, l), n] B _ _ (is0_at _ B))))
    simp only [z_mBin, z_mVar, List.getElem?_cons_succ, List.getElem?_cons_zero, Rs.bind, z_mLst, e]
    rfl
  have step2 : ∀ (l : D) (n : Option (Bool × D)), mBin fAdd (mVar 1) (mLst (mIs4 a po c 27 (mIs4 a po c 28 mNil))) [some (false, dv), some (false, l), n] B = fAdd l (.lst (mkL c [27, 28])) B := fun l n => by
    have e := is4_at hx c 27 [some (false, l), n] B _ _ (is4_at hx c 28 [some (false, l), n] B _ _ (is0_at _ B))
    simp only [z_mBin, z_mVar, List.getElem?_cons_succ, List.getElem?_cons_zero, Rs.bind, z_mLst, e]
    rfl
  have first : mLst (mIs4 a po c 11 (mIs4 a po c 12 (mIs4 a po c 13 (mIs4 a po c 14 mNil)))) [some (false, dv), Option.none, Option.none] B = .ok (.lst (mkL c [11, 12, 13, 14])) B := by
    have e := is4_at hx c 11 [Option.none, Option.none] B _ _ (is4_at hx c 12 [Option.none, Option.none] B _ _ (is4_at hx c 13 [Option.none, Option.none] B _ _ (is4_at hx c 14 [Option.none, Option.none] B _ _ (is0_at _ B))))
    simp only [z_mLst, e, Rs.bind]
    rfl
  have cat : ∀ l r : List Nat, (l.length + r.length ≤ 20) → fAdd (.lst (mkL c l)) (.lst (mkL c r)) B = .ok (.lst (mkL c (l ++ r))) B := fun l r h => by
    unfold fAdd mkL
    have z := sizeLine_eq
    simp only [List.length_map, List.map_append]
    rw [if_pos (by omega)]
  unfold mWord
  simp only [mSeq, mSet, first, step, step2, Rs.st, Ss.seq, List.set_cons_succ, List.set_cons_zero, cat, List.length_cons, List.length_nil, List.cons_append, List.nil_append, Nat.reduceAdd, Nat.reduceLeDiff]
  have tIs : ∀ (b : Bool) (r : Sl), mT (mIsE a po b (mVar 0)) (some (false, dv) :: r) B = .ok b B := fun b r => by
    show (mIsE a po b (mVar 0) (some (false, dv) :: r) B).bind _ = _
    rw [isE_atG hx]
    cases b <;> rfl
  have n1 : ∀ (r : Sl), mLst (mStr ["NoWords", "NoCode", "NoValue", "NoWord", "NoOrder", "NoPlaces", "NoText", "NoSpan", "NoNumber"]) r B = .ok (.lst [.str "NoWords", .str "NoCode", .str "NoValue", .str "NoWord", .str "NoOrder", .str "NoPlaces", .str "NoText", .str "NoSpan", .str "NoNumber"]) B := fun r => rfl
  have n2 : ∀ (x y : Option (Bool × D)) (l : D), mBin fAdd (mVar 2) (mLst (mStr ["NoBridge", "NoState", "NoBeat", "NoLap", "NoLook", "NothingDone", "TooMuch"])) [x, y, some (false, l)] B = fAdd l (.lst [.str "NoBridge", .str "NoState", .str "NoBeat", .str "NoLap", .str "NoLook", .str "NothingDone", .str "TooMuch"]) B := fun x y l => rfl
  have cnt : ∀ x y, mCmpT fNe (mCntL (mVar 1) (mC (.bool true))) (mC (.int 1)) [x, some (false, .lst (mkL c [11, 12, 13, 14, 15, 16, 17, 18, 19, 20, 21, 22, 23, 24, 25, 26, 27, 28])), y] B = .ok false B := fun x y => by
    simp only [List.mem_cons, List.not_mem_nil, or_false] at hc
    rcases hc with rfl | rfl | rfl | rfl | rfl | rfl | rfl | rfl | rfl | rfl | rfl | rfl | rfl | rfl | rfl | rfl | rfl
    all_goals kernel_rfl
  have c27 : (c == 27) = false := by
    simp only [List.mem_cons, List.not_mem_nil, or_false] at hc
    rcases hc with rfl | rfl | rfl | rfl | rfl | rfl | rfl | rfl | rfl | rfl | rfl | rfl | rfl | rfl | rfl | rfl | rfl
    all_goals decide
  have n3 : ∀ B : Bs, fAdd (.lst [.str "NoWords", .str "NoCode", .str "NoValue", .str "NoWord", .str "NoOrder", .str "NoPlaces", .str "NoText", .str "NoSpan", .str "NoNumber"]) (.lst [.str "NoBridge", .str "NoState", .str "NoBeat", .str "NoLap", .str "NoLook", .str "NothingDone", .str "TooMuch"]) B = .ok (.lst [.str "NoWords", .str "NoCode", .str "NoValue", .str "NoWord", .str "NoOrder", .str "NoPlaces", .str "NoText", .str "NoSpan", .str "NoNumber", .str "NoBridge", .str "NoState", .str "NoBeat", .str "NoLap", .str "NoLook", .str "NothingDone", .str "TooMuch"]) B := fun B => rfl
  by_cases h28 : c = 28
  · subst h28
    have cc : ((28 : Nat) == 28) = true := rfl
    simp only [mIf, mOrT, mNotT, tIs, Rs.bind, Rs.st, Ss.seq, n1, n2, n3, mRet, mIte, cnt, mSkip, List.set_cons_succ, List.set_cons_zero, c27, cc, Bool.false_eq_true, if_false, if_true, Bool.not_true]
  rw [if_neg h28]
  have c28 : (c == 28) = false := by simp [h28]
  have fin : ∀ x, mBin fIx (mVar 2) (mIdxL (mVar 1) (mC (.bool true))) [x, some (false, .lst (mkL c [11, 12, 13, 14, 15, 16, 17, 18, 19, 20, 21, 22, 23, 24, 25, 26, 27, 28])), some (false, .lst [.str "NoWords", .str "NoCode", .str "NoValue", .str "NoWord", .str "NoOrder", .str "NoPlaces", .str "NoText", .str "NoSpan", .str "NoNumber", .str "NoBridge", .str "NoState", .str "NoBeat", .str "NoLap", .str "NoLook", .str "NothingDone", .str "TooMuch"])] B = .ok (.str (nmE c)) B := fun x => by
    simp only [List.mem_cons, List.not_mem_nil, or_false] at hc
    rcases hc with rfl | rfl | rfl | rfl | rfl | rfl | rfl | rfl | rfl | rfl | rfl | rfl | rfl | rfl | rfl | rfl | rfl
    rotate_right
    · exact absurd rfl h28
    all_goals kernel_rfl
  simp only [mIf, mOrT, mNotT, tIs, Rs.bind, Rs.st, Ss.seq, n1, n2, n3, mRet, mIte, cnt, mSkip, List.set_cons_succ, List.set_cons_zero, c27, c28, Bool.false_eq_true, if_false, Bool.not_true, fin]
theorem wordX_at {a : Addr} {po : Option Addr} {dv : D} {x : Option D} {c : Nat} {t : Str} {B : Bs} (hx : isX a po dv = true) (hv : ∀ d, x = some d → ∃ dd, dv = .exo a dd "kind" d) (hc : c ∈ ([11, 12, 13, 14, 15, 16, 17, 18, 19, 20, 21, 22, 23, 24, 25, 26, 28] : List Nat)) (h : wordX c x = some t) :
    mWord c a po [some (false, dv), Option.none, Option.none] B = .ret (.str t) B := by
  obtain ⟨L, N, e⟩ := mWord_at hx c hc (B := B)
  rw [e]
  cases x with
  | none =>
    simp only [wordX] at h
    split at h
    · rename_i h28
      rw [if_neg h28]
      cases h
      rfl
    · cases h
  | some d =>
    obtain ⟨dd, rfl⟩ := hv d rfl
    cases d <;> first | cases h | skip
    rename_i s
    simp only [wordX] at h
    split at h
    · rename_i hh
      obtain ⟨h28, hl⟩ := hh
      cases h
      rw [if_pos h28]
      simp only [isX, decide_eq_true_eq] at hx
      have z := sizeLine_eq
      have l1 : (PySem.reprText s).length ≤ sizeLine := by omega
      have l2 : (Str.ofString "Broken ").length = 7 := by decide
      have l3 : (PyData.shown (.str s)).length = (PySem.reprText s).length := by simp [PyData.shown]
      have e2 : mXf a po (Str.ofString "kind") (mVar 0) [some (false, .exo a dd "kind" (.str s)), some (false, L), some (false, N)] B = .ok (.str s) B := by
        unfold mXf
        simp [mVar, Rs.bind, hx.2]
      have e3 : m1 fReprS (mXf a po (Str.ofString "kind") (mVar 0)) [some (false, .exo a dd "kind" (.str s)), some (false, L), some (false, N)] B = .ok (.str (PyData.shown (.str s))) B := by
        show (mXf a po (Str.ofString "kind") (mVar 0) _ B).bind _ = _
        rw [e2]
        show fReprS (.str s) B = _
        unfold fReprS
        simp only
        rw [if_pos (decide_eq_true l1)]
      have e4 : fAdd (.str (Str.ofString "Broken ")) (.str (PyData.shown (.str s))) B = .ok (.str (Str.ofString "Broken " ++ PyData.shown (.str s))) B := by
        unfold fAdd
        simp only
        rw [if_pos (by omega)]
      show Rs.st (mBin fAdd _ _ _ B) _ = _
      have e5 : mBin fAdd (mC (.str (Str.ofString "Broken "))) (m1 fReprS (mXf a po (Str.ofString "kind") (mVar 0))) [some (false, .exo a dd "kind" (.str s)), some (false, L), some (false, N)] B = .ok (.str (Str.ofString "Broken " ++ PyData.shown (.str s))) B := by
        show Rs.bind (.ok (.str (Str.ofString "Broken ")) B) (fun x B1 => (m1 fReprS (mXf a po (Str.ofString "kind") (mVar 0)) _ B1).bind fun y B2 => fAdd x y B2) = _
        show (m1 fReprS (mXf a po (Str.ofString "kind") (mVar 0)) _ B).bind _ = _
        rw [e3]
        exact e4
      rw [e5]
      rfl
    · cases h
end Hf

set_option Elab.async false
set_option linter.all false
set_option maxRecDepth 100000
set_option maxHeartbeats 4000000
namespace Hf
open PySem PySem.Spec PyProof.Rows L2

/-! ### _law_word: told of the exception that is handled -/
def FnW (g : Gs) (R : List Nat) (k : Nat) (fa : Addr) (fd : FuncData) (y : Str) : Prop :=
  ∀ (A : Around) (outer : List Env) (s : Shared) (H : Hp) (args : Args) (Q : VK) (E : XK) (p : Addr × Obj) (c : Nat) (x : Option D) (dd : Option Addr) (t : Str) (w : Wd) (B : Bs), L2H.RoomH k A → L2H.Hot1 A p → L2H.PinOk outer H s p → Env0 g.prog g.w g.K g.mg g.base A outer s H → BindsTo s fd args [(y, .ref p.1)] → c ∈ R →
    Zc (.ref (g.cl c)) dd p.2 → ExcR g w c x (.ref (g.cl c)) dd H → wordX c x = some t → RB g w B H → (∀ w' H', Ext w H w' H' → RB g w' B H' → Q (.str t) H') → codeAny (model g.prog g.w) A (.call (.ref fa) args) (CR (L2N.CX g.prog g.w) outer g.prog g.w H s Q E) s
/-- the dict of an exception, known to the world -/
theorem RB.xd {g : Gs} {w : Wd} {B : Bs} {H : Hp} {dd : Addr} {fs : List (Str × V)} (rb : RB g w B H) (h : H dd = some (.xd fs)) : RB g { w with P := upd w.P dd (.xd fs) } B H ∧ Le w { w with P := upd w.P dd (.xd fs) } ∧ Ext w H { w with P := upd w.P dd (.xd fs) } H := by
  have np : ∀ o, w.P dd = some o → o = .xd fs := fun o e => by
    have z := rb.sub dd o e
    rw [h] at z
    exact (Option.some.inj z).symm
  have l : Le w { w with P := upd w.P dd (.xd fs) } := ⟨fun b o e => by
    show upd w.P dd (.xd fs) b = some o
    by_cases hb : b = dd
    · subst hb
      rw [upd_same, np o e]
    · rw [upd_ne hb]; exact e, fun _ _ e => e⟩
  have hnt : ∀ b ps, upd w.P dd (.xd fs) b ≠ some (.tbl ps) := fun b ps e => by
    by_cases hb : b = dd
    · subst hb; rw [upd_same] at e; cases e
    · rw [upd_ne hb] at e; exact rb.nt b ps e
  have hio : ∀ n a, w.io n = some a → a ≠ dd := fun n a e z => by
    obtain ⟨b, hb⟩ : ∃ b, B[n]? = some b := ⟨_, List.getElem?_eq_getElem (rb.dom n a e)⟩
    obtain ⟨a', o, q1, q2, q3⟩ := rb.get n b hb
    rw [e] at q1
    cases q1
    rw [z, h] at q2
    exact q3.nt.x fs (Option.some.inj q2).symm
  refine ⟨rb.keep l rfl (fun b o e => ?_) (Same.refl _) (fun n a e => ?_) hnt, l, ⟨l, fun _ _ h _ _ => h, fun b o e => ?_, fun _ _ h => .inl h, fun _ h => h, rfl⟩⟩
  · have e : upd w.P dd (.xd fs) b = some o := e
    by_cases hb : b = dd
    · subst hb; rw [upd_same] at e; rw [← e]; exact h
    · rw [upd_ne hb] at e; exact rb.sub b o e
  · show upd w.P dd (.xd fs) a = Option.none
    rw [upd_ne (hio n a e)]
    exact rb.np n a e
  · have e : upd w.P dd (.xd fs) b = some o := e
    by_cases hb : b = dd
    · subst hb; rw [upd_same] at e; cases e; exact .inr (.inr (.inr ⟨_, rfl⟩))
    · rw [upd_ne hb] at e; exact .inl e
theorem word_ok {g : Gs} {x qual y : Str} {st : Stmt} {fa : Addr} {fd : FuncData} {N : List Str} {R : List Nat} {k : Nat} (F : L2.Fun g.K x qual st fa fd) (S : FnScope N [y] (defScope st)) (hN : N.length = 3) (fx : Fx g) (fe : FxE g R)
    (hb : ∀ (E : XK) (w0 : Wd) (H0 : Hp) (X : Cx) (c : Nat) (a : Addr) (po : Option Addr), OkW g R X c a po → X.N = N → X.env.scope = defScope st → X.fn = (fun _ => true) → SndB g E w0 H0 X (defBody st) (mWord c a po)) : FnW g R (k + 1) fa fd y := by
  obtain ⟨oc, od, kV, doc, pm, an, cdv, ct, osl, rfl, lk, hcd⟩ := F.ex
  intro A outer s H args Q E p c x dd t w B hr hot hpin e0 hbd hc hz hxr hwt rb hq
  have KX : g.K.In s.heap := e0.mod.kin.keeps fun b o e => (e0.bs b o e).1
  have lim : s.heap.NoLimit := e0.mod.nolimit.keeps fun b o e => (e0.bs b o e).1
  have rv : Vals [V.ref p.1] [Value.ref p.1] := .cons rfl .nil
  have hkind : ∀ z ∈ [(y, Value.ref p.1)], (defScope st).names.lookup z.1 = some .local ∨ ((defScope st).names.lookup z.1 = some .cell ∧ ((cellsFrom (s.heap.objs.size + 1) (defScope st).names []).lookup z.1).isSome = true) := fun z hz => by
    have e : z = (y, Value.ref p.1) := by simpa using hz
    subst e
    rcases S.par y (by simp) with q | q
    · exact .inl q
    · exact .inr ⟨q, PySem.W.cellsFrom_some _ _ _ (.inl q)⟩
  refine codeAny_call_function hr.depth (KX _ _ lk) rfl S.co S.gen rfl (PySem.W.codeRec_of KX hcd) (hbd _ _ _ _ ?_)
  refine wpAny_newFunctionEnv_cells S.kind hkind fun env he s1 xx => ?_
  subst he
  refine ⟨lim.keeps xx.toInCall.keep, codeAny_func ?_⟩
  have hrd : L2H.RoomH k (A.deeper (envOfC qual (defScope st) s.heap.objs.size fa cdv)) := hr.deeper _
  obtain ⟨w1, dv, rb1, xw, hdv, hrep, hdx⟩ : ∃ (w1 : Wd) (dv : D), RB g w1 B H ∧ Ext w H w1 H ∧ isX p.1 dd dv = true ∧ Rep g w1 dv (.ref p.1) ∧ ∀ d, x = some d → ∃ d2, dv = .exo p.1 d2 "kind" d := by
    obtain ⟨_, hx⟩ := hxr
    cases x with
    | none =>
      obtain rfl : dd = Option.none := hx
      exact ⟨w, .ptr p.1, rb, Ext.refl _ _, by simp [isX], by simp only [Rep], fun d z => by cases z⟩
    | some d =>
      obtain ⟨a2, v2, rfl, ha2, rv2⟩ := hx
      obtain ⟨r1, l1, x1⟩ := rb.xd ha2
      have h28 : c = 28 := by
        cases d <;> simp only [wordX, reduceCtorEq] at hwt
        split at hwt
        · rename_i hh; exact hh.1
        · cases hwt
      have hk : excF c = "kind" := by rw [h28]; rfl
      refine ⟨_, .exo p.1 a2 "kind" d, r1, x1, by simp [isX], ?_, fun d' z => by cases z; exact ⟨_, rfl⟩⟩
      simp only [Rep]
      exact ⟨trivial, v2, (by show upd w.P a2 _ a2 = _; rw [upd_same, hk]), Rep.mono l1 _ _ rv2⟩
  have ht := hb E w1 H (L2H.cxH (L2N.CX g.prog g.w) g.prog g.w g.K g.mg g.base N qual (defScope st) fa cdv A outer s H E p) c p.1 dd
    ⟨⟨rfl, rfl, (by have := hrd.un; show A.units + 3 + 100 < cLine; have h2 : A.units + 3 + 16 * k + 200 < cLine := this; omega), rfl, rfl, rfl, fx⟩, fe, hc, p.2, (by show p ∈ [p]; simp), hz, (by obtain ⟨_, vs, h1, _⟩ := hot; exact ⟨vs, h1⟩)⟩ rfl rfl rfl
  have I : Inv (L2H.cxH (L2N.CX g.prog g.w) g.prog g.w g.K g.mg g.base N qual (defScope st) fa cdv A outer s H E p) [] (L2.start N [V.ref p.1]) H s1 := L2H.inv_startH (ps := [y]) S hpin e0 rfl rv xx
  have s0 : S0 g H w1 [some (false, dv), Option.none, Option.none] B (L2.start N [V.ref p.1]) H := by
    have z := start_at (g := g) (N := N) (ds := [dv]) (vs := [V.ref p.1]) (n := 1) rb1 (by simp only [Reps]; exact ⟨_, _, rfl, hrep, rfl⟩) rfl (by omega)
    rw [hN] at z
    exact z
  refine wpAny_mono (ht.run [] s1 (L2.start N [V.ref p.1]) H { nx := fun _ H' => Q .non H', rt := Q } I ⟨w1, _, B, s0, Ext.refl _ _, ?_⟩) (fun fl s' hs => ?_) fun e s' hs => hs
  · rw [wordX_at hdv hdx (fe.le c hc) hwt]
    intro w' v H' rb' x' r'
    simp only [Rep] at r'
    subst r'
    exact hq w' H' (xw.trans x') rb'
  have fin : ∀ {σ' : L2.St} {H' : Hp} {v : V} {u : Value}, Inv (L2H.cxH (L2N.CX g.prog g.w) g.prog g.w g.K g.mg g.base N qual (defScope st) fa cdv A outer s H E p) [] σ' H' s' → RelV v u → Q v H' → CE outer g.prog g.w H s Q u s' :=
    fun {σ' H' v u} J rv q => ⟨v, H', J.os, J.bare, J.base, J.hok, rv, q⟩
  cases fl with
  | ret u =>
    obtain ⟨v, σ', H', J, rv, q⟩ := hs
    exact fin J rv q
  | next =>
    obtain ⟨σ', H', J, q⟩ := hs
    exact fin (v := V.non) (u := Value.none) J rfl q
  | brk => obtain ⟨_, _, _, q⟩ := hs; exact False.elim q
  | cont => obtain ⟨_, _, _, q⟩ := hs; exact False.elim q
theorem pe_word {g : Gs} {X : Cx} {R : List Nat} {k i : Nat} {fa a : Addr} {oe : Obj} {fd : FuncData} {x y v : Str} {q pv pos : Pos} (F : FnW g R k fa fd y) (ok : OkB g X) (hr : L2H.RoomH k X.A) (hh : X.A.handled = some (.ref a)) (hp : (a, oe) ∈ X.pn) (hz : PXN.CtxN oe) (hf : ∃ vs, oe.data = .fields vs)
    (hm : g.mg x = some (.ref fa)) (hk : PySem.W.keepIn g.K (.ref fa) = true) (hb : Binds g.K fd [y] []) (hN : X.N[i]? = some v) (hv : Vis X.env.scope v) (hg : Gl X x) (hd : (v == ("__debug__" : Str)) = false := by decide) (hcd : (v == ("__classdict__" : Str)) = false := by decide) (hdb : (x == ("__debug__" : Str)) = false := by decide)
    (he : starEach [.Name v pv] X.env = (false, eval (.Name v pv) X.env) :: starEach [] X.env := by rfl) (hpl : (backTo pos (starEach [] X.env)).any (·.1) = false := by rfl) :
    PE X (.Call (.Name x q) [.Name v pv] [] pos) (fun σ H Q => σ[i]? = some (some (.ref a)) ∧ ∃ c y dd t w B, c ∈ R ∧ Zc (.ref (g.cl c)) dd oe ∧ ExcR g w c y (.ref (g.cl c)) dd H ∧ wordX c y = some t ∧ RB g w B H ∧ ∀ w' H', Ext w H w' H' → RB g w' B H' → Q (.str t) H') := by
  obtain ⟨prog, w', K, mg, base, A, N, s_0, H_0, env, outer, stack, ex, fn, calm, pn, xe⟩ := X
  obtain ⟨h1, h2, h4, h5, h6, h7, hfx⟩ := ok
  simp only at h1 h2 h5 h6 h7
  subst h1 h2 h5 h6 h7
  refine ⟨fun pins s σ H Q I h => ?_⟩
  obtain ⟨hi, c, yx, dd, t, w, B, hc, hzc, hxr, hwt, rb, hq⟩ := h
  refine wpAny_Call_Name_kw (ld_glob I hg hm ?_ hdb)
  have ha : PA _ [.Name v pv] (tCons (tVar i) tNil) := pa_cons (pe_var (pos := pv) hN hv hd hcd) pa_nil he
  refine PySem.W.callWith_K (h₀ := g.base) I.ok.mod.kin hk (thn (ha.run pos pins s σ H (fun vs H1 => vs = [V.ref a] ∧ H1 = H) I ⟨_, hi, rfl, rfl⟩) fun us s1 hh1 => ?_) he hpl
  obtain ⟨vs, H1, I1, r1, ev, eH⟩ := hh1
  subst ev eH
  refine ⟨I1.kIn, ?_⟩
  obtain ⟨u, rfl, ru⟩ := vals1 r1
  obtain rfl : u = Value.ref a := ru
  have b := hb s1 [.ref a] I1.kIn rfl
  have P1 := I1.pin (a, oe) (List.mem_append_left _ hp)
  have hpin : L2H.PinOk stack H1 s1 (a, oe) := ⟨P1.1, P1.2.1, fun hm => (List.mem_cons.mp (I1.stkSub a hm)).elim P1.2.2.1 P1.2.2.2.1, P1.2.2.2.2⟩
  obtain ⟨vs, hvs⟩ := hf
  refine wpAny_call (codeAny_mono (F A stack s1 H1 ⟨[.ref a], []⟩ Q E0 (a, oe) c yx dd t w B hr ⟨hh, vs, hvs, hz vs hvs⟩ hpin I1.env0 b hc hzc hxr hwt rb hq) fun r s' hq => ?_)
  cases r with
  | error e => exact passN pins σ H1 s1 e s' I1 hq
  | ok fl =>
    cases fl with
    | ret u => exact I1.after hq
    | next => exact False.elim hq
    | brk => exact False.elim hq
    | cont => exact False.elim hq
end Hf

set_option Elab.async false
set_option linter.all false
set_option maxRecDepth 100000
set_option maxHeartbeats 4000000
namespace Hf
open PySem PySem.Spec PyProof.Rows L2

/-! ### a lambda is made; what was there is there -/
section
variable {X : Cx} {pins : List (Addr × Obj)} {σ : L2.St} {H : Hp} {s : Shared}
theorem lam_mkT {T : List (Addr × Str)} {k0 P : Addr} {prm : Arguments} {bd : Expr} {sc : Scope} {lp : Pos} {Er Q : Value → Shared → Prop} (I : Inv X pins σ H s) (tb : LamX.TabB X.base X.mg k0 P) (hk : X.env.code = .ref k0)
    (mem : (P, X.env.qual ++ "<lambda>") ∈ T) (uni : ∀ p ∈ T, p.1 = P → p.2 = X.env.qual ++ "<lambda>") (tT : LamX.Tabs T H) (hdf : defaultsOf prm X.env = ([], [])) (fre : ∀ y ∈ sc.names, y.2 = .free → ∃ c, X.env.cells.lookup y.1 = some c)
    (go : ∀ (f c' : Addr) (pm ct : Value) (H1 : Hp) (s' : Shared), Inv X pins σ H1 s' → LamX.ExtN H H1 → (∀ b, H b ≠ Option.none → H1 b ≠ Option.none) → LamX.Tabs T H1 →
      s'.heap.get? f = some (PySem.W.kla_obj "<lambda>" (X.env.qual ++ "<lambda>") prm bd sc (cloFrom X.env.cells sc.names []) pm c' ct) → H1 f = Option.none → f ∉ frs X.stack → H1 c' = some (LamX.CodeO c' (X.env.qual ++ "<lambda>")) → Q (.ref f) s') :
    wpAny (model X.prog X.w) X.A (eval (.Lambda prm bd sc lp) X.env) Q Er s := by
  obtain ⟨ps, atP, ht, ha⟩ := tT _ mem
  refine PySem.W.kla_eval hdf ?_
  have bP : s.heap.BuiltinsAt X.mg P := tb.bm.keeps I.bk
  have gP : s.heap.get? P = some { cls := .none, data := .fields ps } := I.hok P _ atP
  have far : ∀ f, s.heap.objs.size ≤ f → f ∉ frs X.stack := fun f hf z => by
    rcases List.mem_cons.mp (I.stkSub _ z) with e | e
    · have q1 := I.lt
      rw [← e] at q1
      exact Nat.lt_irrefl _ (Nat.lt_of_lt_of_le q1 hf)
    · exact I.nofs hf e
  cases am : codeAmong lp ps.toList with
  | none =>
    refine PySem.W.kla_makeFunction (mg := X.mg) (c := k0) (P := P) (ps := ps) (closure_ok fre) I.ok.glob (I.mod.glob.keeps I.bk) hk (tb.code.keeps I.bk) gP ht am tb.gP bP fun c' ct h' tk hx hge hlt hrec htb => ?_
    obtain ⟨c2, oc, vs, t, e2, hoc, hd, hv⟩ := hrec
    cases e2
    have big : s.heap.objs.size ≤ h'.objs.size := Nat.le_trans hge (Nat.le_of_lt hlt)
    have newC : H c' = Option.none := I.hok.fresh hge
    have J := LamX.inv_table (t' := tk) (more := #[rawInt lp.line, rawInt lp.col, .ref c']) (h' := h'.push (PySem.W.kla_obj "<lambda>" (X.env.qual ++ "<lambda>") prm bd sc (cloFrom X.env.cells sc.names []) ((X.mg "__name__").getD .none) c' ct)) I atP
      (fun b o z e => Heap.get?_push_of_some _ (hx b o z e)) (Heap.get?_push_of_some _ htb) hge ⟨oc, vs, t, Heap.get?_push_of_some _ hoc, hd, hv⟩
    have kept : LamX.ExtN H (upd (upd H P (.tbl (ps ++ #[rawInt lp.line, rawInt lp.col, .ref c']))) c' (LamX.CodeO c' (X.env.qual ++ "<lambda>"))) := fun b o e n => by
      rw [upd_ne (ne_of_none e newC), upd_ne fun z => n ps (Option.some.inj (e.symm.trans (by rw [z]; exact atP)))]
      exact e
    have lst : (ps ++ #[rawInt lp.line, rawInt lp.col, .ref c']).toList = ps.toList ++ [rawInt lp.line, rawInt lp.col, .ref c'] := by simp
    refine go h'.objs.size c' ((X.mg "__name__").getD .none) ct _ _ J kept (fun b hb => ?_) (fun p hp => ?_) (Heap.get?_push_size _ rfl) ?_ (far _ big) upd_same
    · by_cases z : b = c'
      · rw [z, upd_same]; simp
      · rw [upd_ne z]
        by_cases z2 : b = P
        · rw [z2, upd_same]; simp
        · rw [upd_ne z2]; exact hb
    · by_cases z : p.1 = P
      · rw [uni p hp z, z]
        refine ⟨_, by rw [upd_ne (ne_of_none atP newC), upd_same], by rw [lst]; exact PySem.TriplesOk_snoc _ _ _ _ ht, fun p' cv hcv => ?_⟩
        rw [lst] at hcv
        rcases LamX.among_app _ ht hcv with z | z
        · obtain ⟨c0, e1, e2⟩ := ha p' cv z
          exact ⟨c0, e1, kept _ _ e2 LamX.codeO_ne⟩
        · exact ⟨c', z, upd_same⟩
      · obtain ⟨ps', a1, a2, a3⟩ := tT p hp
        refine ⟨ps', by rw [upd_ne (ne_of_none a1 newC), upd_ne z]; exact a1, a2, fun p' cv hcv => ?_⟩
        obtain ⟨c0, e1, e2⟩ := a3 p' cv hcv
        exact ⟨c0, e1, kept _ _ e2 LamX.codeO_ne⟩
    · have q1 : h'.objs.size ≠ c' := Nat.ne_of_gt hlt
      have q2 : h'.objs.size ≠ P := Nat.ne_of_gt (Nat.lt_of_lt_of_le (Heap.lt_size gP) big)
      rw [upd_ne q1, upd_ne q2]
      exact I.hok.fresh big
  | some cv =>
    obtain ⟨c', e, hco⟩ := ha lp cv am
    subst e
    refine PySem.W.kla_makeFunctionHit (mg := X.mg) (c := k0) (P := P) (ps := ps) (closure_ok fre) I.ok.glob (I.mod.glob.keeps I.bk) hk (tb.code.keeps I.bk) gP ht am bP fun ct h' tk hx big => ?_
    exact go h'.objs.size c' ((X.mg "__name__").getD .none) ct H _ (I.kept fun b o e => Heap.get?_push_of_some _ (hx b o e)) (LamX.ExtN.refl H) (fun _ z => z) tT (Heap.get?_push_size _ rfl) (I.hok.fresh big) (far _ big) hco
end
/-- the lambda's context, exceptions of the plain kind -/
abbrev lamN (X : Cx) (A : Around) (outer : List Env) (s : Shared) (H : Hp) (E : XK) (sc : Scope) (f c' : Addr) : Cx :=
  { LamX.lamCx X A outer s H E sc f c' with xe := fun e s' => wpAny (model X.prog X.w) (A.deeper (LamX.lamEnv X sc s.heap.objs.size f c')) (leaving (LamX.lamEnv X sc s.heap.objs.size f c') e) (fun _ s'' => L2N.CX X.prog X.w outer H s E e s'') (fun e' s'' => L2N.CX X.prog X.w outer H s E e' s'') s' }
/-- x(), in the def that got the lambda -/
theorem pe_actN {X : Cx} {pins : List (Addr × Obj)} {σ : L2.St} {H : Hp} {s : Shared} {Ng : List Str} {qg : Str} {sg : Scope} {ga f c' : Addr} {cdg pm ct : Value} {prm : Arguments} {bd : Expr} {sc : Scope} {k i : Nat} {a : Str} {pn : List (Addr × Obj)} {xe : Value → Shared → Prop} {W : WX} {E Eg : XK} {tb : TE} {p1 p2 : Pos}
    (I : Inv X pins σ H s) (L : LamX.LamS X.env.scope sc) (hf : s.heap.get? f = some (PySem.W.kla_obj "<lambda>" (X.env.qual ++ "<lambda>") prm bd sc (cloFrom X.env.cells sc.names []) pm c' ct)) (hfn : H f = Option.none) (hfr : f ∉ frs X.stack)
    (bind : bindArgs (PySem.W.kla_fn "<lambda>" (X.env.qual ++ "<lambda>") prm bd sc (cloFrom X.env.cells sc.names []) pm (.ref c') ct) ⟨[], []⟩ = pure [])
    (tk : L2N.Takes ((cxOf (L2N.CX X.prog X.w) X.prog X.w X.K X.mg X.base Ng qg sg ga cdg X.A X.stack s H Eg).tr pn xe) W) (hW : ∀ cls d σ' H', E cls d H' → W cls d σ' H') (hr : Room (k + 1) (X.A.deeper (envOfC qg sg s.heap.objs.size ga cdg)))
    (hbody : ∀ (outer : List Env) (s1 : Shared) (H1 : Hp), Room k ((X.A.deeper (envOfC qg sg s.heap.objs.size ga cdg)).deeper (LamX.lamEnv X sc s1.heap.objs.size f c')) → PE (lamN X (X.A.deeper (envOfC qg sg s.heap.objs.size ga cdg)) outer s1 H1 E sc f c') bd tb)
    (hN : Ng[i]? = some a) (hv : Vis sg a) (hd : (a == ("__debug__" : Str)) = false := by decide) (hcd : (a == ("__classdict__" : Str)) = false := by decide) :
    PE ((cxOf (L2N.CX X.prog X.w) X.prog X.w X.K X.mg X.base Ng qg sg ga cdg X.A X.stack s H Eg).tr pn xe) (.Call (.Name a p1) [] [] p2)
      (fun σZ HZ Q => σZ[i]? = some (some (.ref f)) ∧ HZ c' = some (LamX.CodeO c' (X.env.qual ++ "<lambda>")) ∧ tb σ HZ Q) := by
  refine ⟨fun pinsZ sZ σZ HZ Q IZ h => ?_⟩
  obtain ⟨hs, hc, ht⟩ := h
  refine wpAny_Call_Name_kw (thn ((pe_var (pos := p1) (i := i) hN hv hd hcd).run pinsZ sZ σZ HZ (fun v H1 => v = .ref f ∧ H1 = HZ) IZ ⟨.ref f, hs, rfl, rfl⟩) fun u s1 ⟨v, H1, I1, r1, q1⟩ => ?_)
  obtain ⟨ev, eH⟩ := q1
  subst ev eH
  obtain rfl : u = Value.ref f := r1
  have of1 : s1.heap.get? f = some (PySem.W.kla_obj "<lambda>" (X.env.qual ++ "<lambda>") prm bd sc (cloFrom X.env.cells sc.names []) pm c' ct) := I1.base.keep f _ hf hfn hfr (fun z => nomatch (show f ∈ ([] : List Addr) from z))
  refine PySem.W.callWith_F0 ⟨_, _, _, _, of1⟩ ?_
  have un : Un (frs X.stack) [] H H1 s.heap s1.heap := I1.base
  obtain ⟨⟨oc, vs, t, hoc, hdc, hvc⟩, _, _⟩ := I1.hok c' _ hc
  have rc : codeAny (model X.prog X.w) (X.A.deeper (envOfC qg sg s.heap.objs.size ga cdg)) (.call (.ref f) ⟨[], []⟩) (CR (L2N.CX X.prog X.w) (envOfC qg sg s.heap.objs.size ga cdg :: X.stack) X.prog X.w H1 s1 Q E) s1 := by
    refine PySem.W.kla_callFunE hr.depth of1 rfl L.co L.gen rfl ⟨c', oc, vs, t, rfl, hoc, hdc, hvc⟩ ?_
    rw [bind]
    refine wpAny_pure (wpAny_newFunctionEnv (fun y hy => (L.own y hy).2) (fun y hy => absurd hy (by simp)) (fun h₁ hns hsb => ⟨I1.nolimit.fresh _ hsb, ?_⟩) L.kind)
    show codeAny _ _ (.expr bd (LamX.lamEnv X sc s1.heap.objs.size f c')) _ _
    have kp : ∀ b o, s1.heap.get? b = some o → h₁.get? b = some o := fun b o e => hsb.extBut b o (Nat.ne_of_lt (Heap.lt_size e)) (Heap.get?_push_of_some _ e)
    have J0 : Inv (LamX.lamCx X (X.A.deeper (envOfC qg sg s.heap.objs.size ga cdg)) (envOfC qg sg s.heap.objs.size ga cdg :: X.stack) s1 H1 E sc f c') [] σ H1 { s1 with heap := h₁, toks := s1.toks + ([] : List (Str × Value)).length } :=
      LamX.lam_start2 I L I1.env0 hr.hd un hns kp
    have J : Inv (lamN X (X.A.deeper (envOfC qg sg s.heap.objs.size ga cdg)) (envOfC qg sg s.heap.objs.size ga cdg :: X.stack) s1 H1 E sc f c') [] σ H1 { s1 with heap := h₁, toks := s1.toks + ([] : List (Str × Value)).length } := J0.wish _
    refine PySem.W.kla_codeExpr (wpAny_mono ((hbody _ s1 H1 (hr.deeper _)).run [] _ _ H1 Q J ht) (fun v s' hq => ?_) fun e s' hq => hq)
    obtain ⟨w', H', J', rv, q⟩ := hq
    exact ⟨w', H', J'.os, J'.bare, J'.base, J'.hok, rv, q⟩
  have hx : Passes (L2N.CX X.prog X.w) ((cxOf (L2N.CX X.prog X.w) X.prog X.w X.K X.mg X.base Ng qg sg ga cdg X.A X.stack s H Eg).tr pn xe) E := L2N.passes_call tk hW
  refine wpAny_call (codeAny_mono rc fun r s' hq => ?_)
  cases r with
  | error e => exact hx pinsZ σZ H1 s1 e s' I1 hq
  | ok fl =>
    cases fl with
    | ret u => exact I1.after hq
    | next => exact False.elim hq
    | brk => exact False.elim hq
    | cont => exact False.elim hq
end Hf

set_option Elab.async false
set_option linter.all false
set_option maxRecDepth 100000
set_option maxHeartbeats 4000000
namespace Hf
open PySem PySem.Spec PyProof.Rows L2

/-! ### _law_said(lambda: ..) -/
def mSaidW (fR : D → Bs → Rs D) (R : List Nat) (m : Ev) : Ev := fun σ B => match m σ B with
  | .ok d B1 => fR d B1
  | .exc c x B1 => if R.contains c then (match wordX c x with
    | some t => .ok (.str (Str.ofString "! " ++ t)) B1
    | Option.none => .bad) else .bad
  | .bad => .bad
/-- as said where no class has its own repr -/
def mSaid (R : List Nat) (m : Ev) : Ev := mSaidW fRepr R m
/-- repr means fR, from level kr on -/
def ReprK (g : Gs) (fR : D → Bs → Rs D) (kr : Nat) : Prop := ∃ rR : List V → Hp → VK → Prop, (∀ (E : XK) (lv : Nat) (X : Cx), OkG g E lv X → kr ≤ lv → CallR X (.builtin "repr") rR) ∧
  ∀ (E : XK) (H0 : Hp) (w : Wd) (σI : Sl) (B : Bs) (σ : L2.St) (H : Hp) (Q : VK) (x : V) (d : D), S0 g H0 w σI B σ H → Rep g w d x → PostE g E w H σI σ false Q (fR d B) → rR [x] H Q
theorem reprK0 (g : Gs) : ReprK g fRepr 0 := ⟨rReprG g, fun E lv X c _ => call_reprG c, fun E H0 w σI B σ H Q x d s r p => repr_go s (.inl r) p⟩
/-- the text of _law_said -/
structure SaidS (st : Stmt) : Prop where
  sc : FnScope ["_law_call", "_law_e"] ["_law_call"] (defScope st)
  gr : (defScope st).names.lookup ("repr" : Str) = some NameKind.globalImplicit
  gx : (defScope st).names.lookup ("ReadError" : Str) = some NameKind.globalImplicit
  gw : (defScope st).names.lookup ("_law_word" : Str) = some NameKind.globalImplicit
  lc : (defScope st).names.lookup ("_law_call" : Str) = some NameKind.local
  le : (defScope st).names.lookup ("_law_e" : Str) = some NameKind.local
  body : ∃ (p1 p2 p3 p4 p5 p6 p7 p8 p9 p10 p11 p12 p13 p14 : Pos) (j : Nat), defBody st = [.Try [.Return (some (.Call (.Name "repr" p1) [.Call (.Name "_law_call" p2) [] [] p3] [] p4)) p5]
    [.ExceptHandler (some (.Name "ReadError" p6)) (some "_law_e") [.Return (some (.BinOp (.Constant (.str "! ") j p7) .Add (.Call (.Name "_law_word" p8) [.Name "_law_e" p9] [] p10) p11)) p12] p13] [] [] p14]
def SaidD (g : Gs) : Prop := ∃ (st : Stmt) (fa : Addr) (fd : FuncData), L2.Fun g.K "_law_said" "_law_said" st fa fd ∧ g.mg "_law_said" = some (.ref fa) ∧ PySem.W.keepIn g.K (.ref fa) = true ∧ Binds g.K fd ["_law_call"] [] ∧ SaidS st ∧ g.mg "ReadError" = some (.ref (g.cl 10))
def WordD (g : Gs) (R : List Nat) (k : Nat) : Prop := ∃ (fa : Addr) (fd : FuncData) (y : Str), FnW g R k fa fd y ∧ g.mg "_law_word" = some (.ref fa) ∧ PySem.W.keepIn g.K (.ref fa) = true ∧ Binds g.K fd [y] []
/-- the def that holds lambdas: its code object, its table -/
structure LamK (g : Gs) (X : Cx) (k0 P : Addr) : Prop where
  tb : LamX.TabB g.base g.mg k0 P
  code : X.env.code = .ref k0
  mem : (P, X.env.qual ++ "<lambda>") ∈ g.tabs
  uni : ∀ p ∈ g.tabs, p.1 = P → p.2 = X.env.qual ++ "<lambda>"
theorem nmE_len (c : Nat) : (nmE c).length ≤ 20 := by
  unfold nmE
  split <;> decide
theorem wordX_len {c : Nat} {x : Option D} {t : Str} (h : wordX c x = some t) : t.length ≤ 1100 := by
  unfold wordX at h
  split at h
  · split at h
    · cases h
      have := nmE_len c
      omega
    · cases h
  · split at h
    · rename_i s hh
      cases h
      have l2 : (Str.ofString "Broken ").length = 7 := by decide
      have l3 : (PyData.shown (.str s)).length = (PySem.reprText s).length := by simp [PyData.shown]
      have l4 : (Str.ofString "Broken " ++ PyData.shown (.str s)).length = (Str.ofString "Broken ").length + (PyData.shown (.str s)).length := Str.length_append _ _
      omega
    · cases h
  · cases h
theorem cat_said {c : Nat} {x : Option D} {t : Str} (hw : wordX c x = some t) (B : Bs) : fAdd (.str (Str.ofString "! ")) (.str t) B = .ok (.str (Str.ofString "! " ++ t)) B := by
  have h := wordX_len hw
  have z := sizeLine_eq
  have h2 : (Str.ofString "! ").length = 2 := by decide
  unfold fAdd
  simp only
  rw [if_pos (by omega)]
theorem un_of {k : Nat} {A : Around} (r : Room k A) : A.units + 100 < cLine := by
  have := r.un
  omega
theorem s0_nil {g : Gs} {w : Wd} {B : Bs} {H : Hp} (rb : RB g w B H) : S0 g H w [] B [] H where
  rb := rb
  len := rfl
  sl := fun i d h => by simp at h
  ow := fun i d h => by simp at h
  oi := fun i j d e a h => by simp at h
  me := fun i c ds a h => by simp at h
theorem s_saidW {fR : D → Bs → Rs D} {kr : Nat} {g : Gs} {E : XK} {H0 : Hp} {X : Cx} {R : List Nat} {kw k : Nat} {k0 P : Addr} {prm : Arguments} {bd : Expr} {sc : Scope} {lp p pos : Pos} {m : Ev} (c : OkG g E (k + 2) X) (D : SaidD g) (W : WordD g R kw) (hkw : kw ≤ k + 1) (fe : FxE g R) (RK : ReprK g fR kr) (hkr : kr ≤ k + 1) (lk : LamK g X k0 P)
    (hb : ∀ (A : Around) (outer : List Env) (s1 : Shared) (H1 : Hp) (E1 : XK) (f c' : Addr), OkG g E1 k (lamN X A outer s1 H1 E1 sc f c') → Snd g E1 H0 (lamN X A outer s1 H1 E1 sc f c') false bd m)
    (L : LamX.lamSB X.env.scope sc = true := by first | rfl | kernel_rfl) (hdf : defaultsOf prm X.env = ([], []) := by rfl)
    (bind : ∀ (q : Str) (cl : List (Str × Addr)) (pm cv ct : Value), bindArgs (PySem.W.kla_fn "<lambda>" q prm bd sc cl pm cv ct) ⟨[], []⟩ = pure [] := by intros; rfl)
    (hg : Gl X "_law_said" := by rfl) : Snd g E H0 X false (.Call (.Name "_law_said" p) [.Lambda prm bd sc lp] [] pos) (mSaidW fR R m) := by
  have LS := LamX.lamS_by L
  obtain ⟨rR, hcall, hgo⟩ := RK
  obtain ⟨st, fa, fd, F, hm, kp, hbd, S, mR⟩ := D
  obtain ⟨oc, od, kV, doc, pm, an, cdv, ct, osl, rfl, lkF, hcd⟩ := F.ex
  obtain ⟨wa, wd, y, FW, wm, wk, wb⟩ := W
  obtain ⟨prog, w', K, mg, base, A, N, s_0, H_0, env, outer, stack, ex, fn, calm, pn, xe⟩ := X
  obtain ⟨⟨⟨h1, h2, h3, h4, h5, h6, h7, hfx⟩, h8, h9⟩, h10⟩ := c
  simp only at h1 h2 h5 h6 h7
  subst h1 h2 h5 h6 h7
  refine ⟨fun pins s σ H Q I h => ?_⟩
  obtain ⟨w, σI, B, s0, post⟩ := h
  refine wpAny_Call_Name_kw (ld_glob I hg hm ?_ (by decide))
  refine PySem.W.callWith_K (h₀ := g.base) I.ok.mod.kin kp ?_ (by rfl) (by rfl)
  show wpAny _ _ (spliced ((false, eval (.Lambda prm bd sc lp) env) :: backTo pos (starEach [] env))) _ _ s
  refine Calls.spliced_cons (lam_mkT I lk.tb lk.code lk.mem lk.uni s0.rb.tb hdf (LS.has I.ok) fun f c' pm' ct' H1 s' I1 eN tr T1 hf hfn hfr hco => ?_)
  refine Calls.spliced_nil ⟨I1.kIn, ?_⟩
  have rb1 : RB g w B H1 := ⟨fun b o e => eN b o (s0.rb.sub b o e) (fun ps z => s0.rb.nt b ps (z ▸ e)), fun n b e => by
    obtain ⟨a, o, q1, q2, q3⟩ := s0.rb.get n b e
    exact ⟨a, o, q1, eN a o q2 q3.nt.t, q3⟩, s0.rb.inj, s0.rb.np, s0.rb.dom, T1, s0.rb.nt⟩
  have x1 : Ext w H w H1 := ⟨Le.refl _, fun b o e _ ht => eN b o e ht, fun _ _ h => .inl h, fun _ _ h => .inl h, tr, rfl⟩
  have s1 : S0 g H0 w σI B σ H1 := s0.step x1 rb1
  have post1 : PostE g E w H1 σI σ false Q (mSaidW fR R m σI B) := PostE.ext x1 post
  have rc : codeAny (model g.prog g.w) A (.call (.ref fa) ⟨[.ref f], []⟩) (CR (L2N.CX g.prog g.w) stack g.prog g.w H1 s' Q E0) s' := by
    refine LamX.run_ofS (k := k + 1) (N := ["_law_call", "_law_e"]) (ps := ["_law_call"]) (us := [.ref f]) (vs := [.ref f]) lkF hcd S.sc h8 I1.env0 (hbd s' [.ref f] I1.kIn rfl) (.cons rfl .nil) rfl fun hr' => ?_
    obtain ⟨p1, p2, p3, p4, p5, p6, p7, p8, p9, p10, p11, p12, p13, p14, j, eb⟩ := S.body
    have un' : (A.deeper (envOfC "_law_said" (defScope st) s'.heap.objs.size fa cdv)).units + 100 < cLine := by
      have := hr'.un
      omega
    rw [eb]
    refine ⟨_, pss_one (L2N.ps_try_as (X := cxOf (L2N.CX g.prog g.w) g.prog g.w g.K g.mg g.base ["_law_call", "_law_e"] "_law_said" (defScope st) fa cdv A stack s' H1 E0) (i := 1) (c := .ref (g.cl 10)) (Wout := fun cls d _ H => E0 cls d H)
      (tb := fun W D σZ HZ => ∃ Ech : XK, (∀ cls d σ' H', Ech cls d H' → W cls d σ' H') ∧ σZ[0]? = some (some (.ref f)) ∧ HZ c' = some (LamX.CodeO c' (env.qual ++ "<lambda>")) ∧ tI g Ech H0 false m σ HZ (fun v H' => rR [v] H' D.rt))
      (ts := fun a cls d D σZ HZ => (1 < σZ.length → σZ[1]? = some (some (.ref a))) ∧ ∃ c x t w B, c ∈ R ∧ cls = .ref (g.cl c) ∧ ExcR g w c x cls d HZ ∧ wordX c x = some t ∧ RB g w B HZ ∧ ∀ w' H', Ext w HZ w' H' → RB g w' B H' → D.rt (.str (Str.ofString "! " ++ t)) H')
      rfl rfl S.sc.nd rfl S.le ⟨S.gx, by decide, .inl mR⟩ (L2N.takes_of rfl rfl rfl rfl) (fun W pn xe tk po => ?_) (fun a oe cls d pn hz hf2 => ?_)), ?_⟩
    · refine ⟨fun pinsZ sZ σZ HZ D IZ h' => ?_⟩
      obtain ⟨Ech, hW, q1, q2, q3⟩ := h'
      have okT : OkG g Ech (k + 1) ((cxOf (L2N.CX g.prog g.w) g.prog g.w g.K g.mg g.base ["_law_call", "_law_e"] "_law_said" (defScope st) fa cdv A stack s' H1 E0).tr pn xe) :=
        ⟨⟨⟨rfl, rfl, rfl, un', rfl, rfl, rfl, hfx⟩, hr', L2N.passes_call tk hW⟩, h10⟩
      have act := pe_actN (i := 0) (p1 := p2) (p2 := p3) I1 LS hf hfn hfr (bind _ _ _ _ _) tk hW hr' (fun outer s2 H2 hr2 => hb _ outer s2 H2 Ech f c'
        ⟨⟨⟨rfl, rfl, rfl, un_of hr2, rfl, rfl, rfl, hfx⟩, hr2, L2N.passes_call (L2N.takes_of rfl rfl rfl rfl) (fun _ _ _ _ h => h)⟩, h10⟩) rfl (Or.inl S.lc)
      have hq := pss_one (ps_ret (pos := p5) (pe_callB (pos := p4) (p := p1) (hcall _ _ _ okT hkr) S.gr (nbs okT.toOk) bt_repr (pa_cons act pa_nil rfl) (by decide) (by decide) rfl rfl))
      exact hq.run pinsZ sZ σZ HZ D IZ ⟨q1, q2, q3⟩
    · refine ⟨fun pinsZ sZ σZ HZ D IZ h' => ?_⟩
      obtain ⟨hl, c, xx, tt, w2, B2, hc, rfl, hxr, hwt, rb2, hq2⟩ := h'
      have hN2 : σZ[1]? = some (some (.ref a)) := hl (by have z := IZ.len; rw [z]; show 1 < 2; decide)
      have okB : OkB g ((cxOf (L2N.CX g.prog g.w) g.prog g.w g.K g.mg g.base ["_law_call", "_law_e"] "_law_said" (defScope st) fa cdv A stack s' H1 E0).suite a ((a, oe) :: pn)) := ⟨rfl, rfl, un', rfl, rfl, rfl, hfx⟩
      have hword := pe_word (i := 1) (v := "_law_e") (q := p8) (pv := p9) (pos := p10) FW okB (by have r := L2H.roomH_of (hr'.mono hkw); exact ⟨r.dp, r.un⟩) rfl List.mem_cons_self hz.2.2 hf2 wm wk wb rfl (Or.inl S.le) S.gw
      have hq := pss_one (ps_ret (pos := p12) (pe_op (pos := p11) op_addA (pe_str (x := Str.ofString "! ") (j := j) (pos := p7)) hword))
      exact hq.run pinsZ sZ σZ HZ D IZ ⟨hN2, c, xx, d, tt, w2, B2, hc, hz.zc, hxr, hwt, rb2, fun w3 H3 x3 rb3 => os_add w3 [] B2 [] H3 D.rt _ _ (.str (Str.ofString "! ")) (.str tt) (E := E) (s0_nil rb3) (.inl (rep_str g w3 _)) (.inl (rep_str g w3 _)) (by
        rw [cat_said hwt]
        intro w4 v H4 x4 rb4 r4
        simp only [RepB, Rep] at r4
        subst r4
        exact hq2 w4 H4 (x3.trans x4) rb4)⟩
    · refine ⟨fun cls d H' => ∃ c x t w B, c ∈ R ∧ cls = .ref (g.cl c) ∧ ExcR g w c x cls d H' ∧ wordX c x = some t ∧ RB g w B H' ∧ ∀ w' H'', Ext w H' w' H'' → RB g w' B H'' → Q (.str (Str.ofString "! " ++ t)) H'', fun cls d σ' H' hE => ?_, rfl, hco, w, σI, B, s1, ?_⟩
      · obtain ⟨c, xx, tt, w2, B2, hc, rfl, hxr, hwt, rb2, hq2⟩ := hE
        refine ⟨true, fe.rd c hc, fun _ a na => ⟨fun hl => ?_, c, xx, tt, w2, B2, hc, rfl, hxr, hwt, rb2, hq2⟩, fun z => by cases z⟩
        rw [List.length_set] at hl
        rw [List.getElem?_set_self hl]
      · revert post1
        unfold mSaidW
        cases m σI B with
        | ok d B1 => exact fun post1 w2 v H2 x2 rb2 r2 => hgo E H0 w2 σI B1 σ H2 Q v d (s1.step x2 rb2) r2 (PostE.ext x2 post1)
        | exc c x B1 =>
          intro post1 w2 cls dd H2 x2 rb2 hE
          have e1 := hE.1
          by_cases hc : R.contains c = true
          · simp only [hc, if_true] at post1
            cases hw : wordX c x with
            | none =>
              rw [hw] at post1
              exact post1.elim
            | some t =>
              rw [hw] at post1
              exact ⟨c, x, t, w2, B1, List.contains_iff_mem.mp hc, e1, hE, hw, rb2, fun w3 H3 x3 rb3 => post1 w3 _ H3 (x2.trans x3) rb3 (rep_str g w3 _)⟩
          · simp only [hc] at post1
            exact post1.elim
        | bad => exact fun z => z.elim
  refine wpAny_call (codeAny_mono rc fun r s2 hq => ?_)
  cases r with
  | error e => exact passN pins σ H1 s' e s2 I1 hq
  | ok fl =>
    cases fl with
    | ret u => exact I1.after hq
    | next => exact False.elim hq
    | brk => exact False.elim hq
    | cont => exact False.elim hq
theorem s_said {g : Gs} {E : XK} {H0 : Hp} {X : Cx} {R : List Nat} {kw k : Nat} {k0 P : Addr} {prm : Arguments} {bd : Expr} {sc : Scope} {lp p pos : Pos} {m : Ev} (c : OkG g E (k + 2) X) (D : SaidD g) (W : WordD g R kw) (hkw : kw ≤ k + 1) (fe : FxE g R) (lk : LamK g X k0 P)
    (hb : ∀ (A : Around) (outer : List Env) (s1 : Shared) (H1 : Hp) (E1 : XK) (f c' : Addr), OkG g E1 k (lamN X A outer s1 H1 E1 sc f c') → Snd g E1 H0 (lamN X A outer s1 H1 E1 sc f c') false bd m)
    (L : LamX.lamSB X.env.scope sc = true := by first | rfl | kernel_rfl) (hdf : defaultsOf prm X.env = ([], []) := by rfl)
    (bind : ∀ (q : Str) (cl : List (Str × Addr)) (pm cv ct : Value), bindArgs (PySem.W.kla_fn "<lambda>" q prm bd sc cl pm cv ct) ⟨[], []⟩ = pure [] := by intros; rfl)
    (hg : Gl X "_law_said" := by rfl) : Snd g E H0 X false (.Call (.Name "_law_said" p) [.Lambda prm bd sc lp] [] pos) (mSaid R m) :=
  s_saidW c D W hkw fe (reprK0 g) (Nat.zero_le _) lk hb L hdf bind hg
end Hf

set_option Elab.async false
set_option linter.all false
set_option maxRecDepth 100000
set_option maxHeartbeats 4000000
namespace Hf
open PySem PySem.Spec PyProof.Rows L2

theorem OkG.mono {g : Gs} {E : XK} {lv k : Nat} {X : Cx} (c : OkG g E lv X) (h : k ≤ lv) : OkG g E k X := ⟨⟨c.toOk, c.room.mono h, c.hx⟩, c.gd⟩
theorem kit_objT {K : PySem.W.Frag} {C : Addr} {b : String} (h : PySem.W.mroIn K C (.type b) = some true) (hm : PySem.W.kitMeta b = true := by decide +kernel) : PySem.W.kitOne K (.ref C) (.type b) = some true := by
  have e : (Value.ref C == Value.type b) = false := beq_eq_false_iff_ne.mpr (fun z => nomatch z)
  unfold PySem.W.kitOne PySem.W.kitCls
  simp only [e, Bool.false_eq_true, if_false, hm, if_true]
  exact h
def ExcN (g : Gs) (n : Nat) (x : Str) : Prop := ExcK g n ∧ g.mg x = some (.ref (g.cl n))
/-! ### a def that holds lambdas -/
theorem def_okL {g : Gs} {x qual : Str} {st : Stmt} {fa : Addr} {fd : FuncData} {N ps : List Str} {n k : Nat} {b : Ms} {k0 P : Addr} (F : L2.Fun g.K x qual st fa fd) (S : FnScope N ps (defScope st)) (hn : ps.length = n) (hN : n ≤ N.length)
    (fx : Fx g) (co : fd.code = .ref k0) (tb : LamX.TabB g.base g.mg k0 P) (mem : (P, (qual ++ ".<locals>.") ++ "<lambda>") ∈ g.tabs) (uni : ∀ p ∈ g.tabs, p.1 = P → p.2 = (qual ++ ".<locals>.") ++ "<lambda>")
    (hb : ∀ (E : XK) (w0 : Wd) (H0 : Hp) (X : Cx), OkG g E k X → LamK g X k0 P → PassesOwn (model X.prog X.w) X.A X.env X.xe → L2N.Takes X (fun cls d _ H => E cls d H) → X.N = N → X.env.scope = defScope st → X.fn = (fun _ => true) → SndB g E w0 H0 X (defBody st) b) :
    FnG g.prog g.w g.K g.mg g.base (L2N.CX g.prog g.w) (k + 1) fa fd ps (spF g (mkFn n N.length b)) := by
  obtain ⟨oc, od, kV, doc, pm, an, cdv, ct, osl, rfl, lk, hcd⟩ := F.ex
  have len : ∀ vs H Q E, spF g (mkFn n N.length b) vs H Q E → vs.length = ps.length := fun vs H Q E h => by
    obtain ⟨w, ds, B, rb, r, p⟩ := h
    unfold mkFn at p
    split at p
    · rename_i e; rw [r.len, e, hn]
    · exact p.elim
  refine ⟨len, fun A outer s H args us vs Q E hg hr e0 hbd r h => ?_⟩
  refine StX.run_bnd lk hcd S hr e0 (G := fun xs H2 => xs = vs ∧ H2 = H) (fun A' Ex Q' hq => hbd _ _ _ _ (hq s H vs us e0 Un.refl rfl (fun _ _ z => z) r (len _ _ _ _ h) ⟨rfl, rfl⟩)) ?_
  rintro s2 H2 xs ⟨rfl, rfl⟩ hr'
  obtain ⟨w, ds, B, rb, r, p⟩ := h
  unfold mkFn at p
  split at p
  · rename_i e
    refine ⟨_, hb E w H2 _ ⟨⟨⟨rfl, rfl, rfl, ?_, rfl, rfl, rfl, fx⟩, hr', ?_⟩, hg⟩ (by exact ⟨tb, co, mem, uni⟩) (passes_of rfl) (L2N.takes_of rfl rfl rfl rfl) rfl rfl rfl, ?_⟩
    · exact un_of hr'
    · exact L2N.passes_call (L2N.takes_of rfl rfl rfl rfl) (fun _ _ _ _ h => h)
    · refine ⟨w, _, B, start_at rb r e hN, Ext.refl _ _, ?_⟩
      revert p
      generalize b _ B = q
      intro p
      cases q with
      | next σI' B' => exact fun w' σ H' _ s x => p w' .non H' x s.rb (rep_none g w')
      | ret d B' => exact fun w' v H' rb x r => p w' v H' x rb r
      | exc c y B' => exact fun w' cls dd H' rb x r => p w' cls dd H' x rb r
      | bad => exact p
  · exact p.elim
/-! ### the end: empty tables stand, the script is laid -/
/-- the heap at the law's call: the tables T, the script -/
def topH (T : List Addr) (sc : Option (Addr × HO)) : Hp := fun b => if b ∈ T then some (.tbl #[]) else match sc with
  | some (a, o) => if b = a then some o else Option.none
  | Option.none => Option.none
theorem topH_T {T : List Addr} {sc : Option (Addr × HO)} {b : Addr} (h : b ∈ T) : topH T sc b = some (.tbl #[]) := if_pos h
theorem topH_cases {T : List Addr} {sc : Option (Addr × HO)} {b : Addr} {o : HO} (h : topH T sc b = some o) : (b ∈ T ∧ o = .tbl #[]) ∨ (b ∉ T ∧ sc = some (b, o)) := by
  unfold topH at h
  by_cases hb : b ∈ T
  · rw [if_pos hb] at h; exact .inl ⟨hb, (Option.some.inj h).symm⟩
  · rw [if_neg hb] at h
    refine .inr ⟨hb, ?_⟩
    split at h
    · rename_i a o'
      by_cases e : b = a
      · subst e; rw [if_pos rfl] at h; cases h; rfl
      · rw [if_neg e] at h; cases h
    · cases h
/-- what the law's def is promised -/
def spLT (g : Gs) (T : List Addr) : Sp := fun vs H Q _ => ∃ (a : Addr) (ns : List Int) (sc : Option (Addr × HO)), vs = [.ref a] ∧ H = topH T sc ∧ (∀ b o, sc = some (b, o) → ∃ ob xs, o = .frz ob (.lst xs)) ∧ (∀ b o, sc = some (b, o) → b ∉ T) ∧ SqL g.K (topH T sc) a (ns.map V.int) ∧ ns.length ≤ 63 ∧ ∀ H', Q (.bl true) H'
theorem top_promiseT {P : Program} {w : World} {K : PySem.W.Frag} {mg : Str → Option Value} {base : Heap} {CX : CXT} {k : Nat} {fa : Addr} {fd : FuncData} {x : Str} {g : Gs} {f : Fn} {T : List Addr} (ht : ∀ p ∈ g.tabs, p.1 ∈ T) (F : FnG P w K mg base CX k fa fd [x] (spF g f))
    (hf : ∀ ns : List Int, ns.length ≤ 63 → ∃ B, f [.scr (ns.map D.int)] [] = .ok (.bool true) B) : FnG P w K mg base CX k fa fd [x] (spLT g T) := by
  have imp : ∀ vs H Q E, spLT g T vs H Q E → spF g f vs H Q E := by
    rintro vs H Q E ⟨a, ns, sc, rfl, rfl, hfz, hnT, hS, hl, hq⟩
    obtain ⟨B, hB⟩ := hf ns hl
    have at_ : ∀ b, topH [] sc b ≠ Option.none → topH [] sc b = topH T sc b := fun b hb => by
      cases q : topH [] sc b with
      | none => exact absurd q hb
      | some o =>
        rcases topH_cases q with ⟨z, _⟩ | ⟨_, z⟩
        · cases z
        · subst z
          unfold topH
          rw [if_neg (hnT _ _ rfl)]
          simp
    refine ⟨{ P := topH [] sc, io := fun _ => Option.none }, [.scr (ns.map D.int)], [], ⟨fun b o e => ?_, fun n b e => by simp at e, fun _ _ _ e => (nomatch e), fun _ _ e => (nomatch e), fun _ _ e => (nomatch e), fun p hp => LamX.TabS.nil (topH_T (ht p hp)), fun b ps e => ?_⟩, ?_, ?_⟩
    · have e : topH [] sc b = some o := e
      rw [← at_ b (by rw [e]; simp)]; exact e
    · rcases topH_cases (show topH [] sc b = some (.tbl ps) from e) with ⟨z, _⟩ | ⟨_, z⟩
      · cases z
      · obtain ⟨_, _, z2⟩ := hfz _ _ z
        cases z2
    · simp only [Reps, Rep]
      refine ⟨_, _, rfl, ⟨a, ns.map V.int, rfl, ?_, reps_ints g _ ns⟩, rfl⟩
      have low : ∀ o, topH T sc a = some o → (∀ ps, o ≠ .tbl ps) → topH [] sc a = some o := fun o e n => by
        rcases topH_cases e with ⟨_, z⟩ | ⟨_, z⟩
        · exact absurd z (n _)
        · subst z; unfold topH; simp
      rcases hS with (h | ⟨o, h⟩) | h
      · exact .inl (.inl (low _ h fun ps z => by cases z))
      · exact .inl (.inr ⟨o, low _ h fun ps z => by cases z⟩)
      · exact .inr h
    · rw [hB]
      intro w' v H' _ _ r
      simp only [Rep] at r
      subst r
      exact hq H'
  exact ⟨fun vs H Q E h => F.len vs H Q E (imp _ _ _ _ h), fun A outer s H args us vs Q E hg hr e0 hb r h => F.run A outer s H args us vs Q E hg hr e0 hb r (imp _ _ _ _ h)⟩
/-- the call of the law -/
theorem law_callT {P : Program} {w : World} {K : PySem.W.Frag} {mg mb : Str → Option Value} {CX : CXT} {k : Nat} {fa a : Addr} {cs : List (Addr × Addr)} {fd : FuncData} {x : Str} {s₁ : Shared} {vs : List Value} {ns : List Int}
    (KX : K.In s₁.heap) (gn : s₁.heap.Ns mainGlobals mg) (bn : s₁.heap.Ns builtinsNs mb) (bb : ∀ x : Str, x ≠ "__name__" → mb x = bootBuiltins x) (lm : s₁.heap.NoLimit) (g0 : s₁.gens = #[])
    (tE : ∀ p ∈ cs, s₁.heap.get? p.2 = some { cls := .none, data := .fields #[] }) (tK : ∀ p ∈ cs, K.lookup p.2 = Option.none) (tC : ∀ p ∈ cs, PySem.W.CodeHd s₁.heap p.1 p.2)
    (mod : ∃ (bm : Addr) (ob : Obj), mg "__builtins__" = some (.ref bm) ∧ bm ≠ builtinsNs ∧ s₁.heap.get? bm = some ob ∧ ob.cls = .type "module" ∧ ob.dict = some builtinsNs ∧ ob.data = .plain)
    (ha : s₁.heap.get? a = some { cls := .type "list", data := .seq vs.toArray }) (hi : IntsAre vs ns) (hl : ns.length ≤ 63) (hr : Room k callerA)
    (F : ∀ base : Heap, K.In base → base.Ns mainGlobals mg → (∀ p ∈ cs, LamX.TabB base mg p.1 p.2) → ∃ g : Gs, g.K = K ∧ FnG P w K mg base CX k fa fd [x] (spLT g (cs.map (·.2)))) (hbind : ∀ (s : Shared) (uu : Value), BindsTo s fd ⟨[uu], []⟩ [(x, uu)])
    (hCX : ∀ H e s', CX [] H s₁ (fun _ _ _ => False) e s' → False) :
    codeAny (model P w) callerA (.call (.ref fa) ⟨[.ref a], []⟩) (fun r s' => r = .ok (.ret (.bool true)) ∧ OldK s₁.heap s'.heap ∧ s'.os = s₁.os ∧ AllBare s'.gens) s₁ := by
  have rvs := vals_ints hi
  have lenVs := hi.length
  have l63 : ns.length ≤ sizeLine := Nat.le_trans hl (by decide)
  have tAt : ∀ b ∈ cs.map (·.2), s₁.heap.get? b = some { cls := .none, data := .fields #[] } := fun b hb => by
    obtain ⟨p, hp, rfl⟩ := List.mem_map.mp hb
    exact tE p hp
  have tLk : ∀ b ∈ cs.map (·.2), K.lookup b = Option.none := fun b hb => by
    obtain ⟨p, hp, rfl⟩ := List.mem_map.mp hb
    exact tK p hp
  have aT : a ∉ cs.map (·.2) := fun z => by
    have q := (tAt a z).symm.trans ha
    cases q
  -- the script is tracked, or one of the module's own
  obtain ⟨sc, hsc, hsq, hfz⟩ : ∃ sc : Option (Addr × HO), (∀ b o, sc = some (b, o) → b = a ∧ K.lookup a = Option.none ∧ ObjOk P w (topH (cs.map (·.2)) sc) s₁.heap a o) ∧ SqL K (topH (cs.map (·.2)) sc) a (ns.map V.int) ∧ (∀ b o, sc = some (b, o) → ∃ ob xs, o = .frz ob (.lst xs)) := by
    cases hk : K.lookup a with
    | some o =>
      have e := KX a o hk
      rw [ha] at e
      cases e
      exact ⟨Option.none, fun b o e => (nomatch e), .inr ⟨_, vs.toArray, _, hk, rfl, rfl, rfl, by rw [List.size_toArray, lenVs]; exact l63, by simpa using rvs⟩, fun b o e => (nomatch e)⟩
    | none =>
      refine ⟨some (a, .frz { cls := .type "list", data := .seq vs.toArray } (.lst (ns.map V.int))), fun b o e => ?_, .inl (.inr ⟨{ cls := .type "list", data := .seq vs.toArray }, ?_⟩), fun b o e => ?_⟩
      · cases e
        exact ⟨rfl, rfl, ha, by rw [List.length_map]; exact l63, vs, _, rvs, ha⟩
      · unfold topH; rw [if_neg aT]; simp
      · cases e; exact ⟨_, _, rfl⟩
  have hid : ∀ {b : Addr} {o : Obj}, s₁.heap.get? b = some o → o.data ≠ .fields #[] → (∀ us j, o.data ≠ .seq us j) → topH (cs.map (·.2)) sc b = Option.none := fun {b o} e n1 n2 => by
    cases q : topH (cs.map (·.2)) sc b with
    | none => rfl
    | some u =>
      rcases topH_cases q with ⟨z, _⟩ | ⟨_, z⟩
      · rw [tAt b z] at e; cases e; exact absurd rfl n1
      · obtain ⟨rfl, _⟩ := hsc _ _ z
        rw [ha] at e; cases e; exact absurd rfl (n2 _ _)
  have inB : ∀ {b : Addr} {o : Obj}, s₁.heap.get? b = some o → topH (cs.map (·.2)) sc b = Option.none → (hidT s₁.heap (topH (cs.map (·.2)) sc)).get? b = some o := fun e n => hidT_get e n
  have nsB : ∀ {b : Addr} {m : Str → Option Value}, s₁.heap.Ns b m → (hidT s₁.heap (topH (cs.map (·.2)) sc)).Ns b m := fun {b m} ⟨o, es, ep, e, d, r⟩ => ⟨o, es, ep, inB e (hid e (by rw [d]; exact fun z => (nomatch z)) (by rw [d]; exact fun us j z => (nomatch z))), d, r⟩
  have KB : K.In (hidT s₁.heap (topH (cs.map (·.2)) sc)) := fun b o e => inB (KX b o e) (by
    cases q : topH (cs.map (·.2)) sc b with
    | none => rfl
    | some u =>
      rcases topH_cases q with ⟨z, _⟩ | ⟨_, z⟩
      · rw [tLk b z] at e; cases e
      · obtain ⟨rfl, z2, _⟩ := hsc _ _ z
        rw [z2] at e; cases e)
  have MB : Mod K mg (hidT s₁.heap (topH (cs.map (·.2)) sc)) := ⟨KB, nsB gn, ⟨mb, nsB bn, bb⟩, let ⟨mc, h1, h2⟩ := lm; ⟨mc, nsB h1, h2⟩⟩
  have TB : ∀ p ∈ cs, LamX.TabB (hidT s₁.heap (topH (cs.map (·.2)) sc)) mg p.1 p.2 := fun p hp => by
    refine ⟨?_, ?_, fun z => ?_⟩
    · obtain ⟨o, us, fl, tf, fg, tg, inF, tx, tt, e1, r1, r2, r3, r⟩ := tC p hp
      refine ⟨o, us, fl, tf, fg, tg, inF, tx, tt, inB e1 (hid e1 (fun z => ?_) fun u j z => ?_), r1, r2, r3, r⟩
      · rw [r2] at z; cases z; simp at r3
      · rw [r2] at z; cases z
    · obtain ⟨bm, ob, b1, b2, b3, b4, b5, b6⟩ := mod
      refine ⟨bm, ob, b1, b2, fun q => ?_, fun q => ?_, inB b3 (hid b3 (by rw [b6]; exact fun z => (nomatch z)) (by rw [b6]; exact fun u j z => (nomatch z))), b4, b5, b6⟩
      · obtain ⟨o, es, ep, e, hd, _⟩ := gn
        rw [q, e] at b3; cases b3; rw [hd] at b6; cases b6
      · rw [q, tE p hp] at b3; cases b3; cases b6
    · obtain ⟨o, es, ep, e, hd, _⟩ := gn
      rw [z, tE p hp] at e; cases e; cases hd
  have hHO : HOk P w (topH (cs.map (·.2)) sc) s₁.heap := fun b u e => by
    rcases topH_cases e with ⟨z, rfl⟩ | ⟨_, z⟩
    · exact tAt b z
    · obtain ⟨rfl, _, r⟩ := hsc _ _ z
      exact r
  have env1 : Env0 P w K mg (hidT s₁.heap (topH (cs.map (·.2)) sc)) callerA [] s₁ (topH (cs.map (·.2)) sc) := ⟨rfl, MB, fun b o e => of_hidT e, Nat.le_of_eq (hidT_size _ _), trivial, fun b hb => absurd (show b ∈ ([] : List Addr) from hb) (by simp), hHO, .of_eq g0⟩
  obtain ⟨g, gK, hF⟩ := F _ KB (nsB gn) TB
  refine codeAny_mono (hF.run callerA [] s₁ _ ⟨[.ref a], []⟩ [.ref a] [.ref a] (fun v _ => v = .bl true) (fun _ _ _ => False) rfl hr env1 (hbind s₁ (.ref a)) (.cons rfl .nil) ⟨a, ns, sc, rfl, rfl, hfz, fun b o z => by obtain ⟨rfl, _⟩ := hsc _ _ z; exact aT, gK ▸ hsq, hl, fun _ => rfl⟩) fun r s' h => ?_
  cases r with
  | error e => exact (hCX _ e s' h).elim
  | ok fl =>
    cases fl with
    | next => exact False.elim h
    | brk => exact False.elim h
    | cont => exact False.elim h
    | ret uu =>
      obtain ⟨v, H', os, bar, unn, hHO', rr', qq⟩ := h
      have qq' : v = .bl true := qq
      subst qq'
      obtain rfl : uu = Value.bool true := rr'
      have gr : ∀ p ∈ cs, ∃ mo : Array Value, s'.heap.get? p.2 = some { cls := .none, data := .fields mo } := fun p hp => by
        obtain ⟨mo, z⟩ := unn.tbls p.2 #[] (topH_T (List.mem_map.mpr ⟨p, hp, rfl⟩))
        exact ⟨_, hHO' p.2 _ z⟩
      have stay : ∀ b o, b ∉ cs.map (·.2) → s₁.heap.get? b = some o → s'.heap.get? b = some o := fun b o nb e => by
        cases q : topH (cs.map (·.2)) sc b with
        | none => exact unn.keep b o e q (by intro zz; exact absurd (show b ∈ ([] : List Addr) from zz) (by simp)) (by simp)
        | some u =>
          rcases topH_cases q with ⟨z, _⟩ | ⟨_, z⟩
          · exact absurd z nb
          · obtain ⟨ob, xs, rfl⟩ := hfz _ _ z
            have z2 := unn.frzs b ob _ q
            obtain ⟨ee1, _⟩ := hHO b _ q
            obtain ⟨ee2, _⟩ := hHO' b _ z2
            rw [e] at ee1; cases ee1
            exact ee2
      refine ⟨rfl, ⟨fun b o e => ?_, fun b o e => ?_⟩, os, bar⟩
      · by_cases hb : b ∈ cs.map (·.2)
        · obtain ⟨p, hp, rfl⟩ := List.mem_map.mp hb
          obtain ⟨mo, hm⟩ := gr p hp
          rw [tE p hp] at e; cases e
          exact .inr (.inl ⟨((tC p hp).tab (tE p hp)).isCodeTable, rfl, #[], mo, rfl, by rw [Array.empty_append]; exact hm⟩)
        · exact .inl (stay b o hb e)
      · by_cases hb : b ∈ cs.map (·.2)
        · obtain ⟨p, hp, rfl⟩ := List.mem_map.mp hb
          obtain ⟨mo, hm⟩ := gr p hp
          exact ⟨_, hm⟩
        · exact ⟨o, stay b o hb e⟩
end Hf

set_option Elab.async false
set_option linter.all false
set_option maxRecDepth 100000
set_option maxHeartbeats 4000000
namespace Hf
open PySem PySem.Spec PyProof.Rows L2
@[simp] theorem z_mRaise (c : Nat) (σ : Sl) (B : Bs) : mRaise c σ B = .exc c Option.none B := (rfl)
@[simp] theorem z_fReprI (i : Int) (B : Bs) : fRepr (.int i) B = if decide (i.natAbs.log2 < 1920) then .ok (.str (PyData.shown (.int i))) B else .bad := (rfl)
@[simp] theorem z_fReprB (b : Bool) (B : Bs) : fRepr (.bool b) B = .ok (.str (PyData.shown (.bool b))) B := (rfl)
@[simp] theorem z_fReprN (B : Bs) : fRepr .none B = .ok (.str (PyData.shown .none)) B := (rfl)
@[simp] theorem z_fReprE (B : Bs) : fRepr (.dct [] []) B = .ok (.str (PyData.shown (.dict []))) B := (rfl)
@[simp] theorem z_fin_exc (c : Nat) (x : Option D) (B : Bs) : (Ss.exc c x B).fin = .exc c x B := (rfl)
@[simp] theorem z_bind_exc {α β : Type} (c : Nat) (x : Option D) (B : Bs) (f : α → Bs → Rs β) : (Rs.exc c x B : Rs α).bind f = .exc c x B := (rfl)
@[simp] theorem z_st_exc {α : Type} (c : Nat) (x : Option D) (B : Bs) (f : α → Bs → Ss) : (Rs.exc c x B : Rs α).st f = .exc c x B := (rfl)
@[simp] theorem z_seq_exc (c : Nat) (x : Option D) (B : Bs) (k : Ms) : (Ss.exc c x B).seq k = .exc c x B := (rfl)
end Hf

set_option Elab.async false
set_option linter.all false
set_option maxRecDepth 100000
set_option maxHeartbeats 4000000
namespace Hf
open PySem PySem.Spec PyProof.Rows L2

/-! ### f-strings -/
section
variable {g : Gs} {E : XK} {w0 w : Wd} {H0 H : Hp} {X : Cx} {e : Expr} {es : List Expr} {m : Ev} {pos p1 : Pos} {lv k c : Nat} {f : Fn} {σI : Sl} {σ : L2.St} {B : Bs} {Q : VK} {b1 : Bool}
/-! ### repr(x), also of an own instance -/
end
end Hf

set_option Elab.async false
set_option linter.all false
set_option maxRecDepth 100000
set_option maxHeartbeats 4000000
namespace Hf
open PySem PySem.Spec PyProof.Rows L2
section
variable {g : Gs} {E : XK} {H0 : Hp} {X : Cx} {a b : Expr} {ma mb : Ev} {pos p p2 p3 : Pos} {b1 b2 : Bool}
variable {lv k c : Nat} {x : Str} {f : Fn}
end
end Hf

set_option Elab.async false
set_option linter.all false
set_option maxRecDepth 100000
set_option maxHeartbeats 4000000
namespace Hf
open PySem PySem.Spec PyProof.Rows L2
/-! ### data with empty dicts inside, read -/
mutual
def rdB : D → Bool
  | .none => true
  | .bool _ => true
  | .int _ => true
  | .str _ => true
  | .tup ds => rdBs ds
  | .lst ds => rdBs ds
  | .dct ks vs => ks.isEmpty && vs.isEmpty
  | .kd _ _ => true
  | _ => false
def rdBs : List D → Bool
  | [] => true
  | d :: ds => rdB d && rdBs ds
end
mutual
/-- no list inside -/
def noL : D → Bool
  | .lst _ => false
  | .tup ds => noLs ds
  | _ => true
def noLs : List D → Bool
  | [] => true
  | d :: ds => noL d && noLs ds
end
section
variable {g : Gs} {w : Wd} {H : Hp} {X : Cx} {pins : List (Addr × Obj)} {σ : L2.St} {s : Shared}
mutual
theorem Rep.reads (I : Inv X pins σ H s) (hK : X.K = g.K) (hs : Same w.P H) : ∀ (d : D) (v : V) (u : Value), rdB d = true → Rep g w d v → RelV v u → ∃ as, Reads s.heap u (toPy d) as ∧ (noL d = true → sysModules ∉ as)
  | .none, v, u, _, h, r => by simp only [Rep] at h; subst h; cases r; exact ⟨_, .none, fun _ => by simp⟩
  | .bool b, v, u, _, h, r => by simp only [Rep] at h; subst h; cases r; exact ⟨_, .bool b, fun _ => by simp⟩
  | .int b, v, u, _, h, r => by simp only [Rep] at h; subst h; obtain ⟨t, rfl⟩ := r; exact ⟨_, .int b t, fun _ => by simp⟩
  | .str b, v, u, _, h, r => by simp only [Rep] at h; subst h; obtain ⟨t, rfl⟩ := r; exact ⟨_, .str b t, fun _ => by simp⟩
  | .tup ds, v, u, c, h, r => by
    simp only [Rep] at h
    obtain ⟨a, vs, rfl, q, rr⟩ := h
    cases r
    obtain ⟨its, rv, ⟨o, ho, hc, n, hd⟩, _⟩ := I.tuple (hK ▸ sqT_mono hs q.T)
    obtain ⟨as, hr, hn⟩ := Reps.reads I hK hs ds vs its (by simpa only [rdB] using c) rr rv
    exact ⟨_, by simp only [toPy]; exact Reads.tuple ho hc hd hr, fun z => hn (by simpa only [noL] using z)⟩
  | .lst ds, v, u, c, h, r => by
    simp only [Rep] at h
    obtain ⟨a, vs, rfl, q, rr⟩ := h
    cases r
    obtain ⟨its, rv, ⟨o, n, ho, hc, _, hd⟩, _⟩ := I.list (hK ▸ (.inl (.inl (hs _ _ q)) : SqL g.K H a vs))
    obtain ⟨as, hr, hn⟩ := Reps.reads I hK hs ds vs its (by simpa only [rdB] using c) rr rv
    exact ⟨_, by simp only [toPy]; exact Reads.list ho hc hd hr, fun z => by simp only [noL] at z; cases z⟩
  | .dct ks ds, v, u, c, h, r => by
    simp only [rdB, Bool.and_eq_true, List.isEmpty_iff] at c
    obtain ⟨rfl, rfl⟩ := c
    simp only [Rep] at h
    obtain ⟨a, xs, rfl, q, e, _, _⟩ := h
    cases r
    have hx : xs = [] := by
      cases xs with
      | nil => rfl
      | cons _ _ => simp at e
    subst hx
    obtain ⟨⟨hsm, _, _, _, ys, hp, o, es, ep, ho, hx, hd, he⟩, _, _⟩ := I.hok a _ (hs _ _ q)
    cases hp
    have hes : es.toList = [] := he
    exact ⟨_, by simp only [toPy]; exact Reads.dict ho hx.1 hd (by rw [hes]; exact .nil) (by rw [hes]; exact .nil), fun _ z => by
      simp at z
      subst z
      simp at hsm⟩
  | .scr ds, v, u, c, h, r => by cases c
  | .prs ds, v, u, c, h, r => by cases c
  | .inst k ds, v, u, c, h, r => by cases c
  | .box n, v, u, c, h, r => by cases c
  | .cls n, v, u, c, h, r => by cases c
  | .ptr n, v, u, c, h, r => by cases c
  | .fnT n, v, u, c, h, r => by cases c
  | .exo a dd f x, v, u, c, h, r => by cases c
  | .exn k ds, v, u, c, h, r => by cases c
  | .kd k x, v, u, c, h, r => by
    simp only [Rep] at h
    obtain ⟨a, rfl, q⟩ := h
    cases r
    obtain ⟨_, hsm, vs, rv, o, es, ep, ho, hx, hd, hk, hp, _⟩ := dk_of I.hok (hs _ _ q)
    cases rv with
    | @cons p0 q0 ps qs h1 h2 =>
      cases h2
      obtain ⟨kk, vv⟩ := q0
      obtain ⟨h3, h4⟩ := h1
      simp only at h3 h4
      subst h3
      obtain ⟨tv, rfl⟩ := h4
      generalize hes : es.toList = el at hp
      cases hp with
      | cons g1 g2 g3 =>
        cases g3
        rename_i en
        obtain ⟨tk, ek⟩ := Value.isInt_shape (k := k) (v := en.key) g1
        refine ⟨_, by simp only [toPy]; exact Reads.dict ho hx.1 hd (as := [] ++ []) (bs := [] ++ []) (by rw [hes]; simp only [List.map_cons, List.map_nil, ek]; exact .cons (.int k tk) .nil) (by rw [hes]; simp only [List.map_cons, List.map_nil, g2]; exact .cons (.int x tv) .nil), fun _ z => ?_⟩
        simp at z
        subst z
        simp at hsm
theorem Reps.reads (I : Inv X pins σ H s) (hK : X.K = g.K) (hs : Same w.P H) : ∀ (ds : List D) (vs : List V) (us : List Value), rdBs ds = true → Reps g w ds vs → Vals vs us → ∃ as, ReadsAll s.heap us (toPys ds) as ∧ (noLs ds = true → sysModules ∉ as)
  | [], vs, us, _, h, r => by simp only [Reps] at h; subst h; cases r; exact ⟨_, .nil, fun _ => by simp⟩
  | d :: ds, vs, us, c, h, r => by
    simp only [Reps] at h
    obtain ⟨v, vt, rfl, h1, h2⟩ := h
    simp only [rdBs, Bool.and_eq_true] at c
    cases r with
    | cons r1 r2 =>
      obtain ⟨as, q1, n1⟩ := Rep.reads I hK hs d v _ c.1 h1 r1
      obtain ⟨bs, q2, n2⟩ := Reps.reads I hK hs ds vt _ c.2 h2 r2
      exact ⟨_, by simp only [toPys]; exact .cons q1 q2, fun c z => by
        simp only [noLs, Bool.and_eq_true] at c
        exact (List.mem_append.mp z).elim (n1 c.1) (n2 c.2)⟩
end
end
end Hf

set_option Elab.async false
set_option linter.all false
set_option maxRecDepth 100000
set_option maxHeartbeats 4000000
namespace Hf
open PySem PySem.Spec PyProof.Rows L2
/-! ### own == and the != that comes of it -/
section
variable {prog : Program} {w : World} {A : Around} {E : Value → Shared → Prop} {s : Shared} {K : PySem.W.Frag} {x C f : Addr} {ox : Obj} {od : Option Obj} {b tb : Value}
end
end Hf

set_option Elab.async false
set_option linter.all false
set_option maxRecDepth 100000
set_option maxHeartbeats 4000000
namespace Hf
open PySem PySem.Spec PyProof.Rows L2
/-! ### the class of data -/
def tyB (c : Nat) : D → Bool
  | .none => true
  | .bool _ => true
  | .int _ => true
  | .str _ => true
  | .tup _ => true
  | .prs _ => true
  | .lst _ => true
  | .scr _ => true
  | .dct _ _ => true
  | .kd _ _ => true
  | .inst c' _ => c' == c || !subC c' c
  | _ => false
structure EqN (g : Gs) (k c : Nat) (f : Fn) : Prop where
  d : DunF g k c "__eq__" f
  ne : PySem.W.findIn g.K (.ref (g.cl c)) "__ne__" = some (some (.builtin "object.__ne__"))
  oth : ∀ c', g.has c' = true → c' ≠ c → subC c' c = false → PySem.W.mroIn g.K (g.cl c') (.ref (g.cl c)) = some false
  nT : ∀ T ∈ ["NoneType", "int", "bool", "str", "list", "tuple", "dict"], PySem.W.mroIn g.K (g.cl c) (.type T) = some false
theorem nf_T {K : PySem.W.Frag} {C : Addr} {T : String} {l : List Value} (e : fastBuiltinMro T = some l) (h : ∀ x ∈ l, ∃ n, x = .type n) : PySem.W.notFirst K C (.type T) = true := by
  have e2 : PySem.W.subIn K (.type T) (.ref C) = some false := by
    show (fastBuiltinMro T).map (·.contains (.ref C)) = some false
    rw [e]
    have : l.contains (.ref C) = false := by
      cases q : l.contains (Value.ref C) with
      | false => rfl
      | true =>
        obtain ⟨n, z⟩ := h _ (List.contains_iff_mem.mp q)
        cases z
    simp only [Option.map_some, this]
  unfold PySem.W.notFirst
  rw [e2]
  simp
theorem nf_none {K : PySem.W.Frag} {C : Addr} : PySem.W.notFirst K C (.type "NoneType") = true := nf_T (l := [.type "NoneType", .type "object"]) (by decide +kernel) (by simp)
theorem nf_bool {K : PySem.W.Frag} {C : Addr} : PySem.W.notFirst K C (.type "bool") = true := nf_T (l := [.type "bool", .type "int", .type "object"]) (by decide +kernel) (by simp)
theorem nf_int {K : PySem.W.Frag} {C : Addr} : PySem.W.notFirst K C (.type "int") = true := nf_T (l := [.type "int", .type "object"]) (by decide +kernel) (by simp)
theorem nf_str {K : PySem.W.Frag} {C : Addr} : PySem.W.notFirst K C (.type "str") = true := nf_T (l := [.type "str", .type "object"]) (by decide +kernel) (by simp)
theorem nf_tuple {K : PySem.W.Frag} {C : Addr} : PySem.W.notFirst K C (.type "tuple") = true := nf_T (l := [.type "tuple", .type "object"]) (by decide +kernel) (by simp)
theorem nf_list {K : PySem.W.Frag} {C : Addr} : PySem.W.notFirst K C (.type "list") = true := nf_T (l := [.type "list", .type "object"]) (by decide +kernel) (by simp)
theorem nf_dict {K : PySem.W.Frag} {C : Addr} : PySem.W.notFirst K C (.type "dict") = true := nf_T (l := [.type "dict", .type "object"]) (by decide +kernel) (by simp)
section
variable {g : Gs} {w : Wd} {H : Hp} {X : Cx} {pins : List (Addr × Obj)} {σ : L2.St} {s : Shared} {k c lv : Nat} {f : Fn} {E : XK}
theorem Rep.ty (I : Inv X pins σ H s) (hK : X.K = g.K) (hs : Same w.P H) (N : EqN g k c f) : ∀ (d : D) (v : V) (u : Value), tyB c d = true → Rep g w d v → RelV v u → ∃ tb, PySem.W.Looks (model X.prog X.w) s.heap (typeOf u) tb ∧ PySem.W.notFirst X.K (g.cl c) tb = true
  | .none, v, u, _, h, r => by simp only [Rep] at h; subst h; cases r; exact ⟨.type "NoneType", .of_pure rfl, nf_none⟩
  | .bool b, v, u, _, h, r => by simp only [Rep] at h; subst h; cases r; exact ⟨.type "bool", .of_pure rfl, nf_bool⟩
  | .int b, v, u, _, h, r => by simp only [Rep] at h; subst h; obtain ⟨t, rfl⟩ := r; exact ⟨.type "int", .of_pure rfl, nf_int⟩
  | .str b, v, u, _, h, r => by simp only [Rep] at h; subst h; obtain ⟨t, rfl⟩ := r; exact ⟨.type "str", .of_pure rfl, nf_str⟩
  | .tup ds, v, u, _, h, r => by
    simp only [Rep] at h
    obtain ⟨a, vs, rfl, q, rr⟩ := h
    cases r
    obtain ⟨its, rv, ⟨o, ho, hc, n, hd⟩, _⟩ := I.tuple (hK ▸ sqT_mono hs q.T)
    exact ⟨.type "tuple", hc ▸ (PySem.W.Looks.ld ho).andThen .now, nf_tuple⟩
  | .prs ds, v, u, _, h, r => by
    simp only [Rep] at h
    obtain ⟨a, vs, rfl, q, rr⟩ := h
    cases r
    obtain ⟨its, rv, ⟨o, ho, hc, n, hd⟩, _⟩ := I.tuple (hK ▸ sqT_mono hs q)
    exact ⟨.type "tuple", hc ▸ (PySem.W.Looks.ld ho).andThen .now, nf_tuple⟩
  | .lst ds, v, u, _, h, r => by
    simp only [Rep] at h
    obtain ⟨a, vs, rfl, q, rr⟩ := h
    cases r
    obtain ⟨its, rv, ⟨o, n, ho, hc, _, hd⟩, _⟩ := I.list (hK ▸ (.inl (.inl (hs _ _ q)) : SqL g.K H a vs))
    exact ⟨.type "list", hc ▸ (PySem.W.Looks.ld ho).andThen .now, nf_list⟩
  | .scr ds, v, u, _, h, r => by
    simp only [Rep] at h
    obtain ⟨a, vs, rfl, q, rr⟩ := h
    cases r
    obtain ⟨its, rv, ⟨o, n, ho, hc, _, hd⟩, _⟩ := I.list (hK ▸ hs.seq q)
    exact ⟨.type "list", hc ▸ (PySem.W.Looks.ld ho).andThen .now, nf_list⟩
  | .dct ks ds, v, u, _, h, r => by
    simp only [Rep] at h
    obtain ⟨a, xs, rfl, q, e, _, _⟩ := h
    cases r
    obtain ⟨⟨_, _, _, _, ys, hp, o, es, ep, ho, hx, hd, he⟩, _, _⟩ := I.hok a _ (hs _ _ q)
    exact ⟨.type "dict", hx.1 ▸ (PySem.W.Looks.ld ho).andThen .now, nf_dict⟩
  | .inst c' ds, v, u, ht, h, r => by
    simp only [Rep] at h
    obtain ⟨a, dx, vs, rfl, q, _, hh, _⟩ := h
    cases r
    obtain ⟨od, J⟩ := inst_at I (hs _ _ q)
    refine ⟨.ref (g.cl c'), J.type, ?_⟩
    simp only [tyB, Bool.or_eq_true, beq_iff_eq, Bool.not_eq_true'] at ht
    unfold PySem.W.notFirst
    by_cases hc : c' = c
    · subst hc; simp
    · rcases ht with ht | ht
      · exact absurd ht hc
      · rw [hK]
        show (_ || PySem.W.mroIn g.K (g.cl c') (.ref (g.cl c)) == some false) = true
        rw [N.oth c' hh hc ht]
        simp
  | .box n, v, u, h, _, _ => by cases h
  | .cls n, v, u, h, _, _ => by cases h
  | .ptr n, v, u, h, _, _ => by cases h
  | .fnT n, v, u, h, _, _ => by cases h
  | .exo a dd f x, v, u, h, _, _ => by cases h
  | .exn k ds, v, u, h, _, _ => by cases h
  | .kd k x, v, u, _, h, r => by
    simp only [Rep] at h
    obtain ⟨a, rfl, q⟩ := h
    cases r
    obtain ⟨_, hsm, vs, rv, o, es, ep, ho, hx, hd, _⟩ := dk_of I.hok (hs _ _ q)
    exact ⟨.type "dict", hx.1 ▸ (PySem.W.Looks.ld ho).andThen .now, nf_dict⟩
variable {H0 : Hp} {ma mb : Ev} {a b : Expr} {pos : Pos}
end
end Hf

set_option Elab.async false
set_option linter.all false
set_option maxRecDepth 100000
set_option maxHeartbeats 4000000
namespace Hf
open PySem PySem.Spec PyProof.Rows L2
section
variable {g : Gs} {E : XK} {H0 : Hp} {X : Cx} {p1 p2 pos : Pos} {j1 j2 : Nat} {k x : Int}
end
end Hf

set_option Elab.async false
set_option linter.all false
set_option maxRecDepth 100000
set_option maxHeartbeats 4000000
namespace Hf
open PySem PySem.Spec PyProof.Rows L2
open Builtin Sem
/-! ### data beside an instance: the built-in == and != decline -/
end Hf

set_option Elab.async false
set_option linter.all false
set_option maxRecDepth 100000
set_option maxHeartbeats 4000000
namespace Hf
open PySem PySem.Spec PyProof.Rows L2 Builtin Sem
/-! ### data == an instance with its own == -/
section
variable {prog : Program} {w : World} {A : Around} {E : Value → Shared → Prop} {s : Shared} {K : PySem.W.Frag} {x C f : Addr} {ox : Obj} {od : Option Obj} {u : Value} {T : String}
end
section
variable {P : Program} {W : World} {K : PySem.W.Frag} {C q : Addr} {s : Shared} {d2 : Option Addr} {sl2 : Array (Option Value)}
end
end Hf

set_option Elab.async false
set_option linter.all false
set_option maxRecDepth 100000
set_option maxHeartbeats 4000000
namespace Hf
open PySem PySem.Spec PyProof.Rows L2
section
variable {g : Gs} {w : Wd} {H : Hp} {X : Cx} {pins : List (Addr × Obj)} {σ : L2.St} {s : Shared} {k c lv : Nat} {f : Fn} {E : XK}
variable {H0 : Hp} {neg : Bool → Bool} {dflt : D → D → Bs → Rs D} {r2 : R2}
variable {ma mb : Ev} {a b : Expr} {pos : Pos} {k2 c2 : Nat} {f2 : Fn}
end
end Hf

set_option Elab.async false
set_option linter.all false
set_option maxRecDepth 100000
set_option maxHeartbeats 4000000
namespace Hf
open PySem PySem.Spec PyProof.Rows L2 PySem.SeqAt
open AutoSeq1 (wpAny_loadPart')
open MeetsSeq MeetsSeq2 MeetsSeq3 SeqRoads2
/-! ### == of two tuples whose items are compared by running code -/
section
variable {pg : Program} {wd : World} {ar : Around} {Z : Result → Shared → Prop}
end
section
variable {pg : Program} {wd : World} {ar : Around} {E : Value → Shared → Prop} {t : Shared}
end
section
variable {g : Gs} {w : Wd} {H : Hp} {X : Cx} {pins : List (Addr × Obj)} {σ : L2.St} {s : Shared} {k c lv : Nat} {f : Fn} {E : XK}
end
end Hf

set_option Elab.async false
set_option linter.all false
set_option maxRecDepth 100000
set_option maxHeartbeats 4000000
namespace Hf
open PySem PySem.Spec PyProof.Rows L2
section
variable {g : Gs} {w : Wd} {H H0 : Hp} {X : Cx} {σ : L2.St} {k c lv : Nat} {f : Fn} {E : XK}
variable {ma mb : Ev} {a b : Expr} {pos : Pos}
end
end Hf

set_option Elab.async false
set_option linter.all false
set_option maxRecDepth 100000
set_option maxHeartbeats 4000000
namespace Hf
open PySem PySem.Spec PyProof.Rows L2
/-! ### one expression, several classes of what it asks -/
section
variable {g : Gs} {E : XK} {w0 w : Wd} {H0 H : Hp} {X : Cx} {o e : Expr} {m M me mo : Ev} {r : List (Nat × Ev)} {c : Nat} {bo b1 b2 : Bool} {pos apos cpos : Pos}
/-! ### methods of a list in a box, whatever expression the box is -/
end
end Hf

set_option Elab.async false
set_option linter.all false
set_option maxRecDepth 100000
set_option maxHeartbeats 4000000
namespace Hf
open PySem PySem.Spec PyProof.Rows L2
/-! ### a constant of a class, read at an instance -/
section
variable {g : Gs} {E : XK} {w : Wd} {H0 H : Hp} {X : Cx} {e : Expr} {m : Ev} {c lv : Nat} {bo : Bool} {pos : Pos} {n : Str} {d : D}
end
end Hf

set_option Elab.async false
set_option linter.all false
set_option maxRecDepth 100000
set_option maxHeartbeats 4000000
namespace Hf
open PySem PySem.Spec PyProof.Rows L2
/-! ### s.strip(signs) -/
section
variable {g : Gs} {E : XK} {w : Wd} {H0 H : Hp} {X : Cx} {o e : Expr} {mo me : Ev} {b1 b2 : Bool} {apos pos : Pos}
end
end Hf

set_option Elab.async false
set_option linter.all false
set_option maxRecDepth 100000
set_option maxHeartbeats 4000000
namespace Hf
open PySem PySem.Spec PyProof.Rows L2 PySem.Froz
/-! ### len(set(xs)), xs a list of texts -/
section
variable {P : Program} {w : World} {A : Around} {E : Value → Shared → Prop} {s : Shared}
end
/-- the texts of the first i of ks, each once -/
structure Gx (ks : List Str) (i : Nat) (l : List Str) : Prop where
  mem : ∀ k, k ∈ l ↔ k ∈ ks.take i
  nd : l.Nodup
  len : l.length ≤ i
theorem Gx.zero (ks : List Str) : Gx ks 0 [] := ⟨fun k => by simp, List.nodup_nil, Nat.le_refl _⟩
theorem Gx.next {ks l l' : List Str} {i : Nat} {k : Str} (g : Gx ks i l) (h : ks[i]? = some k) (c : (k ∈ l ∧ l' = l) ∨ (k ∉ l ∧ l' = k :: l)) : Gx ks (i + 1) l' := by
  have ht : ks.take (i + 1) = ks.take i ++ [k] := by rw [List.take_succ, h]; rfl
  rcases c with ⟨c, rfl⟩ | ⟨c, rfl⟩
  · refine ⟨fun x => ?_, g.nd, Nat.le_succ_of_le g.len⟩
    rw [ht, List.mem_append, ← g.mem, List.mem_singleton]
    exact ⟨.inl, fun z => z.elim id fun e => e ▸ c⟩
  · refine ⟨fun x => ?_, List.nodup_cons.mpr ⟨c, g.nd⟩, by rw [List.length_cons]; exact Nat.succ_le_succ g.len⟩
    rw [ht, List.mem_append, ← g.mem, List.mem_singleton, List.mem_cons]
    exact or_comm
section
variable {P : Program} {w : World} {A : Around} {E : Value → Shared → Prop} {s : Shared}
end
section
variable {g : Gs} {E : XK} {H0 : Hp} {X : Cx} {e : Expr} {m : Ev} {b1 : Bool} {p p2 q pos : Pos}
end
end Hf

set_option Elab.async false
set_option linter.all false
set_option maxRecDepth 100000
set_option maxHeartbeats 4000000
namespace Hf
open PySem PySem.Spec PyProof.Rows L2
/-! ### a lambda with parameters that captures nothing: a value -/
section
variable {X : Cx} {pins : List (Addr × Obj)} {σ : L2.St} {H : Hp} {s : Shared}
end
section
variable {g : Gs} {E : XK} {w0 w : Wd} {H0 H : Hp} {X : Cx} {e : Expr} {es : List Expr} {ms : Evs} {pos p p1 p2 lp : Pos} {x : Str} {lv k i : Nat} {k0 P : Addr} {prm : Arguments} {bd : Expr} {sc : Scope} {ps : List Str}
/-- the names of a lambda that captures y -/
structure LamPC (sc : Scope) (y : Str) (ps : List Str) : Prop where
  kind : sc.kind = .function
  co : sc.isCoroutine = false
  gen : sc.isGenerator = false
  nc : ∀ z ∈ sc.names, z.2 ≠ .cell
  par : ∀ x ∈ ps, sc.names.lookup x = some .local
  fr : ∀ z ∈ sc.names, z.2 = .free → z.1 = y
  yf : sc.names.lookup y = some .free
  nd : ps.Nodup
/-- the context of a lambda that captured y -/
abbrev lamCE (q : Str) (sc : Scope) (L f ca : Addr) (y : Str) (cell : Addr) : Env := PySem.W.envX q sc L f (.ref ca) [(y, cell)]
def lamCC (P : Program) (w : World) (K : PySem.W.Frag) (mg : Str → Option Value) (base : Heap) (N : List Str) (q : Str) (sc : Scope) (f ca : Addr) (y : Str) (cell : Addr) (A : Around) (outer : List Env) (s : Shared) (H : Hp) (E : XK) : Cx where
  prog := P
  w := w
  K := K
  mg := mg
  base := base
  A := A.deeper (lamCE q sc s.heap.objs.size f ca y cell)
  N := N
  s_0 := s
  H_0 := H
  env := lamCE q sc s.heap.objs.size f ca y cell
  outer := outer
  stack := lamCE q sc s.heap.objs.size f ca y cell :: outer
  ex := []
  fn := fun _ => false
  calm := true
  pn := []
  xe := fun e s' => wpAny (model P w) (A.deeper (lamCE q sc s.heap.objs.size f ca y cell)) (leaving (lamCE q sc s.heap.objs.size f ca y cell) e) (fun _ s2 => L2N.CX P w outer H s E e s2) (fun e' s2 => L2N.CX P w outer H s E e' s2) s'
theorem lk_one {y x : Str} {c b : Addr} (h : [(y, c)].lookup x = some b) : x = y ∧ b = c := by
  simp only [List.lookup] at h
  split at h
  · rename_i e
    exact ⟨by simpa using e, (Option.some.inj h).symm⟩
  · cases h
theorem lk_mem {α β : Type} [BEq α] [LawfulBEq α] {a : α} {b : β} : ∀ {l : List (α × β)}, (l.map (·.1)).Nodup → (a, b) ∈ l → l.lookup a = some b
  | [], _, h => by cases h
  | (x, z) :: l, n, h => by
    simp only [List.map_cons] at n
    obtain ⟨n1, n2⟩ := List.nodup_cons.mp n
    rcases List.mem_cons.mp h with h | h
    · cases h; simp [List.lookup]
    · have hne : a ≠ x := fun e => n1 (e ▸ List.mem_map_of_mem h)
      simp only [List.lookup]
      rw [show (a == x) = false from beq_eq_false_iff_ne.mpr hne]
      exact lk_mem n2 h
theorem lamc_start {P : Program} {w : World} {K : PySem.W.Frag} {mg : Str → Option Value} {base : Heap} {ps : List Str} {q y : Str} {sc : Scope} {f ca cell : Addr} {A : Around} {outer : List Env} {s : Shared} {H : Hp} {E : XK} {us : List Value} {vs : List V} {v : V} {u : Value} {oc : Obj} {h₁ : Heap} {tk : Nat}
    (L : LamPC sc y ps) (hd : A.handled = none) (e0 : Env0 P w K mg base A outer s H) (hc : base.get? cell = some oc) (hcd : oc.data = .cell (some u)) (ru : RelV v u) (r : Vals vs us) (hl : vs.length = ps.length)
    (hns : h₁.Ns s.heap.objs.size fun z => (ps.zip us).reverse.lookup z) (kp : ∀ b o, s.heap.get? b = some o → h₁.get? b = some o) :
    Inv (lamCC P w K mg base (y :: ps) q sc f ca y cell A outer s H E) [] (some v :: vs.map some) H { s with heap := h₁, toks := tk } := by
  have noA : ∀ b : Addr, b ∉ (lamCC P w K mg base (y :: ps) q sc f ca y cell A outer s H E).ex := fun b z => absurd (show b ∈ ([] : List Addr) from z) (by simp)
  have hc2 := e0.bs _ _ hc
  refine ⟨⟨e0.mod, L.kind, rfl, rfl, Nat.le_refl _, fun x z c h1 h2 => (lk_one h1).1.trans (lk_one h2).1.symm, fun x hx => ?_, fun x c z _ => absurd z (by show ¬ (false = true); decide), fun _ => hd, Around.frames_deeper e0.frames, .inr ⟨rfl, rfl⟩, fun b z => absurd z (noA b), e0.bs, e0.bsz, fun b _ _ => noA b, fun b z => absurd z (noA b), e0.funs, e0.frf⟩,
    rfl, e0.bare, Un.kept kp, ⟨_, hns, fun i z v' h1 h2 h3 => ?_⟩, fun x c h => ?_, e0.hok.fresh (Nat.le_refl _), fun x c h => ?_, fun p hp => absurd (show p ∈ ([] : List (Addr × Obj)) from hp) (by simp), e0.hok.kept kp, ?_⟩
  · have hx : sc.names.lookup x = some .cell ∨ sc.names.lookup x = some .free := hx
    rcases hx with hx | hx
    · exact absurd rfl (L.nc _ (PySem.mem_of_lookup hx))
    · have e := L.fr _ (PySem.mem_of_lookup hx) rfl
      simp only at e
      subst e
      exact ⟨cell, by show [(x, cell)].lookup x = _; simp [List.lookup]⟩
  · match i, h1, h2 with
    | 0, h1, h2 =>
      cases h1; cases h2
      exact ⟨u, ru, .inr ⟨.inr L.yf, cell, by show [(y, cell)].lookup y = _; simp [List.lookup], oc, kp _ _ hc2.1, hcd⟩⟩
    | j + 1, h1, h2 =>
      have h1 : ps[j]? = some z := h1
      have h2 : (vs.map some)[j]? = some (some v') := h2
      have hv : vs[j]? = some v' := by
        rw [List.getElem?_map] at h2
        cases e : vs[j]? with
        | none => rw [e] at h2; cases h2
        | some a => rw [e] at h2; cases h2; rfl
      obtain ⟨u', hu, rv⟩ := r.get hv
      refine ⟨u', rv, .inl ⟨L.par z (List.mem_of_getElem? h1), ?_⟩⟩
      refine lk_mem ?_ (List.mem_reverse.mpr (List.mem_of_getElem? (i := j) (by rw [List.getElem?_zip_eq_some]; exact ⟨h1, hu⟩)))
      rw [List.map_reverse, List.map_fst_zip (by rw [← hl, Paired.length r]; exact Nat.le_refl _)]
      exact (List.reverse_perm ps).nodup_iff.mpr L.nd
  · obtain ⟨_, rfl⟩ := lk_one h
    exact ⟨_, oc, kp _ _ hc2.1, hcd⟩
  · obtain ⟨_, rfl⟩ := lk_one h
    exact hc2.2
  · show (some v :: vs.map some).length = (y :: ps).length
    simp [hl]
end
end Hf

set_option Elab.async false
set_option linter.all false
set_option maxRecDepth 100000
set_option maxHeartbeats 4000000
namespace Hf
open PySem PySem.Spec PyProof.Rows L2
/-! ### sorted of rows of numbers -/
section
variable {X : Cx} {pins : List (Addr × Obj)} {σ : L2.St} {H : Hp} {s : Shared}
end
section
variable {g : Gs} {E : XK} {w0 w : Wd} {H0 H : Hp} {X : Cx} {e : Expr} {m : Ev} {pos p1 : Pos} {bo b1 : Bool}
end
/-! ### x = n.pop(), n a name's own list -/
section
variable {g : Gs} {E : XK} {w0 : Wd} {H0 : Hp} {X : Cx} {pos p1 p2 apos cpos : Pos} {x y : Str} {i j : Nat}
end
/-! ### a, b = [..], [..]: both are own containers -/
section
variable {g : Gs} {E : XK} {w0 : Wd} {H0 : Hp} {X : Cx} {a b : Expr} {ma mb : Ev} {pos : Pos} {lv k : Nat}
theorem OkC.mono (c : OkC g E lv X) (h : k ≤ lv) : OkC g E k X := ⟨c.toOk, c.room.mono h, c.hx⟩
end
/-! ### where the lambdas of a text stand -/
def noE : Expr := .Constant .none 0 ⟨0, 0, 0, 0⟩
/-! ### a def that holds lambdas, no repr asked -/
end Hf

set_option Elab.async false
set_option linter.all false
set_option maxRecDepth 100000
set_option maxHeartbeats 4000000
namespace Hf
open PySem PySem.Spec PyProof.Rows L2
/-! ### a lambda that captures one name, handed to a def: f(a, b, lambda ..: ..) -/
abbrev gC (g : Gs) (b : Heap) (l : Nat → LamD) : Gs := { g with base := b, lmd := l }
section
variable {g : Gs} {b : Heap} {l : Nat → LamD} {w : Wd}
end
section
variable {g : Gs} {E : XK} {w0 w : Wd} {H0 H : Hp} {X : Cx} {a b : Expr} {ma mb : Ev} {pos p lp : Pos} {x y : Str} {lv k j kk : Nat} {k0 P : Addr} {prm : Arguments} {bd : Expr} {sc : Scope} {f : (Nat → Fn) → Fn} {F : D → Nat → Fn}
end
end Hf

set_option Elab.async false
set_option linter.all false
set_option maxRecDepth 100000
set_option maxHeartbeats 4000000
namespace Hf
open PySem PySem.Spec PyProof.Rows L2
/-! ### zip of three -/
section
variable {X : Cx} {e e2 e3 : Expr} {ta tb tc : TE} {p pos tpos : Pos} {elts : List Expr} {kk : Nat}
end
section
variable {g : Gs} {E : XK} {H0 : Hp} {w : Wd} {X : Cx} {a b c : Expr} {ma mb mc : Ev} {p pos tpos : Pos} {elts : List Expr} {kk : Nat}
end
/-! ### where the lambdas of a text stand (more) -/
end Hf

set_option Elab.async false
set_option linter.all false
set_option maxRecDepth 100000
namespace Hf
open PySem PySem.Spec PyProof.Rows L2

/-! ### d > e, d >= e of tuples that are alike -/
/-! ### own == and != as tests -/
section
variable {g : Gs} {E : XK} {H0 : Hp} {X : Cx} {a b : Expr} {ma mb : Ev} {pos : Pos} {lv k c : Nat} {f : Fn}
end
end Hf

set_option Elab.async false
set_option linter.all false
set_option maxRecDepth 100000
set_option maxHeartbeats 4000000
namespace Hf
open PySem PySem.Spec PyProof.Rows L2

/-! ### an own exception's __init__: super().__init__('..'); self.f = p -/
/-- the text -/
structure InitS (st : Stmt) (p f : Str) : Prop where
  nm : LamPC (defScope st) "__class__" ["self", p]
  su : (defScope st).names.lookup ("super" : Str) = some NameKind.globalImplicit
  hp : ((defArgs st).posonlyargs ++ (defArgs st).args).head?.map (·.arg) = some ("self" : Str)
  pd : (p == ("__debug__" : Str)) = false ∧ (p == ("__classdict__" : Str)) = false
  body : ∃ (p1 p2 p3 p4 p5 p6 p7 p8 p9 p10 : Pos) (t : Str) (j : Nat), (p3.endLine == p5.line) = true ∧ defBody st = [.Expr (.Call (.Attribute (.Call (.Name "super" p1) [] [] p2) "__init__" p3) [.Constant (.str t) j p4] [] p5) p6,
    .Assign [.Attribute (.Name "self" p7) f p8] (.Name p p9) p10]
/-- the def's object, its class's cell -/
structure InitK (K : PySem.W.Frag) (C fI cc : Addr) (st : Stmt) (qual : Str) (file : Str) (fd : FuncData) : Prop where
  ex : ∃ oc od dV kV doc pm an ca ct osl, fd = PySem.W.fnX "__init__" qual (defArgs st) (defBody st) (defScope st) [("__class__", cc)] dV kV doc pm an (.ref ca) ct ∧ K.lookup fI = some ⟨oc, od, .func fd, osl⟩ ∧ PySem.W.codeIn K (.ref ca) qual = true ∧
    ∃ ccl cdd vs ccs tf, K.lookup ca = some ⟨ccl, cdd, .fields vs, ccs⟩ ∧ vs[2]? = some (.str file tf)
  cell : ∃ cl cld csl, K.lookup cc = some ⟨cl, cld, .cell (some (.ref C)), csl⟩
  sub : PySem.W.mroIn K C (.ref C) = some true
  op : PySem.W.nsIn K cStatics "thirdparty.any" = some none
  su : PySem.W.ks_superIn K C C "__init__" = some (some (.builtin "ValueError.__init__"))
  ve : PySem.W.subIn K (.ref C) (.type "ValueError") = some true
def mwO (u e : Addr) : HO := .ext fun h => h.get? u = some (PySem.W.kxs_mw "ValueError.__init__" e)
theorem mwO_ok {P : Program} {w : World} {H : Hp} {h : Heap} {u e : Addr} (x : h.get? u = some (PySem.W.kxs_mw "ValueError.__init__" e)) : ObjOk P w H h u (mwO u e) :=
  ⟨x, ⟨_, x⟩, fun h1 h2 z k => k _ z⟩
/-- its promise -/
def spX (C : Addr) (f : Str) : Sp := fun vs H Q _ => ∃ (e : Addr) (v : V), vs = [.ref e, v] ∧ H e = some (exo e C none) ∧
  ∀ (H2 : Hp) (dx u : Addr), H dx = none → H u = none → dx ≠ e → u ≠ e → u ≠ dx → H2 = upd (upd (upd H u (mwO u e)) dx (exd dx [(f, v)])) e (exo e C (some dx)) → Q .non H2
/-- ValueError.__init__ bound to e, called -/
theorem mw_call {X : Cx} {pins : List (Addr × Obj)} {σ : L2.St} {H : Hp} {s : Shared} {C e u : Addr} {us : List Value} {Q : Value → Shared → Prop} {E : Value → Shared → Prop} (T : OexC X.K C) (I : Inv X pins σ H s) (hu : H u = some (mwO u e)) (he : H e = some (exo e C none)) (hl : us.length ≤ sizeLine) (h : ∀ s', Inv X pins σ H s' → Q .none s') :
    wpAny (model X.prog X.w) X.A (call (.ref u) us) Q E s := by
  obtain ⟨nm, q, N, bs, bm, sn, sub, ab, col, dd, k0, k1, k2, k3, k5, hC, hbm⟩ := T.cls
  obtain ⟨t1, ho⟩ := exo_at I.hok he
  have hmw : s.heap.get? u = some (PySem.W.kxs_mw "ValueError.__init__" e) := by
    have x : ObjOk X.prog X.w H s.heap u (.ext fun h => h.get? u = some (PySem.W.kxs_mw "ValueError.__init__" e)) := I.hok u _ hu
    exact x.1
  have KX := I.kIn
  obtain ⟨hp, g, d, t, os⟩ := s
  refine wpAny_call (codeAny_of_tree ?_)
  show wpAny _ X.A.in1 (callAny (.ref u) ⟨us, []⟩) _ _ _
  simp only [callAny]
  refine wpAny_bind (wpAny_load hmw ?_)
  simp only [PySem.W.kxs_mw, show (Value.type "method-wrapper" == Value.type "method" || Value.type "method-wrapper" == Value.type "builtin_function_or_method" || Value.type "method-wrapper" == Value.type "method-wrapper") = true by decide, if_true]
  refine PySem.W.KFB.if_so (by decide) ?_
  refine wpAny_bind (PySem.W.check_bound_init PySem.F.excBase_ValueError.toExcCallFacts (KX _ _ hC) ho rfl ?_)
  refine wpAny_bind (wpAny_pure (wpAny_pure ?_))
  refine ⟨PySem.plainId_quiet PySem.F.excBase_ValueError.init.plain _, codeAny_builtin PySem.F.excBase_ValueError.initEntry ?_⟩
  refine PySem.W.exc_init_tree (cls := .ref C) (t0 := t1) (dv := none) (c2 := .none) (c3 := .none) (b4 := .bool false) ho hl fun h' k hx _ => ?_
  have J := I.write (t' := t) (x := e) (e := e) (o := exo e C none) (by rw [he]; exact True.intro) (.inl rfl) k ⟨_, hx⟩ (exo_ok hx)
  have eu : upd H e (exo e C none) = H := by
    funext b
    by_cases hb : b = e
    · rw [hb, upd_same, he]
    · rw [upd_ne hb]
  rw [eu] at J
  exact h _ J
/-- the body run -/
theorem init_body {X : Cx} {σ : L2.St} {H : Hp} {s : Shared} {st : Stmt} {f p file : Str} {C fI cc ca e : Addr} {v : V} {B0 : List Stmt} {oc od osl ccl cdd ccs cl cld csl} {fd : FuncData} {vs : Array Value} {tf : Tok} {Qf : Flow → Shared → Prop}
    {p1 p2 p3 p4 p5 p6 p7 p8 p9 p10 : Pos} {t : Str} {j : Nat} (I : Inv X [] σ H s) (hsc : X.env.scope = defScope st) (S : LamPC (defScope st) "__class__" ["self", p]) (hs : (defScope st).names.lookup ("super" : Str) = some NameKind.globalImplicit)
    (hN : X.N = (["__class__", "self", p] : List Str)) (hσ : σ = [some (.ref C), some (.ref e), some v]) (he : H e = some (exo e C none)) (hcl : X.env.cells = ([("__class__", cc)] : List (Str × Addr))) (hfu : X.env.func = some fI) (hco : X.env.code = .ref ca)
    (lk : X.K.lookup fI = some ⟨oc, od, .func fd, osl⟩) (hp : (fd.params.posonlyargs ++ fd.params.args).head?.map (·.arg) = some ("self" : Str)) (lc : X.K.lookup ca = some ⟨ccl, cdd, .fields vs, ccs⟩) (hvs : vs[2]? = some (.str file tf))
    (lcell : X.K.lookup cc = some ⟨cl, cld, .cell (some (.ref C)), csl⟩) (hsub : PySem.W.mroIn X.K C (.ref C) = some true) (hop : PySem.W.nsIn X.K cStatics "thirdparty.any" = some none)
    (hsu : PySem.W.ks_superIn X.K C C "__init__" = some (some (.builtin "ValueError.__init__"))) (hve : PySem.W.subIn X.K (.ref C) (.type "ValueError") = some true) (T : OexC X.K C) (hno : PySem.W.findIn X.K (.ref C) f = some none)
    (hsup : X.mg "super" = none) (hfile : ((X.prog.main.file : Str) == file) = true) (htop : (X.prog.main.scope.names.lookup ("super" : Str)).isSome = false) (hpd : (p == ("__debug__" : Str)) = false ∧ (p == ("__classdict__" : Str)) = false)
    (hpos : (p3.endLine == p5.line) = true)
    (hw : swapsWith (.Call (.Attribute (.Call (.Name "super" p1) [] [] p2) "__init__" p3) [.Constant (.str t) j p4] [] p5) none p6.line X.env = pure false) (hw2 : swapsWith (.Name p p9) (some (.Attribute (.Name "self" p7) f p8)) p10.line X.env = pure false)
    (hq : ∀ (σ' : L2.St) (s' : Shared) (H2 : Hp) (dx u : Addr), Inv X [] σ' H2 s' → H dx = none → H u = none → dx ≠ e → u ≠ e → u ≠ dx → H2 = upd (upd (upd H u (mwO u e)) dx (exd dx [(f, v)])) e (exo e C (some dx)) → Qf .next s') :
    PySem.wpAt (model X.prog X.w) X.A (.func B0 X.env) (execs [.Expr (.Call (.Attribute (.Call (.Name "super" p1) [] [] p2) "__init__" p3) [.Constant (.str t) j p4] [] p5) p6, .Assign [.Attribute (.Name "self" p7) f p8] (.Name p p9) p10] X.env) Qf X.xe s := by
  obtain ⟨nm, qn, N0, bs, bm, sn, sub, ab, col, dd, k0, k1, k2, k3, k5, hC, hbm⟩ := T.cls
  have hcls : PySem.W.clsIn X.K C = some { name := nm, bases := bs, mro := .ref C :: bm, ns := N0, qualname := qn, hasDict := true, slotNames := sn, subclasses := sub, abstract := ab, collection := col, hasDel := false } := by unfold PySem.W.clsIn; rw [hC] <;> rfl
  have KX := I.kIn
  have kf : X.env.scope.kind = .function := I.ok.kind
  have ks : X.env.kindOf "super" = some .globalImplicit := by show X.env.scope.names.lookup _ = _; rw [hsc]; exact hs
  have kc : X.env.kindOf "__class__" = some .free := by show X.env.scope.names.lookup _ = _; rw [hsc]; exact S.yf
  have ksf : X.env.kindOf "self" = some .local := by show X.env.scope.names.lookup _ = _; rw [hsc]; exact S.par "self" (by simp)
  have kp : X.env.kindOf p = some .local := by show X.env.scope.names.lookup _ = _; rw [hsc]; exact S.par p (by simp)
  obtain ⟨mN, hns, hlk⟩ := I.loc
  obtain ⟨u0, ru0, lo⟩ := hlk 1 "self" (.ref e) (by rw [hN]; rfl) (by rw [hσ]; rfl) (Or.inl ksf)
  obtain rfl : u0 = Value.ref e := ru0
  have hse : mN "self" = some (.ref e) := by
    rcases lo with ⟨_, z⟩ | ⟨z, _⟩
    · exact z
    · rw [ksf] at z
      rcases z with z | z <;> cases z
  obtain ⟨ar, har, hag⟩ : ∃ ar, (fd.params.posonlyargs ++ fd.params.args).head? = some ar ∧ ar.arg = "self" := by
    cases h : (fd.params.posonlyargs ++ fd.params.args).head? with
    | none => rw [h] at hp; cases hp
    | some ar => rw [h] at hp; exact ⟨ar, rfl, Option.some.inj hp⟩
  obtain ⟨t1, hex⟩ := exo_at I.hok he
  obtain ⟨mb, hb1, hb2⟩ := I.mod.blt
  -- super()
  have stepA : ∀ {whole : Sem Value} {Q : Value → Shared → Prop}, (∀ (so : Addr) (h' : Heap), h'.get? so = some (PySem.W.ks_superObj C e C) → (∀ b o, s.heap.get? b = some o → h'.get? b = some o) → Q (.ref so) { s with heap := h' }) →
      PySem.wpAt (model X.prog X.w) X.A (.func B0 X.env) (attributeBase (.Call (.Name "super" p1) [] [] p2) "__init__" X.env whole) Q X.xe s := by
    intro whole Q hQ
    refine PySem.ks_wpAt_super_base ks kc (by decide) hfu (KX _ _ lk) rfl har hco (KX _ _ lc) rfl hvs hfile htop ?_
    refine PySem.W.ks_loadName_global kf ks (Calls.loadGlobal_builtin (by rw [I.ok.glob]; exact I.mod.glob.keeps I.bk) hsup (by rw [I.ok.blt]; exact hb1.keeps I.bk) ((hb2 "super" (by decide)).trans (by kernel_rfl)) ⟨rfl, ?_⟩)
    refine wpAny_loadName_free kf kc (by rw [hcl]; rfl) ⟨_, KX _ _ lcell, rfl⟩ ?_
    rw [hag]
    refine wpAny_loadName_local kf ksf hns hse ?_
    obtain ⟨hh, g, d, tk, os⟩ := s
    refine PySem.ks_wpAny_isType_cls (KX _ _ hC) rfl ⟨rfl, ?_⟩
    exact PySem.ks_wpAny_call_super (KX _ _ hC) rfl hex rfl (fun c z => by cases z) (PySem.W.looks_mroIn KX hsub) fun h' e' k => hQ _ _ e' k
  have few : methodCallForm 1 (backTo p5 (starEach [.Constant (.str t) j p4] X.env)) (backToKw p5 (keywordEach [] X.env)) = true := rfl
  have hev : eval (.Call (.Attribute (.Call (.Name "super" p1) [] [] p2) "__init__" p3) [.Constant (.str t) j p4] [] p5) X.env = (do
      let ov ← attributeBase (.Call (.Name "super" p1) [] [] p2) "__init__" X.env (eval (.Call (.Name "super" p1) [] [] p2) X.env)
      standAt p3.atName
      let (f, first) ← holding [ov] (getMethod ov "__init__" (do return (← importBound (.Call (.Name "super" p1) [] [] p2) X.env).getD true))
      callWith p5 f first (backTo p5 (starEach [.Constant (.str t) j p4] X.env)) []) := by
    show (do
      let ov ← attributeBase (.Call (.Name "super" p1) [] [] p2) "__init__" X.env (eval (.Call (.Name "super" p1) [] [] p2) X.env)
      standAt p3.atName
      methodCall (.Call (.Name "super" p1) [] [] p2) "__init__" p3 p5 X.env ov 1 (backTo p5 (starEach [.Constant (.str t) j p4] X.env)) (backToKw p5 (keywordEach [] X.env))) = _
    unfold methodCall
    rw [few]
    simp only [methodCallPos, hpos, Bool.not_true, Bool.false_or, if_true, pure_bind, calleeOf]
    rfl
  refine PySem.ks_wpAt_execs_cons (PySem.ks_wpAt_Expr_any (PySem.ks_wpAt_MethodCall (stepA fun so h1 hso k1 => ?_) hev) I.quiet hw)
  have I1 : Inv X [] σ H { s with heap := h1, toks := s.toks } := I.kept k1
  have KX1 : X.K.In h1 := KX.keeps k1
  have Ie : PySem.W.InstAt h1 e ({ cls := .ref C, dict := none, data := .fields #[.ref t1, .none, .none, .none, .bool false, .none] } : Obj) C none := ⟨k1 _ _ hex, rfl, rfl, trivial⟩
  have hsu' := hsu
  unfold PySem.W.ks_superIn at hsu'
  rw [hcls] at hsu'
  refine PySem.W.kxs_getMethod PySem.W.kxs_ValueError (h := h1) hso (PySem.W.looks_opaque KX1 hop) (l₀ := .ref C :: bm) (fun A Q E s k q => wpAny_bind ((PySem.W.looks_clsIn KX1 hcls) A _ E s k (wpAny_pure q))) rfl KX1 hsu' (Ie.type.andThen (PySem.W.looks_subIn KX1 hve)) (PySem.W.ks_ne KX1 Ie hcls) (by decide) ?_
  have I2 : Inv X [] σ (upd H h1.objs.size (mwO h1.objs.size e)) { s with heap := h1.push (PySem.W.kxs_mw "ValueError.__init__" e), toks := s.toks + 1 } :=
    I1.laid (t' := s.toks + 1) (a := h1.objs.size) (o := mwO h1.objs.size e) (h' := h1.push (PySem.W.kxs_mw "ValueError.__init__" e)) (fun b o q => Heap.get?_push_of_some _ q) (Nat.le_refl _) (mwO_ok (Heap.get?_push_size _ rfl))
  have nu : H h1.objs.size = none := I1.hok.fresh (Nat.le_refl _)
  have une : h1.objs.size ≠ e := fun z => by rw [z, he] at nu; cases nu
  refine PySem.W.kxs_callWith (i := "ValueError.__init__") (x := e) rfl (Calls.evalArgs_plain ?_)
  refine thn ((pa_cons (pe_str (x := t) (j := j) (pos := p4)) pa_nil rfl).run p5 [] _ σ _ (fun vs H' => vs = [.str t] ∧ H' = upd H h1.objs.size (mwO h1.objs.size e)) I2 ⟨rfl, rfl⟩) fun us s4 ⟨vs4, H4, I4, r4, ev, eH⟩ => ?_
  subst ev eH
  have hmw : PySem.W.KxsAt "ValueError.__init__" h1.objs.size e s4.heap := by
    have x : ObjOk X.prog X.w (upd H h1.objs.size (mwO h1.objs.size e)) s4.heap h1.objs.size (.ext fun h => h.get? h1.objs.size = some (PySem.W.kxs_mw "ValueError.__init__" e)) := I4.hok _ _ upd_same
    exact x.1
  have ul : us.length = 1 := r4.length.symm
  refine ⟨hmw, mw_call T I4 upd_same (by rw [upd_ne (Ne.symm une)]; exact he) (by rw [List.nil_append, ul, sizeLine_eq]; omega) fun s5 I5 => ?_⟩
  show PySem.wpAt _ _ _ (execs [.Assign [.Attribute (.Name "self" p7) f p8] (.Name p p9) p10] X.env) _ _ _
  refine PySem.wpAt_of_wpAny ?_
  refine wpAny_mono ((pss_one (ps_ost (pe_var (pos := p7) (i := 1) (x := "self") (by rw [hN]; rfl) (Or.inl ksf) (by decide) (by decide)) (pe_var (pos := p9) (i := 2) (x := p) (by rw [hN]; rfl) (Or.inl kp) hpd.1 hpd.2) hw2)).run [] s5 σ _ { nx := fun _ H2 => ∃ dx, H dx = none ∧ dx ≠ e ∧ h1.objs.size ≠ dx ∧ H2 = upd (upd (upd H h1.objs.size (mwO h1.objs.size e)) dx (exd dx [(f, v)])) e (exo e C (some dx)), rt := fun _ _ => False } I5 ?_) (fun fl s' hs => ?_) fun e s' hs => hs
  · refine ⟨v, by rw [hσ]; rfl, .ref e, by rw [hσ]; rfl, e, C, rfl, T, hno, .inl ⟨by rw [upd_ne (Ne.symm une)]; exact he, fun dx n ne => ?_⟩⟩
    have nz : h1.objs.size ≠ dx := fun z => by rw [← z, upd_same] at n; cases n
    exact ⟨dx, by rw [upd_ne (Ne.symm nz)] at n; exact n, ne, nz, rfl⟩
  · cases fl with
    | next =>
      obtain ⟨σ', H', J, dx, n1, n2, n3, eH⟩ := hs
      exact hq σ' s' H' dx h1.objs.size J n1 nu n2 une n3 eH
    | ret u => obtain ⟨_, _, _, _, _, q⟩ := hs; exact False.elim q
    | brk => obtain ⟨_, _, _, q⟩ := hs; exact False.elim q
    | cont => obtain ⟨_, _, _, q⟩ := hs; exact False.elim q
theorem exc_init {g : Gs} {st : Stmt} {qual file p f : Str} {C fI cc : Addr} {fd : FuncData} {k : Nat} (S : InitS st p f) (F : InitK g.K C fI cc st qual file fd) (T : OexC g.K C) (hno : PySem.W.findIn g.K (.ref C) f = some none)
    (hsup : g.mg "super" = none) (hfile : ((g.prog.main.file : Str) == file) = true) (htop : (g.prog.main.scope.names.lookup ("super" : Str)).isSome = false) :
    FnOk g.prog g.w g.K g.mg g.base (L2N.CX g.prog g.w) (k + 1) fI fd ["self", p] (spX C f) := by
  obtain ⟨⟨oc, od, dV, kV, doc, pm, an, ca, ct, osl, rfl, lk, hcd, ccl, cdd, vs2, ccs, tf, lc, hvs⟩, ⟨cl, cld, csl, lcell⟩, hsub, hop, hsu, hve⟩ := F
  refine ⟨fun vs H Q E ⟨e, v, h, _⟩ => by rw [h]; rfl, fun A outer s H args us vs Q E hr e0 hbd rv h => ?_⟩
  obtain ⟨e, v, rfl, he, hq⟩ := h
  have KX : g.K.In s.heap := e0.mod.kin.keeps fun b o e => (e0.bs b o e).1
  have lim : s.heap.NoLimit := e0.mod.nolimit.keeps fun b o e => (e0.bs b o e).1
  have hlu : us.length = 2 := rv.length.symm
  refine PySem.ks_codeAny_call_defAt (body := defBody st) hr.depth (KX _ _ lk) rfl lim (PySem.W.codeRec_of KX hcd) rfl hbd S.nm.nc (fun ⟨n, z⟩ hy => S.nm.par n (List.of_mem_zip hy).1) (fun h₀ hns kp => ?_) S.nm.co S.nm.gen S.nm.kind
  obtain ⟨p1, p2, p3, p4, p5, p6, p7, p8, p9, p10, t, j, hpos, eb⟩ := S.body
  have cellB : g.base.get? cc = some ⟨cl, cld, .cell (some (.ref C)), csl⟩ := e0.mod.kin _ _ lcell
  have J := lamc_start (P := g.prog) (w := g.w) (q := qual) (f := fI) (ca := ca) (E := E) (y := "__class__") (tk := s.toks + ((["self", p] : List Str).zip us).length) (v := .ref C) (u := .ref C) S.nm hr.hd e0 cellB rfl rfl rv rfl hns kp
  have fin : ∀ (σ' : L2.St) (H' : Hp) (s' : Shared), Inv (lamCC g.prog g.w g.K g.mg g.base ("__class__" :: ["self", p]) qual (defScope st) fI ca "__class__" cc A outer s H E) [] σ' H' s' → Q .non H' → CE outer g.prog g.w H s Q .none s' :=
    fun σ' H' s' J q => ⟨.non, H', J.os, J.bare, J.base, J.hok, rfl, q⟩
  have key := init_body (X := lamCC g.prog g.w g.K g.mg g.base ("__class__" :: ["self", p]) qual (defScope st) fI ca "__class__" cc A outer s H E) (B0 := defBody st) (p1 := p1) (p2 := p2) (p3 := p3) (p4 := p4) (p5 := p5) (p6 := p6) (p7 := p7) (p8 := p8) (p9 := p9) (p10 := p10) (t := t) (j := j)
    (Qf := fun f s' => CR (L2N.CX g.prog g.w) outer g.prog g.w H s Q E (.ok (.ret (match f with | .ret v => v | _ => .none))) s') J rfl S.nm S.su rfl rfl he rfl rfl rfl lk S.hp lc hvs lcell hsub hop hsu hve T hno hsup hfile htop S.pd hpos rfl rfl
    (fun σ' s' H2 dx u J n1 n2 n3 n4 n5 eH => fin σ' H2 s' J (hq H2 dx u n1 n2 n3 n4 n5 eH))
  rw [← eb] at key
  exact key
end Hf

set_option Elab.async false
set_option linter.all false
set_option maxRecDepth 100000
set_option maxHeartbeats 4000000
namespace Hf
open PySem PySem.Spec PyProof.Rows L2

/-! ### raise C(e), C with an own __init__ that stores e -/
def ExcI (g : Gs) (k c : Nat) : Prop := ∃ (fI : Addr) (fd : FuncData) (p : Str), OexC g.K (g.cl c) ∧ PySem.W.findIn g.K (.ref (g.cl c)) "__init__" = some (some (.ref fI)) ∧ PySem.W.typeIn g.K (.ref fI) = some (.type "function") ∧
  FnOk g.prog g.w g.K g.mg g.base (L2N.CX g.prog g.w) k fI fd ["self", p] (spX (g.cl c) (excF c)) ∧ Binds g.K fd ["self", p] []
/-- C(e), the exception without a context -/
theorem pmk_oexN {X : Cx} {CX : CXT} {e : Expr} {es : List Expr} {ta : TA} {p pos : Pos} {x : Str} {C fI : Addr} {k : Nat} {fd : FuncData} {ps : List Str} {sp : Sp} (T : OexC X.K C) (iC : PySem.W.findIn X.K (.ref C) "__init__" = some (some (.ref fI)))
    (tI : PySem.W.typeIn X.K (.ref fI) = some (.type "function")) (FO : FnOk X.prog X.w X.K X.mg X.base CX k fI fd ps sp) (room : Room (k + 1) X.A) (bi : Binds X.K fd ps []) (pas : Passes CX X (fun _ _ _ => False)) (hg : Gl X x) (hm : X.mg x = some (.ref C)) (ha : PA X (e :: es) ta)
    (hdb : (x == ("__debug__" : Str)) = false := by decide) (he : starEach (e :: es) X.env = (false, eval e X.env) :: starEach es X.env := by rfl) (hpl : (backTo pos (starEach es X.env)).any (·.1) = false := by rfl) :
    L2N.PMk X (.Call (.Name x p) (e :: es) [] pos) (tMkO C sp [] ta) := fun pins s σ H Q I h => by
  have TC := T.cls
  obtain ⟨cn, cq, cN, cb, cm, cs, cu, ca, cc, ce, c0, c1, c2, c3, c5, hcl, hmro⟩ := TC
  refine wpAny_Call_Name_kw (ld_glob I hg hm ?_ hdb)
  refine PySem.W.callWith_K (h₀ := X.base) I.ok.mod.kin T.kC ?_ he hpl
  refine thn (ha.run pos pins s σ H _ I h) fun us s1 ⟨vs, Ha, Ia, ra, hz, qa⟩ => ⟨Ia.kIn, ?_⟩
  show wpAny _ _ (call (.ref C) us) _ _ _
  obtain ⟨ha, ga, da, ka, oa⟩ := s1
  let ea : Addr := ha.objs.size + 1
  let hb := (ha.push (PySem.W.kdv_tup us)).push (PySem.HandSPX.excO C ha.objs.size)
  have le1 : ha.objs.size ≤ ea := Nat.le_succ _
  have fr : Ha ea = none := Ia.hok.fresh le1
  have qe := qa ea fr
  have kp : ∀ b o, ha.get? b = some o → hb.get? b = some o := fun b o z => Heap.get?_push_of_some _ (Heap.get?_push_of_some _ z)
  have ge : hb.get? ea = some (PySem.HandSPX.excO C ha.objs.size) := by show ((ha.push _).push _).get? (ha.objs.size + 1) = _; heap_get
  have Ib : Inv X pins σ (upd Ha ea (exo ea C none)) ⟨hb, ga, da, ka, oa⟩ := Ia.laid (t' := ka) (a := ea) (o := exo ea C none) (h' := hb) kp le1 (exo_ok ge)
  have rb : Vals (V.ref ea :: (vs ++ [])) (Value.ref ea :: us) := .cons rfl (by rw [List.append_nil]; exact ra)
  have lu : us.length ≤ sizeLine := by rw [← Paired.length ra, sizeLine_eq]; omega
  have lb : (Value.ref ea :: us ++ []).length = ps.length := by rw [List.append_nil, ← rb.length, FO.len _ _ _ _ qe]
  have bd := bi _ (Value.ref ea :: us) Ib.kIn lb
  rw [List.append_nil] at bd
  have run := FO.run _ X.stack _ _ ⟨Value.ref ea :: us, []⟩ (Value.ref ea :: us) _ _ (fun _ _ _ => False) (room.make C us []) (Ib.env0.make C us []) bd rb qe
  refine wpAny_call (PySem.HandSPX.call_own F.excBase_ValueError (fun Y => PySem.HandSPX.refsVE_contains Y cm hmro) (Ia.kIn _ _ hcl) (PySem.W.looks_findIn Ia.kIn iC) (fun self => PySem.W.bind_fn Ia.kIn self tI) lu (codeAny_mono run fun r s' hr => ?_))
  match r, hr with
  | .error er, hr => exact pas pins σ _ _ er s' Ib hr
  | .ok .next, hr => exact False.elim hr
  | .ok .brk, hr => exact False.elim hr
  | .ok .cont, hr => exact False.elim hr
  | .ok (.ret u), hr =>
    obtain ⟨v, Hc, oc, bc, uc, hc, rv, ev, d, fs, e1, e2, e3, qc⟩ := hr
    subst ev
    obtain ⟨h2, g2, d2, t2, os'⟩ := s'
    obtain ⟨t0, G, J, kG, gn, go, na⟩ := mk_end0 (d2 := d2) (t2 := t2) Ia le1 kp uc hc oc bc e1 e2 e3
    refine ⟨rv, ea, _, _, ⟨G, g2, d2, t2, os'⟩, _, .ref C, some d, rfl, J, kG, gn, go, ⟨rfl, rfl, fun vs2 z => ?_⟩, rfl, rfl, na, rfl, bc, raises_own T.exC T.tyC, qc⟩
    cases z
    rfl
section
variable {g : Gs} {E : XK} {w0 w : Wd} {H0 H : Hp} {X : Cx} {e : Expr} {m : Ev} {pos p pos2 : Pos} {x : Str} {lv c k : Nat}
end
end Hf

set_option Elab.async false
set_option linter.all false
set_option maxRecDepth 100000
set_option maxHeartbeats 4000000
namespace Hf
open PySem PySem.Spec PyProof.Rows L2

/-! ### max(t, default = d) of a tuple of numbers -/
section
variable {g : Gs} {E : XK} {H0 : Hp} {X : Cx} {e de : Expr} {m md : Ev} {pos p kp : Pos} {b1 : Bool}
end
end Hf

set_option Elab.async false
set_option linter.all false
set_option maxRecDepth 100000
set_option maxHeartbeats 4000000
namespace Hf
open PySem PySem.Spec PyProof.Rows L2

/-! ### def m(self, *v) and its calls -/
section
variable {g : Gs} {E : XK} {H0 : Hp} {X : Cx} {o e : Expr} {es : List Expr} {m : Ev} {ms : Evs} {pos apos : Pos} {lv k c : Nat} {f : Fn}
end
end Hf

set_option Elab.async false
set_option linter.all false
set_option maxRecDepth 100000
set_option maxHeartbeats 4000000
namespace Hf
open PySem PySem.Spec PyProof.Rows L2

/-! ### range(a, b, -1) -/
section
variable {g : Gs} {E : XK} {H0 : Hp} {w : Wd} {H : Hp} {X : Cx} {σI : Sl} {σ : L2.St} {B : Bs} {tg a b d : Expr} {ma mb mc : Ev} {p1 pos : Pos} {b1 b2 b3 : Bool}
end
end Hf

set_option Elab.async false
set_option linter.all false
set_option maxRecDepth 100000
set_option maxHeartbeats 4000000
namespace Hf
open PySem PySem.Spec PyProof.Rows L2

/-! ### an __init__ that is called by super: the instance stays the caller's -/
section
variable {g : Gs} {E : XK} {w : Wd} {H : Hp} {Q : VK} {c k : Nat}
end
/-! ### a thing is taken out of the view -/
section
variable {g : Gs} {E : XK} {w w1 : Wd} {H H1 H2 : Hp} {B : Bs}
end
/-! ### def __init__(self, bridge, limit): need_bridge(bridge); need_limit(limit); super().__init__(bridge); self.limit = limit -/
section
variable {g : Gs} {c k k1 k2 : Nat} {st : Stmt} {qual file : Str} {D0 fI cc fa2 ca x dx : Addr} {fd : FuncData} {f1 f2 fU : Fn}
end
end Hf

set_option Elab.async false
set_option linter.all false
set_option maxRecDepth 100000
set_option maxHeartbeats 4000000
namespace Hf
open PySem PySem.Spec PyProof.Rows L2
/-! ### the end over the head by one run -/
theorem walkQ {l : PySem.W.OpenLaw} {k : Nat} {q : Program} {loose : List Str} {XP : (Str → Option Value) → Heap → Prop} {d : DefRec} {CX : World → CXT} {x : Str} {n : Hq.Stg} {fn : List Hq.DfE} {tp : Hq.Fr → List Addr} {ex : Hq.Fr → Bool}
    (hn : l.most = some 63) (hdf : d.params.defaults = []) (hr : Room k callerA) (hname : d.name = ("law" : Str))
    (F : ∀ (w : World) (mg : Str → Option Value) (fa : Addr) (h : Heap) (K : PySem.W.Frag), K.In h → Hq.SaysE fn tp ex h K → h.Ns mainGlobals mg → mg "law" = some (.ref fa) →
      ∃ (fd : FuncData) (cs : List (Addr × Addr)), (∀ p ∈ cs, h.get? p.2 = some { cls := .none, data := .fields #[] }) ∧ (∀ p ∈ cs, K.lookup p.2 = Option.none) ∧ (∀ p ∈ cs, PySem.W.CodeHd h p.1 p.2) ∧ (∀ (s : Shared) (u : Value), BindsTo s fd ⟨[u], []⟩ [(x, u)]) ∧
        ∀ base : Heap, K.In base → base.Ns mainGlobals mg → (∀ p ∈ cs, LamX.TabB base mg p.1 p.2) → ∃ g : Gs, g.K = K ∧ FnG l.prog w K mg base (CX w) k fa fd [x] (spLT g (cs.map (·.2))))
    (hCX : ∀ (w : World) (H : Hp) (s : Shared) (e : Value) (s' : Shared), CX w [] H s (fun _ _ _ => False) e s' → False) : PySem.W.WalkO q loose XP (Hq.hookF n fn tp ex).says l.row.toRowW d [] (fun f vs => PySem.call f vs) := by
  refine Att.attach_callB hn hdf fun w s₀ s₁ mg mb fa o pm cd doc a vs ns G Y ho hd hcd hmg hobj hints hlen hbits hg => ?_
  obtain ⟨K, KX, c⟩ := Y
  rw [hname] at hmg
  obtain ⟨fd, cs, t1, t2, t3, hb, hF⟩ := F w mg fa _ K KX c G.T.g hmg
  exact law_callT KX G.T.g G.T.b G.T.builtins G.T.nolimit hg t1 t2 t3 G.T.bmain hobj hints hlen hr hF hb fun H e s' => hCX w H s₁ e s'
end Hf

set_option Elab.async false
set_option linter.all false
set_option maxRecDepth 100000
set_option maxHeartbeats 4000000
namespace Hf
open PySem PySem.Spec PyProof.Rows L2
/-! ### an instance of one of several classes -/
section
variable {g : Gs} {E : XK} {H0 : Hp} {X : Cx} {e : Expr} {m : Ev} {M : Nat → Ev} {cs : List Nat} {bo b1 : Bool} {pos : Pos}
end
end Hf
namespace Hf
open PySem PySem.Spec PyProof.Rows L2
end Hf

set_option Elab.async false
set_option linter.all false
set_option maxRecDepth 100000
set_option maxHeartbeats 4000000
namespace Hf
open PySem PySem.Spec PyProof.Rows L2
/-! ### x != y where y's class is a subclass of x's: y is asked first -/
section
variable {prog : Program} {w : World} {A : Around} {E : Value → Shared → Prop} {s : Shared} {K : PySem.W.Frag} {x y C C' f : Addr} {ox oy : Obj} {od od' : Option Obj}
end
section
variable {g : Gs} {w : Wd} {H : Hp} {X : Cx} {pins : List (Addr × Obj)} {σ : L2.St} {s : Shared} {k c c' lv : Nat} {f : Fn} {E : XK}
variable {H0 : Hp} {ma mb : Ev} {a b : Expr} {pos : Pos}
end
end Hf

set_option Elab.async false
set_option linter.all false
set_option maxRecDepth 100000
set_option maxHeartbeats 4000000
namespace Hf
open PySem PySem.Spec PyProof.Rows L2
/-! ### l.count(x), outside an except suite -/
section
variable {g : Gs} {E : XK} {H0 : Hp} {w : Wd} {H : Hp} {X : Cx} {σI : Sl} {σ : L2.St} {B : Bs} {e o : Expr} {mo m : Ev} {apos cpos : Pos} {b1 : Bool} {lv : Nat}
theorem s_cnt (ok : OkC g E lv X) (ho : Snd g E H0 X b1 o mo) (he : Snd g E H0 X false e m)
    (hbase : attributeBase o "count" X.env (eval o X.env) = eval o X.env := by rfl)
    (hfew : ((backTo cpos (starEach [e] X.env)).all (fun x => !x.1) && (backToKw cpos (keywordEach [] X.env)).all (fun x => x.1.isSome) && decide ([e].length + ([] : List Keyword).length + (if ([] : List Keyword).isEmpty then 0 else 1) < 30)) = true := by rfl)
    (hline : (apos.endLine == cpos.line) = true := by rfl) (hs : starEach [e] X.env = (false, eval e X.env) :: starEach [] X.env := by rfl) (hpl : (backTo cpos (starEach [] X.env)).any (·.1) = false := by rfl) :
    Snd g E H0 X false (.Call (.Attribute o "count" apos) [e] [] cpos) (mCntL mo m) := by
  refine weak (pe_bm PySem.F.plainAttrs_list PySem.F.slot_list_count PySem.F.type_list_count (mt_countD (by have := ok.un; omega)) ho (pa_cons he pa_nil hs) hbase hfew hline hs hpl) ?_
  rintro σ H Q ⟨w, σI, B, s, p⟩
  refine tI_bind s p fun d B1 w1 v H1 x1 s1 r1 p1 => ?_
  cases d <;> first | exact p1.elim | skip
  rename_i ds
  obtain ⟨a0, vs0, e0, q0, rr0⟩ := r1.up.lst s1
  subst e0
  refine ⟨tyL q0, ?_⟩
  refine tI_bind s1 p1 fun d2 B2 w2 v2 H2 x2 s2 r2 p2 => ?_
  unfold fCnt at p2
  simp only at p2
  split at p2
  · rename_i hsh
    obtain ⟨sh1, sh2⟩ := Bool.and_eq_true_iff.mp hsh
    have rt : RepO g w2 σI σ (.lst ds) (.ref a0) := r1.up.mono x2.le
    have dp := rt.dp s2 (SeqAt.canLay_of_shaped sh1)
    exact ⟨a0, v2, toPy d2, toPys ds, rfl, rfl, ok.K ▸ dp, ok.K ▸ r2.up.dp s2 (SeqAt.canLay_of_shaped sh2), sh1, sh2, p2.nowR s2 (rep_int g w2 _)⟩
  · exact p2.elim
end
end Hf

set_option Elab.async false
set_option linter.all false
set_option maxRecDepth 100000
set_option maxHeartbeats 4000000
namespace Hf
open PySem PySem.Spec PyProof.Rows L2

/-! ### o.m(k = v, ..), some left to their defaults -/
section
variable {g : Gs} {E : XK} {w0 w : Wd} {H0 H : Hp} {X : Cx} {o : Expr} {m : Ev} {ms : Evs} {pos apos : Pos} {f : Fn} {lv k c : Nat} {kws : List Keyword} {ks : List Str} {pi : List Nat} {dfl : List D} {Q : VK} {σ : L2.St}
end
/-! ### try: s1; s2; return e / finally: .., where nothing is raised -/
section
variable {g : Gs} {E : XK} {w0 w : Wd} {H0 H : Hp} {X : Cx} {lv : Nat} {S1 S2 f0 : Stmt} {fs : List Stmt} {e : Expr} {rp pos : Pos} {m1 m2 mf : Ms} {me : Ev} {D : Ends}
end
/-! ### where a lambda stands in a def -/
end Hf

set_option Elab.async false
set_option linter.all false
set_option maxRecDepth 100000
set_option maxHeartbeats 4000000
namespace Hf
open PySem PySem.Spec PyProof.Rows L2 PySem.SeqAt
open AutoSeq1 (wpAny_loadPart')
open MeetsSeq MeetsSeq2 MeetsSeq3 SeqRoads2
/-! ### a, b = n.pop() -/
section
variable {g : Gs} {E : XK} {w0 : Wd} {H0 : Hp} {X : Cx} {pos p2 apos cpos : Pos} {y : Str} {j : Nat} {tg : Expr} {t : Tg} {l : List Nat}
end
/-! ### None in [own instances], each of which is unequal to None by running code -/
section
variable {pg : Program} {wd : World} {ar : Around}
end
section
variable {g : Gs} {H0 : Hp} {X : Cx} {k c lv : Nat} {f : Fn} {E : XK}
variable {ma mb : Ev} {a b : Expr} {pos : Pos}
end
end Hf

set_option Elab.async false
set_option linter.all false
set_option maxRecDepth 100000
set_option maxHeartbeats 4000000
namespace L2N
open PySem PySem.Spec PyProof.Rows L2
/-! ### except clauses with and without a name, in any order -/
structure Cl where
  c : Value
  at_ : Option Nat
  ts : Addr → Value → Option Addr → TS
section
variable {X : Cx} {body : List Stmt} {k0 : ExceptHandler} {hs : List ExceptHandler} {ks : List Cl} {tp : Pos} {tb : WX → TS} {Wo : WX}
end
end L2N

set_option Elab.async false
set_option linter.all false
set_option maxRecDepth 100000
set_option maxHeartbeats 4000000
namespace Hf
open PySem PySem.Spec PyProof.Rows L2
/-! ### o.m(e, ..) where what is raised is wished for at the caller's slots -/
section
variable {X : Cx} {CX : CXT} {k : Nat} {C f : Addr} {fd : FuncData} {ps : List Str} {sp : Sp} {dvs : List V} {ds : List Value} {E : L2.St → XK} {m : Str} {pos apos : Pos} {o e : Expr} {es : List Expr} {ta : TE} {t : TA}
end
theorem Ok.tr {g : Gs} {X : Cx} (ok : Ok g X) (pn : List (Addr × Obj)) (xe : Value → Shared → Prop) : Ok g (X.tr pn xe) := ⟨ok.K, ok.mg, ok.calm, ok.un, ok.prog, ok.w, ok.base, ok.fx⟩
section
variable {g : Gs} {H0 : Hp} {X : Cx} {o e : Expr} {es : List Expr} {m : Ev} {ms : Evs} {pos apos : Pos} {k c lv : Nat} {f : Fn} {dfl : List D} {E : L2.St → XK}
/-! ### e.f of the exception that is handled -/
end
/-! ### try: a call; ..; except Broken as n: return n.kind; except NoLook: .. -/
section
variable {g : Gs} {E : XK} {w0 : Wd} {H0 : Hp} {X : Cx} {e : Expr} {rest : List Stmt} {SL : Stmt} {n : Str} {i lv : Nat} {m1 : Ev} {mr mh : Ms} {ep q1 q2 q3 q4 q5 q6 q7 tp : Pos}
end
end Hf

set_option Elab.async false
set_option linter.all false
set_option maxRecDepth 100000
set_option maxHeartbeats 4000000
namespace Hf
open PySem PySem.Spec PyProof.Rows L2
/-! ### sorted of a list of tuples of any shape, all alike -/
section
variable {g : Gs} {E : XK} {w0 w : Wd} {H0 H : Hp} {X : Cx} {e : Expr} {m : Ev} {pos p1 : Pos} {bo b1 : Bool}
end
end Hf

set_option Elab.async false
set_option linter.all false
set_option maxRecDepth 100000
set_option maxHeartbeats 4000000
namespace Hf
open PySem PySem.Spec PyProof.Rows L2
/-! ### exceptions as values -/
theorem filO_cls (c : Addr) (vs ws : Array Value) (a : Addr) (o : Obj) (h : (filO c { cls := .none, data := .fields vs } { cls := .none, data := .fields ws }).get? a = some o) : o.cls = .none := by
  have hx : ∀ x, ((Array.replicate c ({ cls := .none, data := .fields vs } : Obj)).push { cls := .none, data := .fields ws })[a]? = some x → x.cls = .none ∧ ∃ us, x.data = .fields us := fun x hx => by
    simp only [Array.getElem?_push, Array.size_replicate, Array.getElem?_replicate] at hx
    split at hx
    · cases hx; exact ⟨rfl, _, rfl⟩
    · split at hx
      · cases hx; exact ⟨rfl, _, rfl⟩
      · cases hx
  unfold filO Heap.get? at h
  simp only at h
  revert h
  cases e : ((Array.replicate c ({ cls := .none, data := .fields vs } : Obj)).push { cls := .none, data := .fields ws })[a]? with
  | none => intro h; cases h
  | some x =>
    obtain ⟨hc, us, hu⟩ := hx x e
    obtain ⟨c1, d1, da, sl⟩ := x
    simp only at hu hc
    subst hu hc
    intro h
    cases h
    rfl
theorem exD_nt {C a : Addr} {d : Option Addr} : Nt (ExD (.ref C) d a) := ⟨fun ps e => (by unfold ExD at e; cases e), fun c q e => (by
  unfold ExD LamX.CodeO at e
  have e := HO.ext.inj e
  have h1 := congrFun e (filO c { cls := .none, data := .fields #[] } { cls := .none, data := .fields #[.none, .str q default] })
  have h2 := h1.symm.mp ⟨_, _, default, filO_c c _ _, rfl, rfl⟩
  obtain ⟨oe, vs, hg, hc, _⟩ := h2
  rw [filO_cls _ _ _ _ _ hg] at hc
  cases hc), fun fs e => (by unfold ExD at e; cases e)⟩
theorem exD_ok {P : Program} {w : World} {H : Hp} {h : Heap} {a : Addr} {cls : Value} {d : Option Addr} {oe : Obj} {vs : Array Value} (e : h.get? a = some oe) (h1 : oe.cls = cls) (h2 : oe.dict = d) (h3 : oe.data = .fields vs) : ObjOk P w H h a (ExD cls d a) :=
  ⟨⟨oe, vs, e, h1, h2, h3⟩, ⟨oe, e⟩, fun _ _ ⟨o, v, q, r⟩ k => ⟨o, v, k o q, r⟩⟩
section
variable {X : Cx} {C : Addr} {bmB : List Value} {B newId initId : String} {x : Str} {e : Expr} {ta : TE} {p pos : Pos}
/-- C(): a new exception -/
theorem pe_exn0 (F : ExcBaseFacts B newId initId bmB) (q : PySem.W.excIn X.K C bmB newId = true) (gC : X.mg x = some (.ref C)) (kC : PySem.W.keepIn X.K (.ref C) = true) (hg : Gl X x) (hdb : (x == ("__debug__" : Str)) = false := by decide) :
    PE X (.Call (.Name x p) [] [] pos) (fun _ H Q => ∀ a, H a = none → Q (.ref a) (upd H a (ExD (.ref C) none a))) := by
  refine ⟨fun pins s σ H Q I h => ?_⟩
  refine wpAny_Call_Name_kw (ld_glob I hg gC ?_ hdb)
  refine PySem.W.callWith_K0 (first := []) I.kIn kC ?_
  obtain ⟨bm, N, nm, qn, bs, hdct, sn, sub, ab, col, dd, k0, k1, k2, k3, k5, mN, hC, hN, hni, T⟩ := exc_obj I.kIn q
  refine wpAny_call_exc_subT F T hC hN hni (fun h' a hm => ?_) (Nat.zero_le _)
  have fresh : H a = none := I.hok.gone hm.new
  obtain ⟨t, ht, _, _⟩ := hm.there
  exact ⟨.ref a, upd H a (ExD (.ref C) none a), I.laidN hm.keeps hm.new fresh (exD_ok ht rfl rfl rfl), rfl, h a fresh⟩
/-- C(e) -/
theorem pe_exn1 (F : ExcBaseFacts B newId initId bmB) (q : PySem.W.excIn X.K C bmB newId = true) (gC : X.mg x = some (.ref C)) (kC : PySem.W.keepIn X.K (.ref C) = true) (hg : Gl X x)
    (he : PE X e ta) (hs : starEach [e] X.env = (false, eval e X.env) :: starEach [] X.env := by rfl) (hdb : (x == ("__debug__" : Str)) = false := by decide) :
    PE X (.Call (.Name x p) [e] [] pos) (fun σ H Q => ta σ H fun _ H1 => ∀ a, H1 a = none → Q (.ref a) (upd H1 a (ExD (.ref C) none a))) := by
  refine ⟨fun pins s σ H Q I h => ?_⟩
  refine wpAny_Call_Name_kw (ld_glob I hg gC ?_ hdb)
  refine PySem.W.callWith_K (h₀ := X.base) I.ok.mod.kin kC ?_ hs (by rfl)
  rw [hs]
  show wpAny _ _ (spliced ((false, eval e X.env) :: backTo pos (starEach [] X.env))) _ _ s
  refine Calls.spliced_cons (thn (he.run pins s σ H _ I h) fun u s2 ⟨v, Hn, In, rv, qn⟩ => ?_)
  refine Calls.spliced_nil ⟨In.kIn, ?_⟩
  show wpAny _ _ (call (.ref C) [u]) _ _ _
  obtain ⟨bm, N, nm, qq, bs, hdct, sn, sub, ab, col, dd, k0, k1, k2, k3, k5, mN, hC, hN, hni, T⟩ := exc_obj In.kIn q
  refine wpAny_call_exc_subT F T hC hN hni (fun h' a hm => ?_) (by show 1 ≤ sizeLine; rw [sizeLine_eq]; omega)
  have fresh : Hn a = none := In.hok.gone hm.new
  obtain ⟨t, ht, _, _⟩ := hm.there
  exact ⟨.ref a, upd Hn a (ExD (.ref C) none a), In.laidN hm.keeps hm.new fresh (exD_ok ht rfl rfl rfl), rfl, qn a fresh⟩
/-- what makes an exception to be raised makes one as a value -/
theorem pe_of_mk {t : L2N.St → Hp → XK → Prop} (h : L2N.PMk X e t) : PE X e (fun σ H Q => t σ H fun cls d H' => ∀ a, H' a = none → Q (.ref a) (upd H' a (ExD cls d a))) := by
  refine ⟨fun pins s σ H Q I hq => wpAny_mono (h pins s σ H _ I hq) (fun u s' hu => ?_) fun _ _ z => z⟩
  obtain ⟨a, oe, vs, sI, H', cls, d, rfl, J, kp, hn, ha, hz, hd, h1, na, os, ag, _, q⟩ := hu
  have ok := exD_ok (P := X.prog) (w := X.w) (H := upd H' a (ExD cls d a)) ha hz.1 hz.2.1 hd
  exact ⟨.ref a, _, J.call' (ch := []) os (Un.laidN kp hn na) (J.hok.laidN kp na ok) ag (fun b z => absurd z (by simp)), rfl, q a na⟩
end
section
variable {g : Gs} {E : XK} {w0 w : Wd} {H0 H : Hp} {X : Cx} {e : Expr} {m : Ev} {pos p p1 p2 : Pos} {x : Str} {lv c d k : Nat} {σI : Sl} {σ : L2.St} {B : Bs} {Q : VK} {b1 : Bool}
theorem exn_reg {dd : Option Addr} {pp : Addr} (rb : RB g w B H) (hp : H pp = none) : Ext w H (regW w pp (ExD (.ref (g.cl c)) dd pp)) (upd H pp (ExD (.ref (g.cl c)) dd pp)) ∧ RB g (regW w pp (ExD (.ref (g.cl c)) dd pp)) B (upd H pp (ExD (.ref (g.cl c)) dd pp)) :=
  reg_ext (Ext.lay hp) (rb.lay hp) upd_same hp (rb.fresh_P hp) (rb.fresh_io hp) exD_nt
theorem exn_go (s : S0 g H0 w σI B σ H) (post : PostE g E w H σI σ false Q (.ok (.exn c []) B)) : ∀ a, H a = none → Q (.ref a) (upd H a (ExD (.ref (g.cl c)) none a)) := fun a ha => by
  obtain ⟨x, rb⟩ := exn_reg (c := c) (dd := none) s.rb ha
  refine post _ (.ref a) _ x rb ?_
  simp only [RepB, Rep, Reps]
  exact ⟨a, none, [], rfl, upd_same, rfl, .inl ⟨rfl, rfl⟩⟩
def mExn1 (c : Nat) (m : Ev) : Ev := fun σ B => (m σ B).bind fun _ B1 => .ok (.exn c []) B1
theorem s_exn0 (ok : Ok g X) (K : ExcK g c) (hm : g.mg x = some (.ref (g.cl c))) (hg : Gl X x := by rfl) (hdb : (x == ("__debug__" : Str)) = false := by decide) : Snd g E H0 X false (.Call (.Name x p) [] [] pos) (mC (.exn c [])) := by
  refine weak (pe_exn0 PySem.F.excBase_ValueError (by rw [ok.K]; exact K.exc) (by rw [ok.mg]; exact hm) (by rw [ok.K]; exact K.keep) hg hdb) ?_
  rintro σ H Q ⟨w, σI, B, s, post⟩
  exact exn_go s post
theorem s_exn1 (ok : Ok g X) (K : ExcK g c) (hm : g.mg x = some (.ref (g.cl c))) (he : Snd g E H0 X false e m) (hg : Gl X x := by rfl) (hs : starEach [e] X.env = (false, eval e X.env) :: starEach [] X.env := by rfl) (hdb : (x == ("__debug__" : Str)) = false := by decide) : Snd g E H0 X false (.Call (.Name x p) [e] [] pos) (mExn1 c m) := by
  refine weak (pe_exn1 PySem.F.excBase_ValueError (by rw [ok.K]; exact K.exc) (by rw [ok.mg]; exact hm) (by rw [ok.K]; exact K.keep) hg he hs hdb) ?_
  rintro σ H Q ⟨w, σI, B, s, post⟩
  exact tI_bind s post fun d1 B1 w1 v H1 x1 s1 r1 p1 => exn_go s1 p1
def mExnF (c : Nat) (m : Ev) : Ev := fun σ B => (m σ B).bind fun d B1 => .ok (.exn c [d]) B1
/-- C(e), C with an own __init__ that stores its argument -/
theorem s_exnF (ok : OkC g E lv X) (K : ExcI g k c) (hk : k + 1 ≤ lv) (hm : g.mg x = some (.ref (g.cl c))) (he : Snd g E H0 X false e m) (hg : Gl X x := by rfl) (hdb : (x == ("__debug__" : Str)) = false := by decide)
    (hse : starEach [e] X.env = (false, eval e X.env) :: starEach [] X.env := by rfl) (hpl : (backTo pos (starEach [] X.env)).any (·.1) = false := by rfl) : Snd g E H0 X false (.Call (.Name x p) [e] [] pos) (mExnF c m) := by
  obtain ⟨fI, fd, pn, T, iC, tI, F1, hb⟩ := K
  have F2 : FnOk X.prog X.w X.K X.mg X.base (L2N.CX X.prog X.w) k fI fd ["self", pn] (spX (g.cl c) (excF c)) := by
    rw [ok.prog, ok.w, ok.K, ok.mg, ok.base]; exact F1
  refine weak (pe_of_mk (pmk_oexN (by rw [ok.K]; exact T) (by rw [ok.K]; exact iC) (by rw [ok.K]; exact tI) F2 (ok.room.mono hk) (by rw [ok.K]; exact hb) passN hg (by rw [ok.mg]; exact hm) (pa_cons he pa_nil hse) hdb hse hpl)) ?_
  rintro σ H Q ⟨w, σI, B, s, p⟩
  refine tI_bind s p fun d B1 w1 v H1 x1 s1 r1 p1 => ?_
  refine ⟨by simp, fun a na => ⟨a, v, rfl, upd_same, fun H2 dx u n1 n2 n3 n4 n5 eH => ⟨rfl, dx, [(excF c, v)], ?_, ?_, ?_, fun a2 na2 => ?_⟩⟩⟩
  · rw [eH, upd_same]
  · rw [eH, upd_ne n3, upd_same]
  · rw [upd_ne n3] at n1; exact n1
  · rw [upd_ne n3] at n1
    rw [upd_ne n4] at n2
    have eq : upd (del H2 a) dx (.xd [(excF c, v)]) = upd (upd H1 u (mwO u a)) dx (.xd [(excF c, v)]) := by
      funext b
      by_cases hb : b = dx
      · rw [hb, upd_same, upd_same]
      · rw [upd_ne hb, upd_ne hb]
        by_cases ha : b = a
        · rw [ha, del_same, upd_ne (Ne.symm n4), na]
        · rw [del_ne ha, eH, upd_ne ha, upd_ne hb]
          by_cases hu : b = u
          · rw [hu, upd_same, upd_same]
          · rw [upd_ne hu, upd_ne hu, upd_ne ha]
    rw [eq] at na2 ⊢
    have nd : upd H1 u (mwO u a) dx = none := by rw [upd_ne (Ne.symm n5)]; exact n1
    have rb2 := (s1.rb.lay (o := mwO u a) n2).lay (o := .xd [(excF c, v)]) nd
    have x2 := (Ext.lay (w := w1) (o := mwO u a) n2).trans (Ext.lay (w := w1) (o := .xd [(excF c, v)]) nd)
    obtain ⟨rb3, l3, x3⟩ := rb2.xd (dd := dx) (fs := [(excF c, v)]) upd_same
    obtain ⟨x4, rb4⟩ := exn_reg (c := c) (dd := some dx) rb3 na2
    refine p1 _ (.ref a2) _ (x2.trans (x3.trans x4)) rb4 ?_
    simp only [RepB, Rep, Reps]
    refine ⟨a2, some dx, [v], rfl, upd_same, ⟨v, [], rfl, Rep.mono x4.le _ _ (Rep.mono l3 _ _ r1), rfl⟩, .inr ⟨dx, v, rfl, rfl, x4.le.P _ _ ?_⟩⟩
    exact upd_same
/-! ### isinstance of such values, their fields -/
structure FxN (g : Gs) : Prop where
  is : ∀ c ∈ excL, ExcC g.K (g.cl c)
  sub : ∀ c ∈ excL, ∀ d ∈ excL, PySem.W.kitOne g.K (.ref (g.cl c)) (.ref (g.cl d)) = some (c == d)
  ve : ∀ c ∈ excL, PySem.W.kitOne g.K (.ref (g.cl c)) (.type "ValueError") = some true
  rd : ∀ c ∈ excL, PySem.W.kitOne g.K (.ref (g.cl c)) (.ref (g.cl 10)) = some true
  nv : g.mg "ValueError" = Option.none
def rIsN (g : Gs) : List V → Hp → VK → Prop := fun xs H Q => ∃ (a : Addr) (c : Nat) (d : Option Addr) (y : V) (cv : Value) (b : Bool), xs = [.ref a, y] ∧ H a = some (ExD (.ref (g.cl c)) d a) ∧ (∀ dd, d = some dd → ∃ fs, H dd = some (.xd fs)) ∧ ExcC g.K (g.cl c) ∧
  (∀ u, RelV y u → u = cv) ∧ PySem.W.kitOne g.K (.ref (g.cl c)) cv = some b ∧ Q (.bl b) H
theorem call_isN (hK : X.K = g.K) : CallR X (.builtin "isinstance") (rIsN g) := by
  intro pins s σ H xs us Q I r h
  obtain ⟨a, c, d, y, cv, b, rfl, ha, hdd, C, hcv, e, q⟩ := h
  obtain ⟨u1, u2, rfl, r1, r2⟩ := vals2 r
  have ec := hcv _ r2
  subst ec
  obtain rfl : u1 = Value.ref a := r1
  obtain ⟨⟨oe, vs, hget, h1, h2, h3⟩, _, _⟩ : ObjOk X.prog X.w H s.heap a (ExD (.ref (g.cl c)) d a) := I.hok a _ ha
  rw [← hK] at C e
  obtain ⟨od, J⟩ : ∃ od, PySem.W.InstAt s.heap a oe (g.cl c) od := by
    obtain ⟨oc, od, oda, osl⟩ := oe
    dsimp only at h1 h2 h3
    subst h1 h2 h3
    cases od with
    | none => exact ⟨none, hget, rfl, rfl, trivial⟩
    | some dd =>
      obtain ⟨fs, hx⟩ := hdd dd rfl
      have ho : ObjOk X.prog X.w H s.heap dd (.xd fs) := I.hok dd _ hx
      obtain ⟨mA, hns, _⟩ := ho
      obtain ⟨o2, ho2, _⟩ := lookIn_ns hns
      exact ⟨some o2, hget, rfl, rfl, ho2⟩
  have hcl : (PySem.W.clsIn X.K (g.cl c)).isSome = true := by
    have z := C.hd
    unfold PySem.W.hasDictIn at z
    cases q : PySem.W.clsIn X.K (g.cl c) with
    | none => rw [q] at z; cases z
    | some _ => rfl
  exact PySem.W.kia_one (PySem.W.kitx_exc hcl C.hg C.hk C.hs C.ha C.hn C.ht C.hm) I.kIn J e (fun z => nomatch z) fun tk => ⟨.bl b, H, I.tok tk, rfl, q⟩
def mIsX (f : Nat → Bool) (m : Ev) : Ev := fun σ B => (m σ B).bind fun v B1 => match v with
  | .exn c _ => if c ∈ excL then .ok (.bool (f c)) B1 else .bad
  | _ => .bad
theorem isN_of {v : V} {ds : List D} (s : S0 g H0 w σI B σ H) (r : RepO g w σI σ (.exn c ds) v) : ∃ a d, v = .ref a ∧ H a = some (ExD (.ref (g.cl c)) d a) ∧ ∀ dd, d = some dd → ∃ fs, H dd = some (.xd fs) := by
  have rr := r.of s (by simp) (by simp) (by simp)
  simp only [Rep] at rr
  obtain ⟨a, d, vs, rfl, q, _, z⟩ := rr
  refine ⟨a, d, rfl, s.rb.sub _ _ q, fun dd e => ?_⟩
  rcases z with ⟨_, rfl⟩ | ⟨dd', y, _, rfl, hx⟩
  · cases e
  · cases e; exact ⟨_, s.rb.sub _ _ hx⟩
theorem s_isN (ok : Ok g X) (fn : FxN g) {cv : V} {cvv : Value} {f : Nat → Bool} {ce : Expr} (hcv : ∀ u, RelV cv u → u = cvv) (hk : ∀ c ∈ excL, PySem.W.kitOne g.K (.ref (g.cl c)) cvv = some (f c)) (hc : PE X ce (fun _ H Q => Q cv H)) (he : Snd g E H0 X b1 e m) (hg : Gl X "isinstance" := by rfl)
    (h1 : starEach [e, ce] X.env = (false, eval e X.env) :: starEach [ce] X.env := by rfl) (h2 : starEach [ce] X.env = (false, eval ce X.env) :: starEach [] X.env := by rfl) (hpl : (backTo pos (starEach [ce] X.env)).any (·.1) = false := by rfl) :
    Snd g E H0 X false (.Call (.Name "isinstance" p1) [e, ce] [] pos) (mIsX f m) := by
  refine weak (pe_callB (call_isN ok.K) hg (nbs ok) PyProof.Rows.boot_isinstance (pa_cons he (pa_cons hc pa_nil h2) h1) (by decide) (by decide) h1 hpl) ?_
  rintro σ H Q ⟨w, σI, B, s, p⟩
  refine tI_bind s p fun v B1 w1 u H1 x1 s1 r1 p1 => ?_
  split at p1
  · rename_i c ds
    split at p1
    · rename_i hx
      obtain ⟨a, d, rfl, ha, hd⟩ := isN_of s1 r1.up
      exact ⟨a, c, d, cv, cvv, _, rfl, ha, hd, fn.is c hx, hcv, hk c hx, p1.nowR s1 (rep_bool g w1 _)⟩
    · exact p1.elim
  · exact p1.elim
/-- isinstance(e, D), D an own exception class -/
theorem s_isD (ok : Ok g X) (fn : FxN g) (hd : d ∈ excL) (hm : g.mg x = some (.ref (g.cl d))) (he : Snd g E H0 X b1 e m) (hg : Gl X "isinstance" := by rfl) (hg2 : Gl X x := by rfl) (hdb : (x == ("__debug__" : Str)) = false := by decide)
    (h1 : starEach [e, .Name x p2] X.env = (false, eval e X.env) :: starEach [.Name x p2] X.env := by rfl) (h2 : starEach [.Name x p2] X.env = (false, eval (.Name x p2) X.env) :: starEach [] X.env := by rfl) (hpl : (backTo pos (starEach [.Name x p2] X.env)).any (·.1) = false := by rfl) :
    Snd g E H0 X false (.Call (.Name "isinstance" p1) [e, .Name x p2] [] pos) (mIsX (fun c => c == d) m) :=
  s_isN ok fn (cv := .ref (g.cl d)) (cvv := .ref (g.cl d)) (fun u z => z) (fun c hc => fn.sub c hc d hd) (pe_glob (v := .ref (g.cl d)) hg2 (by rw [ok.mg]; exact hm) rfl hdb) he hg h1 h2 hpl
theorem s_isR (ok : Ok g X) (fn : FxN g) (hm : g.mg x = some (.ref (g.cl 10))) (he : Snd g E H0 X b1 e m) (hg : Gl X "isinstance" := by rfl) (hg2 : Gl X x := by rfl) (hdb : (x == ("__debug__" : Str)) = false := by decide)
    (h1 : starEach [e, .Name x p2] X.env = (false, eval e X.env) :: starEach [.Name x p2] X.env := by rfl) (h2 : starEach [.Name x p2] X.env = (false, eval (.Name x p2) X.env) :: starEach [] X.env := by rfl) (hpl : (backTo pos (starEach [.Name x p2] X.env)).any (·.1) = false := by rfl) :
    Snd g E H0 X false (.Call (.Name "isinstance" p1) [e, .Name x p2] [] pos) (mIsX (fun _ => true) m) :=
  s_isN ok fn (cv := .ref (g.cl 10)) (cvv := .ref (g.cl 10)) (fun u z => z) (fun c hc => fn.rd c hc) (pe_glob (v := .ref (g.cl 10)) hg2 (by rw [ok.mg]; exact hm) rfl hdb) he hg h1 h2 hpl
theorem s_isV (ok : Ok g X) (fn : FxN g) (he : Snd g E H0 X b1 e m) (hg : Gl X "isinstance" := by rfl) (hg2 : Gl X "ValueError" := by rfl)
    (h1 : starEach [e, .Name "ValueError" p2] X.env = (false, eval e X.env) :: starEach [.Name "ValueError" p2] X.env := by rfl) (h2 : starEach [.Name "ValueError" p2] X.env = (false, eval (.Name "ValueError" p2) X.env) :: starEach [] X.env := by rfl) (hpl : (backTo pos (starEach [.Name "ValueError" p2] X.env)).any (·.1) = false := by rfl) :
    Snd g E H0 X false (.Call (.Name "isinstance" p1) [e, .Name "ValueError" p2] [] pos) (mIsX (fun _ => true) m) :=
  s_isN ok fn (cv := .ty "ValueError") (cvv := .type "ValueError") (fun u z => z) (fun c hc => fn.ve c hc) (pe_bltn (v := .ty "ValueError") hg2 (by rw [ok.mg]; exact fn.nv) (by decide +kernel) rfl (by decide) (by decide)) he hg h1 h2 hpl
/-- e.f of such a value -/
def mXn (c : Nat) (m : Ev) : Ev := fun σ B => (m σ B).bind fun v B1 => match v with
  | .exn c' [y] => if c' = c then .ok y B1 else .bad
  | _ => .bad
theorem s_xn {f : Str} (ok : Ok g X) (C : ExcC g.K (g.cl c)) (hf : excF c = f) (he : Snd g E H0 X b1 e m) (hno : PySem.W.findIn g.K (.ref (g.cl c)) f = some none) (hb : attributeBase e f X.env (eval e X.env) = eval e X.env := by rfl) : Snd g E H0 X false (.Attribute e f pos) (mXn c m) := by
  refine ⟨fun pins s σ H Q I h => ?_⟩
  obtain ⟨w, σI, B, s0, p⟩ := h
  refine attr_of hb (thn (he.run pins s σ H (fun v H1 => ∃ a dd y, v = .ref a ∧ H1 a = some (ExD (.ref (g.cl c)) (some dd) a) ∧ H1 dd = some (.xd [(f, y)]) ∧ Q y H1) I ?_) fun u s1 hh => ?_)
  · refine tI_bind s0 p fun d B1 w1 v H1 x1 s1 r1 p1 => ?_
    split at p1
    · rename_i c' y'
      split at p1
      · rename_i hx
        subst hx
        have rr := r1.up.of s1 (by simp) (by simp) (by simp)
        simp only [Rep, Reps] at rr
        obtain ⟨a, d, vs, rfl, q, ⟨vy, us, e1, ry, e2⟩, z⟩ := rr
        rcases z with ⟨rfl, _⟩ | ⟨dd, y, rfl, rfl, hx⟩
        · cases e1
        · cases e1
          rw [hf] at hx
          exact ⟨a, dd, _, rfl, s1.rb.sub _ _ q, s1.rb.sub _ _ hx, p1.nowR s1 ry⟩
      · exact p1.elim
    · exact p1.elim
  · obtain ⟨x, H1, I1, rx, a, dd, y, rfl, ha, hd, q⟩ := hh
    obtain rfl : u = Value.ref a := rx
    obtain ⟨⟨oe, vs, hget, h1, h2, h3⟩, _, _⟩ : ObjOk X.prog X.w H1 s1.heap a (ExD (.ref (g.cl c)) (some dd) a) := I1.hok a _ ha
    obtain ⟨mA, hns, hr⟩ : ObjOk X.prog X.w H1 s1.heap dd (.xd [(f, y)]) := I1.hok dd _ hd
    obtain ⟨od, ho, hl⟩ := lookIn_ns hns
    have e4 : ([(f, y)] : List (Str × V)).lookup f = some y := by simp [List.lookup]
    obtain ⟨u, hu, ru⟩ := RelO.some_of (v := y) (o := mA f) (by rw [← e4]; exact hr f)
    have J : PySem.W.InstAt s1.heap a oe (g.cl c) (some od) := ⟨hget, h1, by unfold PySem.W.notCls; rw [h3] <;> rfl, by rw [h2]; exact ho⟩
    exact HandSPX.exc_get I1.kIn J (by rw [ok.K]; exact C.hg) (by rw [ok.K]; exact C.hk) (by rw [ok.K]; exact C.hs) (PySem.W.findObj_own (by rw [ok.K]; exact C.hd) (by rw [ok.K]; exact hno) rfl (by rw [hl, hu])) (handed_of ru) ⟨y, H1, I1.tok _, ru, q⟩
end
end Hf

set_option Elab.async false
set_option linter.all false
set_option maxRecDepth 100000
set_option maxHeartbeats 4000000
/-! ### an exception with an own __init__, made with names -/
namespace PySem
namespace HandSPX
open Builtin Builtin.ObjectAttr
section
variable {prog : Program} {w : World} {A : Around} {E : Value → Shared → Prop} {R : Result → Shared → Prop} {h : Heap} {g : Array GenState} {d : Drawn} {t : Nat} {os : OsState}
variable {nm q : Str} {C N : Addr} {bs bm bmB : List Value} {hdct : Bool} {sn : List Str} {sub : List Value} {ab : Bool} {col : Option Bool} {dd : Option Addr} {k0 k1 k2 k3 k5 : Option Value} {B newId initId : String} {xs : List Value} {ks : List (Str × Value)}
theorem kw_check_new {M : Model} (F : ExcBaseFacts B newId initId bmB) (hT : ∀ X : String, bm.contains (.type X) = bmB.contains (.type X)) {P : Unit → Shared → Prop}
    (hC : h.get? C = some (excClassObj nm q C N bs bm hdct sn sub ab col dd k0 k1 k2 k3 k5 newId)) (z : P () ⟨h, g, d, t, os⟩) : wpAny M A (checkBuiltinCall newId ⟨.ref C :: xs, ks⟩) P E ⟨h, g, d, t, os⟩ := by
  have inB : (Value.ref C :: bm).contains (.type B) = true := by rw [List.contains_cons, hT, F.hasB, Bool.or_true]
  have star := F.noStar
  simp only [checkBuiltinCall, F.newKind, F.newSplit, F.newRow]
  repeat (first | refine wpAny_loadPart_at hC ?_ | (refine wpAny_isSubtype_exc hC ?_; rw [inB]) | refine wpAny_staticBase_exc hC ?_ | refine wpAny_madeBy_exc hC ?_ | simp only [bne_self_eq_false, Bool.false_eq_true, if_false] | wp_step)
  exact z
theorem kw_new (F : ExcBaseFacts B newId initId bmB) (hT : ∀ X : String, bm.contains (.type X) = bmB.contains (.type X))
    (hC : h.get? C = some (excClassObj nm q C N bs bm hdct sn sub ab col dd k0 k1 k2 k3 k5 newId))
    (z : R (.ok (.ret (.ref (h.objs.size + 1)))) ⟨(h.push (W.kdv_tup xs)).push (excO C h.objs.size), g, d, t, os⟩) (hl : xs.length ≤ sizeLine) :
    codeAny (model prog w) A (.builtin newId ⟨.ref C :: xs, ks⟩) R ⟨h, g, d, t, os⟩ := by
  have ends := F.ends
  have inB : (Value.ref C :: bm).contains (.type B) = true := by rw [List.contains_cons, hT, F.hasB, Bool.or_true]
  have noA : (Value.ref C :: bm).contains (.type "AttributeError") = false := by rw [List.contains_cons, hT, F.noAttr]; rfl
  have noN : (Value.ref C :: bm).contains (.type "NameError") = false := by rw [List.contains_cons, hT, F.noName]; rfl
  refine codeAny_builtinAt F.entry ?_
  unfold Builtin.«BaseException.__new__»
  refine wpAt_bind ?_
  show wpAt _ _ _ (stack >>= _) _ _ _
  refine wpAt_bind (wpAt_stack fun p below => wpAt_of_wpAny ?_)
  wp_walk
  refine wpAt_of_wpAny ?_
  rw [F.owner]
  repeat (first | with_reducible refine wpAny_madeHere_exc F.canon hC ?_ | with_reducible refine wpAny_loadPart_at hC ?_ | (with_reducible refine wpAny_isSubtype_exc hC ?_; first | rw [inB] | rw [noA] | rw [noN]) | wp_step)
  show R _ _
  rw [Heap.size_push]
  exact z
theorem kw_type_call (F : ExcBaseFacts B newId initId bmB) (hT : ∀ X : String, bm.contains (.type X) = bmB.contains (.type X)) {fI : Addr} {P : Fin → Shared → Prop}
    (hC : h.get? C = some (excClassObj nm q C N bs bm hdct sn sub ab col dd k0 k1 k2 k3 k5 newId))
    (hi : W.Looks (model prog w) h (typeLookup (.ref C) "__init__") (some (.ref fI))) (hb : ∀ self, W.Looks (model prog w) h (bindSpecial (.ref fI) self) (.ref fI, [self])) (hl : xs.length ≤ sizeLine)
    (hq : codeAny (model prog w) A (.call (.ref fI) ⟨.ref (h.objs.size + 1) :: xs, ks⟩)
      (fun r s' => match r with | .ok (.ret v) => v = .none ∧ P (.done (.ret (.ref (h.objs.size + 1)))) s' | .ok _ => False | .error e => E e s')
      ⟨(h.push (W.kdv_tup xs)).push (excO C h.objs.size), g, d, t, os⟩) :
    wpAny (model prog w) A (Builtin.«type.__call__» ⟨.ref C :: xs, ks⟩) P E ⟨h, g, d, t, os⟩ := by
  repeat (first | with_reducible refine wpAny_loadPart_at hC ?_ | with_reducible refine wpAny_madeBy_exc hC ?_ | wp_step)
  refine codeAny_call_builtin_code (Code.quiet_builtin _ F.quiet) (kw_check_new F hT hC ?_)
  refine kw_new F hT hC ?_ hl
  show wpAny _ _ _ _ _ _
  have kp : ∀ b o, h.get? b = some o → ((h.push (W.kdv_tup xs)).push (excO C h.objs.size)).get? b = some o := fun b o e => Heap.get?_push_of_some _ (Heap.get?_push_of_some _ e)
  have hC1 := kp _ _ hC
  have at1 : ((h.push (W.kdv_tup xs)).push (excO C h.objs.size)).get? (h.objs.size + 1) = some (excO C h.objs.size) := by heap_get
  have inC : (Value.ref C :: bm).contains (.ref C) = true := by simp
  have i1 := hi.keeps kp
  have b1 := (hb (.ref (h.objs.size + 1))).keeps kp
  unfold isInstance
  repeat (first | with_reducible refine wpAny_loadPart_at at1 ?_ | (with_reducible refine wpAny_isSubtype_exc hC1 ?_; rw [inC]) | wp_step)
  show wpAny _ _ (typeLookup (.ref C) _) _ _ _
  refine i1.at ?_
  refine wpAny_holding (wpAny_bind (b1.at ?_))
  refine wpAny_bind (wpAny_call (codeAny_mono hq fun r s' y => ?_))
  rcases r with e | (v | _ | _ | _) <;> first | exact y | exact y.elim | skip
  obtain ⟨rfl, y⟩ := y
  first
    | exact wpAny_pure (wpAny_pure y)
    | (wp_walk; exact y)
theorem kw_check_call {M : Model} {P : Unit → Shared → Prop} (hC : h.get? C = some (excClassObj nm q C N bs bm hdct sn sub ab col dd k0 k1 k2 k3 k5 newId))
    (z : P () ⟨h, g, d, t, os⟩) : wpAny M A (checkBuiltinCall "type.__call__" ⟨.ref C :: xs, ks⟩) P E ⟨h, g, d, t, os⟩ := by
  have f3 := tc_sub
  have ty : (⟨h, g, d, t, os⟩ : Shared).TypeIs (.ref C) "type" := ⟨_, hC, rfl⟩
  simp only [checkBuiltinCall, tc_kind, tc_split]
  repeat (any_goals (first | assumption | with_reducible refine wpAny_loadPart_at hC ?_ | with_reducible refine wpAny_onRaise ?_ | with_reducible refine wpAny_map ?_ | wp_step))
theorem kw_call (F : ExcBaseFacts B newId initId bmB) (hT : ∀ X : String, bm.contains (.type X) = bmB.contains (.type X)) {fI : Addr}
    (hC : h.get? C = some (excClassObj nm q C N bs bm hdct sn sub ab col dd k0 k1 k2 k3 k5 newId))
    (hi : W.Looks (model prog w) h (typeLookup (.ref C) "__init__") (some (.ref fI))) (hb : ∀ self, W.Looks (model prog w) h (bindSpecial (.ref fI) self) (.ref fI, [self])) (hl : xs.length ≤ sizeLine)
    (hq : codeAny (model prog w) (A.under (.builtin "type.__call__" ⟨.ref C :: xs, ks⟩)) (.call (.ref fI) ⟨.ref (h.objs.size + 1) :: xs, ks⟩) (W.InitBack (h.objs.size + 1) R)
      ⟨(h.push (W.kdv_tup xs)).push (excO C h.objs.size), g, d, t, os⟩) :
    codeAny (model prog w) A (.call (.ref C) ⟨xs, ks⟩) R ⟨h, g, d, t, os⟩ := by
  have f1 := tc_lookup
  have f2 := tc_bind (.ref C)
  have ty : (⟨h, g, d, t, os⟩ : Shared).TypeIs (.ref C) "type" := ⟨_, hC, rfl⟩
  refine codeAny_of_tree ?_
  show wpAny _ _ (callAny (.ref C) _) _ _ _
  repeat (any_goals (first | assumption | with_reducible refine wpAny_loadPart_at hC ?_ | wp_step))
  refine ⟨rfl, ?_⟩
  refine codeAny_call_builtin_at (Code.quiet_builtin _ (by decide +kernel)) entry_typeCall (kw_check_call hC (kw_type_call F hT hC hi hb hl ?_))
  refine codeAny_mono hq fun r s' y => ?_
  rcases r with e | (v | _ | _ | _) <;> exact y
end
end HandSPX
end PySem

set_option Elab.async false
set_option linter.all false
set_option maxRecDepth 100000
set_option maxHeartbeats 4000000
namespace Hf
open PySem PySem.Spec PyProof.Rows L2
/-! ### C(p = e), C an exception class with an own __init__ -/
def tMkK (C : Addr) (sp : Sp) (ta : TA) : L2N.St → Hp → XK → Prop := fun σ H Q => ta σ H fun vs H1 => vs.length = 1 ∧ ∀ a, H1 a = none → sp (.ref a :: vs) (upd H1 a (exo a C none))
  (fun v H2 => v = .non ∧ ∃ (d : Addr) (fs : List (Str × V)), H2 a = some (exo a C (some d)) ∧ H2 d = some (exd d fs) ∧ H1 d = none ∧ Q (.ref C) (some d) (upd (del H2 a) d (.xd fs))) (fun _ _ _ => False)
theorem pmk_oexK {X : Cx} {CX : CXT} {kws : List Keyword} {ta : TA} {p pos : Pos} {x pn : Str} {C fI : Addr} {k : Nat} {fd : FuncData} {sp : Sp} (T : OexC X.K C) (iC : PySem.W.findIn X.K (.ref C) "__init__" = some (some (.ref fI)))
    (tI : PySem.W.typeIn X.K (.ref fI) = some (.type "function")) (FO : FnOk X.prog X.w X.K X.mg X.base CX k fI fd ["self", pn] sp) (room : Room (k + 1) X.A) (bi : KwB X.K fd ["self", pn] [pn] 1 [0]) (pas : Passes CX X (fun _ _ _ => False)) (hg : Gl X x) (hm : X.mg x = some (.ref C)) (ha : PK X kws ta)
    (hdb : (x == ("__debug__" : Str)) = false := by decide) (hall : (backToKw pos (keywordEach kws X.env)).all (·.1.isSome) = true := by rfl)
    (hks : (backToKw pos (keywordEach kws X.env)).filterMap (·.1) = [pn] := by rfl) (hpl : ((backTo pos (starEach [] X.env)).any (·.1) || (backToKw pos (keywordEach kws X.env)).any (·.1.isNone)) = false := by rfl) :
    L2N.PMk X (.Call (.Name x p) [] kws pos) (tMkK C sp ta) := fun pins s σ H Q I h => by
  have TC := T.cls
  obtain ⟨cn, cq, cN, cb, cm, cs, cu, ca, cc, ce, c0, c1, c2, c3, c5, hcl, hmro⟩ := TC
  refine wpAny_Call_Name_kw (ld_glob I hg hm ?_ hdb)
  refine PySem.W.callWith_KW0 (h₀ := X.base) I.ok.mod.kin T.kC hall (thn (ha.run pos pins s σ H _ I h) fun us s1 ⟨vs, Ha, Ia, ra, hz, qa⟩ => ⟨Ia.kIn, ?_⟩) hpl
  rw [hks]
  obtain ⟨u, rfl⟩ : ∃ u, us = [u] := by
    have e := ra.length
    rw [hz] at e
    match us, e with
    | [u], _ => exact ⟨u, rfl⟩
  obtain ⟨ha, ga, da, ka, oa⟩ := s1
  let ea : Addr := ha.objs.size + 1
  let hb := (ha.push (PySem.W.kdv_tup [])).push (PySem.HandSPX.excO C ha.objs.size)
  have le1 : ha.objs.size ≤ ea := Nat.le_succ _
  have fr : Ha ea = none := Ia.hok.fresh le1
  have qe := qa ea fr
  have kp : ∀ b o, ha.get? b = some o → hb.get? b = some o := fun b o z => Heap.get?_push_of_some _ (Heap.get?_push_of_some _ z)
  have ge : hb.get? ea = some (PySem.HandSPX.excO C ha.objs.size) := by show ((ha.push _).push _).get? (ha.objs.size + 1) = _; heap_get
  have Ib : Inv X pins σ (upd Ha ea (exo ea C none)) ⟨hb, ga, da, ka, oa⟩ := Ia.laid (t' := ka) (a := ea) (o := exo ea C none) (h' := hb) kp le1 (exo_ok ge)
  have rb : Vals (V.ref ea :: vs) ([Value.ref ea] ++ permL [0] [u]) := .cons rfl ra
  have bd := bi _ [Value.ref ea] [u] Ib.kIn rfl rfl
  have run := FO.run _ X.stack _ _ ⟨[Value.ref ea], [pn].zip [u]⟩ ([Value.ref ea] ++ permL [0] [u]) _ _ (fun _ _ _ => False) (room.make C [] ([pn].zip [u])) (Ib.env0.make C [] ([pn].zip [u])) bd rb qe
  refine wpAny_call (PySem.HandSPX.kw_call F.excBase_ValueError (fun Y => PySem.HandSPX.refsVE_contains Y cm hmro) (Ia.kIn _ _ hcl) (PySem.W.looks_findIn Ia.kIn iC) (fun self => PySem.W.bind_fn Ia.kIn self tI) (by simp) (codeAny_mono run fun r s' hr => ?_))
  match r, hr with
  | .error er, hr => exact pas pins σ _ _ er s' Ib hr
  | .ok .next, hr => exact False.elim hr
  | .ok .brk, hr => exact False.elim hr
  | .ok .cont, hr => exact False.elim hr
  | .ok (.ret u), hr =>
    obtain ⟨v, Hc, oc, bc, uc, hc, rv, ev, d, fs, e1, e2, e3, qc⟩ := hr
    subst ev
    obtain ⟨h2, g2, d2, t2, os'⟩ := s'
    obtain ⟨t0, G, J, kG, gn, go, na⟩ := mk_end0 (d2 := d2) (t2 := t2) Ia le1 kp uc hc oc bc e1 e2 e3
    refine ⟨rv, ea, _, _, ⟨G, g2, d2, t2, os'⟩, _, .ref C, some d, rfl, J, kG, gn, go, ⟨rfl, rfl, fun vs2 z => ?_⟩, rfl, rfl, na, rfl, bc, raises_own T.exC T.tyC, qc⟩
    cases z
    rfl
section
variable {g : Gs} {E : XK} {w0 w : Wd} {H0 H : Hp} {X : Cx} {e : Expr} {m : Ev} {pos p p1 p2 kpos : Pos} {x pn : Str} {lv c d k : Nat} {σI : Sl} {σ : L2.St} {B : Bs} {Q : VK} {b1 : Bool}
def ExcIK (g : Gs) (k c : Nat) (pn : Str) : Prop := ∃ (fI : Addr) (fd : FuncData), OexC g.K (g.cl c) ∧ PySem.W.findIn g.K (.ref (g.cl c)) "__init__" = some (some (.ref fI)) ∧ PySem.W.typeIn g.K (.ref fI) = some (.type "function") ∧
  FnOk g.prog g.w g.K g.mg g.base (L2N.CX g.prog g.w) k fI fd ["self", pn] (spX (g.cl c) (excF c)) ∧ KwB g.K fd ["self", pn] [pn] 1 [0]
theorem s_exnFK (ok : OkC g E lv X) (K : ExcIK g k c pn) (hk : k + 1 ≤ lv) (hm : g.mg x = some (.ref (g.cl c))) (he : Snd g E H0 X false e m) (hg : Gl X x := by rfl) (hdb : (x == ("__debug__" : Str)) = false := by decide)
    (hall : (backToKw pos (keywordEach [⟨some pn, e, kpos⟩] X.env)).all (·.1.isSome) = true := by rfl)
    (hks : (backToKw pos (keywordEach [⟨some pn, e, kpos⟩] X.env)).filterMap (·.1) = [pn] := by rfl) (hpl : ((backTo pos (starEach [] X.env)).any (·.1) || (backToKw pos (keywordEach [⟨some pn, e, kpos⟩] X.env)).any (·.1.isNone)) = false := by rfl) :
    Snd g E H0 X false (.Call (.Name x p) [] [⟨some pn, e, kpos⟩] pos) (mExnF c m) := by
  obtain ⟨fI, fd, T, iC, tI, F1, hb⟩ := K
  have F2 : FnOk X.prog X.w X.K X.mg X.base (L2N.CX X.prog X.w) k fI fd ["self", pn] (spX (g.cl c) (excF c)) := by
    rw [ok.prog, ok.w, ok.K, ok.mg, ok.base]; exact F1
  refine weak (pe_of_mk (pmk_oexK (by rw [ok.K]; exact T) (by rw [ok.K]; exact iC) (by rw [ok.K]; exact tI) F2 (ok.room.mono hk) (by rw [ok.K]; exact hb) passN hg (by rw [ok.mg]; exact hm) (pk_cons he pk_nil) hdb hall hks hpl)) ?_
  rintro σ H Q ⟨w, σI, B, s, p⟩
  refine tI_bind s p fun d B1 w1 v H1 x1 s1 r1 p1 => ?_
  refine ⟨rfl, fun a na => ⟨a, v, rfl, upd_same, fun H2 dx u n1 n2 n3 n4 n5 eH => ⟨rfl, dx, [(excF c, v)], ?_, ?_, ?_, fun a2 na2 => ?_⟩⟩⟩
  · rw [eH, upd_same]
  · rw [eH, upd_ne n3, upd_same]
  · rw [upd_ne n3] at n1; exact n1
  · rw [upd_ne n3] at n1
    rw [upd_ne n4] at n2
    have eq : upd (del H2 a) dx (.xd [(excF c, v)]) = upd (upd H1 u (mwO u a)) dx (.xd [(excF c, v)]) := by
      funext b
      by_cases hb : b = dx
      · rw [hb, upd_same, upd_same]
      · rw [upd_ne hb, upd_ne hb]
        by_cases ha : b = a
        · rw [ha, del_same, upd_ne (Ne.symm n4), na]
        · rw [del_ne ha, eH, upd_ne ha, upd_ne hb]
          by_cases hu : b = u
          · rw [hu, upd_same, upd_same]
          · rw [upd_ne hu, upd_ne hu, upd_ne ha]
    rw [eq] at na2 ⊢
    have nd : upd H1 u (mwO u a) dx = none := by rw [upd_ne (Ne.symm n5)]; exact n1
    have rb2 := (s1.rb.lay (o := mwO u a) n2).lay (o := .xd [(excF c, v)]) nd
    have x2 := (Ext.lay (w := w1) (o := mwO u a) n2).trans (Ext.lay (w := w1) (o := .xd [(excF c, v)]) nd)
    obtain ⟨rb3, l3, x3⟩ := rb2.xd (dd := dx) (fs := [(excF c, v)]) upd_same
    obtain ⟨x4, rb4⟩ := exn_reg (c := c) (dd := some dx) rb3 na2
    refine p1 _ (.ref a2) _ (x2.trans (x3.trans x4)) rb4 ?_
    simp only [RepB, Rep, Reps]
    refine ⟨a2, some dx, [v], rfl, upd_same, ⟨v, [], rfl, Rep.mono x4.le _ _ (Rep.mono l3 _ _ r1), rfl⟩, .inr ⟨dx, v, rfl, rfl, x4.le.P _ _ ?_⟩⟩
    exact upd_same
end
end Hf

set_option Elab.async false
set_option linter.all false
set_option maxRecDepth 100000
set_option maxHeartbeats 4000000
namespace Hk
open PySem PySem.Spec PyProof.Rows L2 Hf
theorem nbg {g : Gs} {X : Cx} (ok : Ok g X) (x : String) (h : x ∈ ["len", "range", "isinstance", "tuple", "list", "all", "any", "max", "min", "set", "sorted", "enumerate", "zip", "repr", "str", "int", "sum", "dict", "bool"] := by decide) : g.mg (Str.ofString x) = Option.none := ok.fx.nb x h
abbrev RX : List Nat := [11]
theorem init_s27 : InitS t_TooManyInit "limit" "limit" := ⟨⟨rfl, rfl, rfl, by decide +kernel, by decide +kernel, by decide +kernel, rfl, by decide +kernel⟩, rfl, rfl, ⟨rfl, rfl⟩, ⟨_, _, _, _, _, _, _, _, _, _, _, _, rfl, rfl⟩⟩
theorem init_s28 : InitS t_BrokenInit "kind" "kind" := ⟨⟨rfl, rfl, rfl, by decide +kernel, by decide +kernel, by decide +kernel, rfl, by decide +kernel⟩, rfl, rfl, ⟨rfl, rfl⟩, ⟨_, _, _, _, _, _, _, _, _, _, _, _, rfl, rfl⟩⟩
theorem bW__law_word {g : Gs} (XM11 : g.mg "NoWords" = some (.ref (g.cl 11))) (XM12 : g.mg "NoCode" = some (.ref (g.cl 12))) (XM13 : g.mg "NoValue" = some (.ref (g.cl 13))) (XM14 : g.mg "NoWord" = some (.ref (g.cl 14))) (XM15 : g.mg "NoOrder" = some (.ref (g.cl 15))) (XM16 : g.mg "NoPlaces" = some (.ref (g.cl 16))) (XM17 : g.mg "NoText" = some (.ref (g.cl 17))) (XM18 : g.mg "NoSpan" = some (.ref (g.cl 18))) (XM19 : g.mg "NoNumber" = some (.ref (g.cl 19))) (XM20 : g.mg "NoBridge" = some (.ref (g.cl 20))) (XM21 : g.mg "NoState" = some (.ref (g.cl 21))) (XM22 : g.mg "NoBeat" = some (.ref (g.cl 22))) (XM23 : g.mg "NoLap" = some (.ref (g.cl 23))) (XM24 : g.mg "NoLook" = some (.ref (g.cl 24))) (XM25 : g.mg "NothingDone" = some (.ref (g.cl 25))) (XM26 : g.mg "TooMuch" = some (.ref (g.cl 26))) (XM27 : g.mg "TooMany" = some (.ref (g.cl 27))) (XM28 : g.mg "Broken" = some (.ref (g.cl 28))) : ∀ (E : XK) (w0 : Wd) (H0 : Hp) (X : Cx) (c : Nat) (a : Addr) (po : Option Addr), OkW g RX X c a po → X.N = (["_law_e", "_law_marks", "_law_names"] : List Str) → X.env.scope = defScope (top 40) → X.fn = (fun _ => true) → SndB g E w0 H0 X (defBody (top 40)) (mWord c a po) := by
  intro E w0 H0 X c a po ok hN hs hf
  obtain ⟨prog, w', K, mg, base, A, N, s_0, H_0, ⟨e1, e2, e3, e4, e5, e6, e7, e8, e9⟩, outer, stack, ex, fn, calm, pn, xe⟩ := X
  simp only at hN hs hf
  subst hN hs hf
  have nd : (["_law_e", "_law_marks", "_law_names"] : List Str).Nodup := by decide +kernel
  have kb := ok.toOkB
  exact (b_cons (z_set (i := 1) nd (s_lst (a_cons (s_isE ok (by decide) XM11 (s_var (i := 0))) (a_cons (s_isE ok (by decide) XM12 (s_var (i := 0))) (a_cons (s_isE ok (by decide) XM13 (s_var (i := 0))) (a_cons (s_isE ok (by decide) XM14 (s_var (i := 0))) a_nil))))))
  (b_cons (z_set (i := 1) nd (s_addH kb (s_var (i := 1)) (s_lst (a_cons (s_isE ok (by decide) XM15 (s_var (i := 0))) (a_cons (s_isE ok (by decide) XM16 (s_var (i := 0))) (a_cons (s_isE ok (by decide) XM17 (s_var (i := 0))) (a_cons (s_isE ok (by decide) XM18 (s_var (i := 0))) a_nil)))))))
  (b_cons (z_set (i := 1) nd (s_addH kb (s_var (i := 1)) (s_lst (a_cons (s_isE ok (by decide) XM19 (s_var (i := 0))) (a_cons (s_isE ok (by decide) XM20 (s_var (i := 0))) (a_cons (s_isE ok (by decide) XM21 (s_var (i := 0))) (a_cons (s_isE ok (by decide) XM22 (s_var (i := 0))) a_nil)))))))
  (b_cons (z_set (i := 1) nd (s_addH kb (s_var (i := 1)) (s_lst (a_cons (s_isE ok (by decide) XM23 (s_var (i := 0))) (a_cons (s_isE ok (by decide) XM24 (s_var (i := 0))) (a_cons (s_isE ok (by decide) XM25 (s_var (i := 0))) (a_cons (s_isE ok (by decide) XM26 (s_var (i := 0))) a_nil)))))))
  (b_cons (z_set (i := 1) nd (s_addH kb (s_var (i := 1)) (s_lst (a_cons (s_isE ok (by decide) XM27 (s_var (i := 0))) (a_cons (s_isE ok (by decide) XM28 (s_var (i := 0))) a_nil)))))
  (b_cons (z_if (t_w (w_or (t_cmp (c_neH kb) (s_cntH kb (s_var (i := 1)) s_bool) s_int) (w_or1 (t_not (t_valH kb (s_isVE ok (s_var (i := 0)))))))) (b_one (z_ret s_str)) b_nil)
  (b_cons (z_set (i := 2) nd (s_lst (a_cons s_str (a_cons s_str (a_cons s_str (a_cons s_str (a_cons s_str (a_cons s_str (a_cons s_str (a_cons s_str (a_cons s_str a_nil)))))))))))
  (b_cons (z_set (i := 2) nd (s_addH kb (s_var (i := 2)) (s_lst (a_cons s_str (a_cons s_str (a_cons s_str (a_cons s_str (a_cons s_str (a_cons s_str (a_cons s_str a_nil))))))))))
  (b_cons (z_if (t_valH kb (s_isE ok (by decide) XM27 (s_var (i := 0)))) (b_one z_bad) b_nil)
  (b_one (z_ret (s_ite (t_valH kb (s_isE ok (by decide) XM28 (s_var (i := 0)))) (s_addH kb s_str (s_reprH kb (s_xf ok (s_var (i := 0)) (ok.fe.kd c ok.mem)))) (s_ixH kb (s_var (i := 2)) (s_idxH kb (s_var (i := 1)) s_bool))))))))))))))
theorem said_s : SaidS t__law_said := ⟨⟨rfl, rfl, rfl, by decide +kernel, rfl, by decide +kernel, by decide +kernel⟩, rfl, rfl, rfl, rfl, rfl, ⟨_, _, _, _, _, _, _, _, _, _, _, _, _, _, _, rfl⟩⟩
/-! ### _law_pen -/
abbrev n__law_pen : List Str := ["_law_cell"]
def m__law_pen : Ms := (mRet (mBox (mLst (mCons (mBin fMax2 (mC (.int 0)) (mBin fSub (mVar 0) (mBin fPow (mC (.int 10)) (mC (.int 18))))) (mCons (mBin fAdd (mBin fMod (mVar 0) (mC (.int 2147483629))) (mC (.int 1))) (mCons (mC (.int 0)) mNil))))))
def f__law_pen : Fn := mkFn 1 1 m__law_pen
theorem b__law_pen {g : Gs}  : ∀ (E : XK) (w0 : Wd) (H0 : Hp) (X : Cx), OkC g E 0 X → PassesOwn (model X.prog X.w) X.A X.env X.xe → L2N.Takes X (fun cls d _ H => E cls d H) → X.N = n__law_pen → X.env.scope = defScope (t__law_pen) → X.fn = (fun _ => true) → SndB g E w0 H0 X (defBody (t__law_pen)) m__law_pen := by
  intro E w0 H0 X c po tk hN hs hf
  obtain ⟨prog, w', K, mg, base, A, N, s_0, H_0, ⟨e1, e2, e3, e4, e5, e6, e7, e8, e9⟩, outer, stack, ex, fn, calm, pn, xe⟩ := X
  simp only at hN hs hf
  subst hN hs hf
  have nd : (n__law_pen).Nodup := by decide +kernel
  exact (b_one (z_ret (s_box (f_lst (a_cons (q_max2 c.toOk s_int (s_sub (s_var (i := 0)) (s_pow s_int s_int))) (a_cons (s_add c.toOk (s_mod (s_var (i := 0)) s_int) s_int) (a_cons s_int a_nil)))))))
/-! ### _law_draw -/
abbrev n__law_draw : List Str := ["_law_pen_here", "_law_many", "_law_found", "_law_mixed_here"]
def m__law_draw : Ms := (mSeq (mIf (mCmpT fGt (mBin fIx (mVar 0) (mC (.int 0))) (mC (.int 0))) (mSeq (mSet 2 (mBin fMod (mBin fIx (mVar 0) (mC (.int 0))) (mVar 1)))
  (mSeq (mSetIx (mVar 0) (mC (.int 0)) (mBin fDiv (mBin fIx (mVar 0) (mC (.int 0))) (mVar 1)))
  (mRet (mVar 2)))) mSkip)
  (mSeq (mSetIx (mVar 0) (mC (.int 2)) (mBin fAdd (mBin fIx (mVar 0) (mC (.int 2))) (mC (.int 1))))
  (mSeq (mSetIx (mVar 0) (mC (.int 1)) (mBin fMod (mBin fAdd (mBin fAdd (mBin fMul (mBin fIx (mVar 0) (mC (.int 1))) (mC (.int 48271))) (mBin fMul (mC (.int 1009)) (mBin fIx (mVar 0) (mC (.int 2))))) (mC (.int 7))) (mC (.int 2147483647))))
  (mSeq (mSet 3 (mBin fMod (mBin fAdd (mBin fAdd (mBin fMul (mBin fIx (mVar 0) (mC (.int 1))) (mBin fIx (mVar 0) (mC (.int 1)))) (mBin fMul (mC (.int 69621)) (mBin fIx (mVar 0) (mC (.int 1))))) (mC (.int 11))) (mC (.int 2147483629))))
  (mSeq (mSet 3 (mBin fMod (mBin fAdd (mBin fMul (mVar 3) (mVar 3)) (mBin fMul (mC (.int 40014)) (mVar 3))) (mC (.int 2147483587))))
  (mRet (mBin fMod (mBin fDiv (mVar 3) (mC (.int 16))) (mVar 1))))))))
def f__law_draw : Fn := mkFn 2 4 m__law_draw
theorem b__law_draw {g : Gs}  : ∀ (E : XK) (w0 : Wd) (H0 : Hp) (X : Cx), OkC g E 0 X → PassesOwn (model X.prog X.w) X.A X.env X.xe → L2N.Takes X (fun cls d _ H => E cls d H) → X.N = n__law_draw → X.env.scope = defScope (t__law_draw) → X.fn = (fun _ => true) → SndB g E w0 H0 X (defBody (t__law_draw)) m__law_draw := by
  intro E w0 H0 X c po tk hN hs hf
  obtain ⟨prog, w', K, mg, base, A, N, s_0, H_0, ⟨e1, e2, e3, e4, e5, e6, e7, e8, e9⟩, outer, stack, ex, fn, calm, pn, xe⟩ := X
  simp only at hN hs hf
  subst hN hs hf
  have nd : (n__law_draw).Nodup := by decide +kernel
  exact (b_cons (z_if (t_cmp c_gt (s_ix c.toOk (s_var (i := 0)) s_int) s_int) (b_cons (z_set (i := 2) nd (s_mod (s_ix c.toOk (s_var (i := 0)) s_int) (s_var (i := 1))))
  (b_cons (z_setIx (s_div (s_ix c.toOk (s_var (i := 0)) s_int) (s_var (i := 1))) (s_var (i := 0)) s_int)
  (b_one (z_ret (s_var (i := 2)))))) b_nil)
  (b_cons (z_setIx (s_add c.toOk (s_ix c.toOk (s_var (i := 0)) s_int) s_int) (s_var (i := 0)) s_int)
  (b_cons (z_setIx (s_mod (s_add c.toOk (s_add c.toOk (s_mul c.toOk (s_ix c.toOk (s_var (i := 0)) s_int) s_int) (s_mul c.toOk s_int (s_ix c.toOk (s_var (i := 0)) s_int))) s_int) s_int) (s_var (i := 0)) s_int)
  (b_cons (z_set (i := 3) nd (s_mod (s_add c.toOk (s_add c.toOk (s_mul c.toOk (s_ix c.toOk (s_var (i := 0)) s_int) (s_ix c.toOk (s_var (i := 0)) s_int)) (s_mul c.toOk s_int (s_ix c.toOk (s_var (i := 0)) s_int))) s_int) s_int))
  (b_cons (z_set (i := 3) nd (s_mod (s_add c.toOk (s_mul c.toOk (s_var (i := 3)) (s_var (i := 3))) (s_mul c.toOk s_int (s_var (i := 3)))) s_int))
  (b_one (z_ret (s_mod (s_div (s_var (i := 3)) s_int) (s_var (i := 1))))))))))
/-! ### _law_pick -/
abbrev n__law_pick : List Str := ["_law_pen_here", "_law_some"]
def m__law_pick : Ms := (mRet (mBin fIx (mVar 1) (mCall f__law_draw [] (mCons (mVar 0) (mCons (m1 fLen (mVar 1)) mNil)))))
def f__law_pick : Fn := mkFn 2 2 m__law_pick
theorem b__law_pick {g : Gs}  (d__law_draw : Def g 1 "_law_draw" [] f__law_draw) : ∀ (E : XK) (w0 : Wd) (H0 : Hp) (X : Cx), OkC g E 1 X → PassesOwn (model X.prog X.w) X.A X.env X.xe → L2N.Takes X (fun cls d _ H => E cls d H) → X.N = n__law_pick → X.env.scope = defScope (t__law_pick) → X.fn = (fun _ => true) → SndB g E w0 H0 X (defBody (t__law_pick)) m__law_pick := by
  intro E w0 H0 X c po tk hN hs hf
  obtain ⟨prog, w', K, mg, base, A, N, s_0, H_0, ⟨e1, e2, e3, e4, e5, e6, e7, e8, e9⟩, outer, stack, ex, fn, calm, pn, xe⟩ := X
  simp only at hN hs hf
  subst hN hs hf
  have nd : (n__law_pick).Nodup := by decide +kernel
  exact (b_one (z_ret (s_ix c.toOk (s_var (i := 1)) (s_call c d__law_draw (by decide) (a_cons (s_var (i := 0)) (a_cons (q_len c.toOk (s_var (i := 1))) a_nil))))))
/-! ### _law_cell_at -/
abbrev n__law_cell_at : List Str := ["_law_script", "_law_k"]
def m__law_cell_at : Ms := (mSeq (mIf (mCmpT fLt (mVar 1) (m1 fLen (mVar 0))) (mRet (mBin fIx (mVar 0) (mVar 1))) mSkip)
  (mRet (mC (.int 0))))
def f__law_cell_at : Fn := mkFn 2 2 m__law_cell_at
theorem b__law_cell_at {g : Gs}  : ∀ (E : XK) (w0 : Wd) (H0 : Hp) (X : Cx), OkC g E 0 X → PassesOwn (model X.prog X.w) X.A X.env X.xe → L2N.Takes X (fun cls d _ H => E cls d H) → X.N = n__law_cell_at → X.env.scope = defScope (t__law_cell_at) → X.fn = (fun _ => true) → SndB g E w0 H0 X (defBody (t__law_cell_at)) m__law_cell_at := by
  intro E w0 H0 X c po tk hN hs hf
  obtain ⟨prog, w', K, mg, base, A, N, s_0, H_0, ⟨e1, e2, e3, e4, e5, e6, e7, e8, e9⟩, outer, stack, ex, fn, calm, pn, xe⟩ := X
  simp only at hN hs hf
  subst hN hs hf
  have nd : (n__law_cell_at).Nodup := by decide +kernel
  exact (b_cons (z_if (t_cmp c_lt (s_var (i := 1)) (q_len c.toOk (s_var (i := 0)))) (b_one (z_ret (s_ix c.toOk (s_var (i := 0)) (s_var (i := 1))))) b_nil)
  (b_one (z_ret s_int)))
/-! ### _law_word -/
abbrev n__law_word : List Str := ["_law_e", "_law_marks", "_law_names"]
def m__law_word : Ms := (mSeq (mSet 1 (mLst (mCons (mIsX (fun c => c == 11) (mVar 0)) (mCons (mIsX (fun c => c == 12) (mVar 0)) (mCons (mIsX (fun c => c == 13) (mVar 0)) (mCons (mIsX (fun c => c == 14) (mVar 0)) mNil))))))
  (mSeq (mSet 1 (mBin fAdd (mVar 1) (mLst (mCons (mIsX (fun c => c == 15) (mVar 0)) (mCons (mIsX (fun c => c == 16) (mVar 0)) (mCons (mIsX (fun c => c == 17) (mVar 0)) (mCons (mIsX (fun c => c == 18) (mVar 0)) mNil)))))))
  (mSeq (mSet 1 (mBin fAdd (mVar 1) (mLst (mCons (mIsX (fun c => c == 19) (mVar 0)) (mCons (mIsX (fun c => c == 20) (mVar 0)) (mCons (mIsX (fun c => c == 21) (mVar 0)) (mCons (mIsX (fun c => c == 22) (mVar 0)) mNil)))))))
  (mSeq (mSet 1 (mBin fAdd (mVar 1) (mLst (mCons (mIsX (fun c => c == 23) (mVar 0)) (mCons (mIsX (fun c => c == 24) (mVar 0)) (mCons (mIsX (fun c => c == 25) (mVar 0)) (mCons (mIsX (fun c => c == 26) (mVar 0)) mNil)))))))
  (mSeq (mSet 1 (mBin fAdd (mVar 1) (mLst (mCons (mIsX (fun c => c == 27) (mVar 0)) (mCons (mIsX (fun c => c == 28) (mVar 0)) mNil)))))
  (mSeq (mIf (mOrT (mCmpT fNe (mCntL (mVar 1) (mC (.bool true))) (mC (.int 1))) (mNotT (mT (mIsX (fun _ => true) (mVar 0))))) (mRet (mC (.str (Str.ofString "other")))) mSkip)
  (mSeq (mSet 2 (mLst (mCons (mC (.str (Str.ofString "NoWords"))) (mCons (mC (.str (Str.ofString "NoCode"))) (mCons (mC (.str (Str.ofString "NoValue"))) (mCons (mC (.str (Str.ofString "NoWord"))) (mCons (mC (.str (Str.ofString "NoOrder"))) (mCons (mC (.str (Str.ofString "NoPlaces"))) (mCons (mC (.str (Str.ofString "NoText"))) (mCons (mC (.str (Str.ofString "NoSpan"))) (mCons (mC (.str (Str.ofString "NoNumber"))) mNil)))))))))))
  (mSeq (mSet 2 (mBin fAdd (mVar 2) (mLst (mCons (mC (.str (Str.ofString "NoBridge"))) (mCons (mC (.str (Str.ofString "NoState"))) (mCons (mC (.str (Str.ofString "NoBeat"))) (mCons (mC (.str (Str.ofString "NoLap"))) (mCons (mC (.str (Str.ofString "NoLook"))) (mCons (mC (.str (Str.ofString "NothingDone"))) (mCons (mC (.str (Str.ofString "TooMuch"))) mNil))))))))))
  (mSeq (mIf (mT (mIsX (fun c => c == 27) (mVar 0))) (mRet (mBin fAdd (mC (.str (Str.ofString "TooMany "))) (m1 fRepr (mXn 27 (mVar 0))))) mSkip)
  (mRet (mIte (mT (mIsX (fun c => c == 28) (mVar 0))) (mBin fAdd (mC (.str (Str.ofString "Broken "))) (m1 fRepr (mXn 28 (mVar 0)))) (mBin fIx (mVar 2) (mIdxL (mVar 1) (mC (.bool true)))))))))))))))
def f__law_word : Fn := mkFn 1 3 m__law_word
theorem b__law_word {g : Gs} (fxn : FxN g) (XM11 : g.mg "NoWords" = some (.ref (g.cl 11))) (XM12 : g.mg "NoCode" = some (.ref (g.cl 12))) (XM13 : g.mg "NoValue" = some (.ref (g.cl 13))) (XM14 : g.mg "NoWord" = some (.ref (g.cl 14))) (XM15 : g.mg "NoOrder" = some (.ref (g.cl 15))) (XM16 : g.mg "NoPlaces" = some (.ref (g.cl 16))) (XM17 : g.mg "NoText" = some (.ref (g.cl 17))) (XM18 : g.mg "NoSpan" = some (.ref (g.cl 18))) (XM19 : g.mg "NoNumber" = some (.ref (g.cl 19))) (XM20 : g.mg "NoBridge" = some (.ref (g.cl 20))) (XM21 : g.mg "NoState" = some (.ref (g.cl 21))) (XM22 : g.mg "NoBeat" = some (.ref (g.cl 22))) (XM23 : g.mg "NoLap" = some (.ref (g.cl 23))) (XM24 : g.mg "NoLook" = some (.ref (g.cl 24))) (XM25 : g.mg "NothingDone" = some (.ref (g.cl 25))) (XM26 : g.mg "TooMuch" = some (.ref (g.cl 26))) (XM27 : g.mg "TooMany" = some (.ref (g.cl 27))) (XM28 : g.mg "Broken" = some (.ref (g.cl 28))) (XF27 : PySem.W.findIn g.K (.ref (g.cl 27)) "limit" = some none) (XF28 : PySem.W.findIn g.K (.ref (g.cl 28)) "kind" = some none) : ∀ (E : XK) (w0 : Wd) (H0 : Hp) (X : Cx), OkG g E 0 X → PassesOwn (model X.prog X.w) X.A X.env X.xe → L2N.Takes X (fun cls d _ H => E cls d H) → X.N = n__law_word → X.env.scope = defScope (t__law_word) → X.fn = (fun _ => true) → SndB g E w0 H0 X (defBody (t__law_word)) m__law_word := by
  intro E w0 H0 X cg po tk hN hs hf
  obtain ⟨prog, w', K, mg, base, A, N, s_0, H_0, ⟨e1, e2, e3, e4, e5, e6, e7, e8, e9⟩, outer, stack, ex, fn, calm, pn, xe⟩ := X
  simp only at hN hs hf
  subst hN hs hf
  have c := cg.toOkC
  have nd : (n__law_word).Nodup := by decide +kernel
  exact (b_cons (z_set (i := 1) nd (f_val (f_lst (a_cons (s_isD (d := 11) c.toOk fxn (by decide) XM11 (s_var (i := 0))) (a_cons (s_isD (d := 12) c.toOk fxn (by decide) XM12 (s_var (i := 0))) (a_cons (s_isD (d := 13) c.toOk fxn (by decide) XM13 (s_var (i := 0))) (a_cons (s_isD (d := 14) c.toOk fxn (by decide) XM14 (s_var (i := 0))) a_nil)))))))
  (b_cons (z_set (i := 1) nd (s_add c.toOk (s_var (i := 1)) (f_val (f_lst (a_cons (s_isD (d := 15) c.toOk fxn (by decide) XM15 (s_var (i := 0))) (a_cons (s_isD (d := 16) c.toOk fxn (by decide) XM16 (s_var (i := 0))) (a_cons (s_isD (d := 17) c.toOk fxn (by decide) XM17 (s_var (i := 0))) (a_cons (s_isD (d := 18) c.toOk fxn (by decide) XM18 (s_var (i := 0))) a_nil))))))))
  (b_cons (z_set (i := 1) nd (s_add c.toOk (s_var (i := 1)) (f_val (f_lst (a_cons (s_isD (d := 19) c.toOk fxn (by decide) XM19 (s_var (i := 0))) (a_cons (s_isD (d := 20) c.toOk fxn (by decide) XM20 (s_var (i := 0))) (a_cons (s_isD (d := 21) c.toOk fxn (by decide) XM21 (s_var (i := 0))) (a_cons (s_isD (d := 22) c.toOk fxn (by decide) XM22 (s_var (i := 0))) a_nil))))))))
  (b_cons (z_set (i := 1) nd (s_add c.toOk (s_var (i := 1)) (f_val (f_lst (a_cons (s_isD (d := 23) c.toOk fxn (by decide) XM23 (s_var (i := 0))) (a_cons (s_isD (d := 24) c.toOk fxn (by decide) XM24 (s_var (i := 0))) (a_cons (s_isD (d := 25) c.toOk fxn (by decide) XM25 (s_var (i := 0))) (a_cons (s_isD (d := 26) c.toOk fxn (by decide) XM26 (s_var (i := 0))) a_nil))))))))
  (b_cons (z_set (i := 1) nd (s_add c.toOk (s_var (i := 1)) (f_val (f_lst (a_cons (s_isD (d := 27) c.toOk fxn (by decide) XM27 (s_var (i := 0))) (a_cons (s_isD (d := 28) c.toOk fxn (by decide) XM28 (s_var (i := 0))) a_nil))))))
  (b_cons (z_if (t_w (w_or (t_cmp (c_ne c.toOk) (s_cnt c (s_var (i := 1)) s_bool) s_int) (w_or1 (t_not (t_val c.toOk (s_isV c.toOk fxn (s_var (i := 0)))))))) (b_one (z_ret s_str)) b_nil)
  (b_cons (z_set (i := 2) nd (f_val (f_lst (a_cons s_str (a_cons s_str (a_cons s_str (a_cons s_str (a_cons s_str (a_cons s_str (a_cons s_str (a_cons s_str (a_cons s_str a_nil))))))))))))
  (b_cons (z_set (i := 2) nd (s_add c.toOk (s_var (i := 2)) (f_val (f_lst (a_cons s_str (a_cons s_str (a_cons s_str (a_cons s_str (a_cons s_str (a_cons s_str (a_cons s_str a_nil)))))))))))
  (b_cons (z_if (t_val c.toOk (s_isD (d := 27) c.toOk fxn (by decide) XM27 (s_var (i := 0)))) (b_one (z_ret (s_add c.toOk s_str (q_repr cg (s_xn (c := 27) c.toOk (fxn.is 27 (by decide)) rfl (s_var (i := 0)) XF27))))) b_nil)
  (b_one (z_ret (s_ite (t_val c.toOk (s_isD (d := 28) c.toOk fxn (by decide) XM28 (s_var (i := 0)))) (s_add c.toOk s_str (q_repr cg (s_xn (c := 28) c.toOk (fxn.is 28 (by decide)) rfl (s_var (i := 0)) XF28))) (s_ix c.toOk (s_var (i := 2)) (s_idxL c.toOk (s_var (i := 1)) s_bool))))))))))))))
/-! ### is_between -/
abbrev n_is_between : List Str := ["thing", "low", "high"]
def m_is_between : Ms := (mRet (mAnd (mIsB .int (mVar 0)) (mAnd (mNot (mIsB .bool (mVar 0))) (mChain fLe fLe (mVar 1) (mVar 0) (mVar 2)))))
def f_is_between : Fn := mkFn 3 3 m_is_between
theorem b_is_between {g : Gs}  : ∀ (E : XK) (w0 : Wd) (H0 : Hp) (X : Cx), OkC g E 0 X → PassesOwn (model X.prog X.w) X.A X.env X.xe → L2N.Takes X (fun cls d _ H => E cls d H) → X.N = n_is_between → X.env.scope = defScope (t_is_between) → X.fn = (fun _ => true) → SndB g E w0 H0 X (defBody (t_is_between)) m_is_between := by
  intro E w0 H0 X c po tk hN hs hf
  obtain ⟨prog, w', K, mg, base, A, N, s_0, H_0, ⟨e1, e2, e3, e4, e5, e6, e7, e8, e9⟩, outer, stack, ex, fn, calm, pn, xe⟩ := X
  simp only at hN hs hf
  subst hN hs hf
  have nd : (n_is_between).Nodup := by decide +kernel
  exact (b_one (z_ret (s_and c.toOk (s_isB c.toOk .int rfl (s_var (i := 0))) (s_and c.toOk (s_not c.toOk (s_isB c.toOk .bool rfl (s_var (i := 0)))) (s_one (s_chain c_le c_le (s_var (i := 1)) (s_var (i := 0)) (s_var (i := 2))))))))
/-! ### are_bits -/
abbrev n_are_bits : List Str := ["thing", "one"]
def m_are_bits : Ms := (mRet (mAnd (mIsB .tuple (mVar 0)) (m1 fAll (mLc [1] (gN 1) (mItems (mVar 0)) mYes (mCall f_is_between [] (mCons (mVar 1) (mCons (mC (.int 0)) (mCons (mC (.int 1)) mNil))))))))
def f_are_bits : Fn := mkFn 1 2 m_are_bits
theorem b_are_bits {g : Gs}  (d_is_between : Def g 1 "is_between" [] f_is_between) : ∀ (E : XK) (w0 : Wd) (H0 : Hp) (X : Cx), OkC g E 1 X → PassesOwn (model X.prog X.w) X.A X.env X.xe → L2N.Takes X (fun cls d _ H => E cls d H) → X.N = n_are_bits → X.env.scope = defScope (t_are_bits) → X.fn = (fun _ => true) → SndB g E w0 H0 X (defBody (t_are_bits)) m_are_bits := by
  intro E w0 H0 X c po tk hN hs hf
  obtain ⟨prog, w', K, mg, base, A, N, s_0, H_0, ⟨e1, e2, e3, e4, e5, e6, e7, e8, e9⟩, outer, stack, ex, fn, calm, pn, xe⟩ := X
  simp only at hN hs hf
  subst hN hs hf
  have nd : (n_are_bits).Nodup := by decide +kernel
  exact (b_one (z_ret (s_and c.toOk (s_isB c.toOk .tuple rfl (s_var (i := 0))) (s_one (q_all c.toOk (f_val (f_lc (own := [("one", 1)]) c.toOk nd (i_seq c.toOk (s_var (i := 0))) (by first | exact L2.blkOk_by (by decide +kernel) | exact L2.blkOk_by (by kernel_rfl)) (by decide) (fun _ _ _ _ _ => (g_name (i := 1) nd)) (fun _ _ _ _ _ => ts_nil) (fun _ _ _ _ _ => (fun (cb : OkC g E0 1 _) => (s_call cb d_is_between (by decide) (a_cons (s_var (i := 1)) (a_cons s_int (a_cons s_int a_nil))))) (c.blk _ _ _ _ _)))))))))
/-! ### are_words -/
abbrev n_are_words : List Str := ["thing", "word"]
def m_are_words : Ms := (mSeq (mIf (mOrT (mNotT (mChainT fLe fLe (mC (.int (2))) (m1 fLen (mVar 0)) (mC (.int (16))))) (mNotT (mT (m1 fAll (mLc [1] (gN 1) (mItems (mVar 0)) mYes (mCall f_are_bits [] (mCons (mVar 1) mNil))))))) (mRet (mC (.bool false))) mSkip)
  (mSeq (mIf (mOrT (mNotT (mChainT fLe fLe (mC (.int 1)) (m1 fLen (mBin fIx (mVar 0) (mC (.int 0)))) (mC (.int (5))))) (mNotT (mT (m1 fAll (mLc [1] (gN 1) (mItems (mVar 0)) mYes (mBin fEq (m1 fLen (mVar 1)) (m1 fLen (mBin fIx (mVar 0) (mC (.int 0)))))))))) (mRet (mC (.bool false))) mSkip)
  (mRet (mBin fEq (m1 fLenSet (mVar 0)) (m1 fLen (mVar 0))))))
def f_are_words : Fn := mkFn 1 2 m_are_words
theorem b_are_words {g : Gs} (G_FEWEST_VALUES : GlobC g "FEWEST_VALUES" (.int (2))) (G_MOST_VALUES : GlobC g "MOST_VALUES" (.int (16))) (G_MOST_BITS : GlobC g "MOST_BITS" (.int (5))) (d_are_bits : Def g 2 "are_bits" [] f_are_bits) : ∀ (E : XK) (w0 : Wd) (H0 : Hp) (X : Cx), OkC g E 2 X → PassesOwn (model X.prog X.w) X.A X.env X.xe → L2N.Takes X (fun cls d _ H => E cls d H) → X.N = n_are_words → X.env.scope = defScope (t_are_words) → X.fn = (fun _ => true) → SndB g E w0 H0 X (defBody (t_are_words)) m_are_words := by
  intro E w0 H0 X c po tk hN hs hf
  obtain ⟨prog, w', K, mg, base, A, N, s_0, H_0, ⟨e1, e2, e3, e4, e5, e6, e7, e8, e9⟩, outer, stack, ex, fn, calm, pn, xe⟩ := X
  simp only at hN hs hf
  subst hN hs hf
  have nd : (n_are_words).Nodup := by decide +kernel
  exact (b_cons (z_if (t_w (w_or (t_not (t_chain c_le c_le (s_glob c.toOk G_FEWEST_VALUES) (q_len c.toOk (s_var (i := 0))) (s_glob c.toOk G_MOST_VALUES))) (w_or1 (t_not (t_val c.toOk (q_all c.toOk (f_val (f_lc (own := [("word", 1)]) c.toOk nd (i_seq c.toOk (s_var (i := 0))) (by first | exact L2.blkOk_by (by decide +kernel) | exact L2.blkOk_by (by kernel_rfl)) (by decide) (fun _ _ _ _ _ => (g_name (i := 1) nd)) (fun _ _ _ _ _ => ts_nil) (fun _ _ _ _ _ => (fun (cb : OkC g E0 2 _) => (s_call cb d_are_bits (by decide) (a_cons (s_var (i := 1)) a_nil))) (c.blk _ _ _ _ _)))))))))) (b_one (z_ret s_bool)) b_nil)
  (b_cons (z_if (t_w (w_or (t_not (t_chain c_le c_le s_int (q_len c.toOk (s_ix c.toOk (s_var (i := 0)) s_int)) (s_glob c.toOk G_MOST_BITS))) (w_or1 (t_not (t_val c.toOk (q_all c.toOk (f_val (f_lc (own := [("word", 1)]) c.toOk nd (i_seq c.toOk (s_var (i := 0))) (by first | exact L2.blkOk_by (by decide +kernel) | exact L2.blkOk_by (by kernel_rfl)) (by decide) (fun _ _ _ _ _ => (g_name (i := 1) nd)) (fun _ _ _ _ _ => ts_nil) (fun _ _ _ _ _ => (fun (cb : OkC g E0 2 _) => (s_cmp (c_eq cb.toOk) (q_len cb.toOk (s_var (i := 1))) (q_len cb.toOk (s_ix cb.toOk (s_var (i := 0)) s_int)))) (c.blk _ _ _ _ _)))))))))) (b_one (z_ret s_bool)) b_nil)
  (b_one (z_ret (s_cmp (c_eq c.toOk) (s_lenSet c.toOk (s_var (i := 0))) (q_len c.toOk (s_var (i := 0))))))))
/-! ### Code.__init__ -/
abbrev n_CodeX_initX : List Str := ["self", "words", "value", "word"]
def m_CodeX_initX : Ms := (mSeq (mIf (mNotT (mT (mCall f_are_words [] (mCons (mVar 1) mNil)))) (mRaise 11) mSkip)
  (mSeq (mFldJ 0 0 (mVar 1))
  (mFldJ 0 1 (mDc [2, 3] (gT (gsC (gN 2) (gsC (gN 3) gs0))) (mEnum (mVar 1)) mYes (mVar 3) (mVar 2)))))
def f_CodeX_initX : Fn := mkIniS 0 4 m_CodeX_initX
theorem b_CodeX_initX {g : Gs} (XK_NoWords : ExcN g 11 "NoWords") (d_are_words : Def g 3 "are_words" [] f_are_words) : ∀ (E : XK) (w0 : Wd) (H0 : Hp) (X : Cx), OkC g E 3 X → PassesOwn (model X.prog X.w) X.A X.env X.xe → L2N.Takes X (fun cls d _ H => E cls d H) → X.N = n_CodeX_initX → X.env.scope = defScope (t_CodeX_initX) → X.fn = (fun _ => true) → SndB g E w0 H0 X (defBody (t_CodeX_initX)) m_CodeX_initX := by
  intro E w0 H0 X c po tk hN hs hf
  obtain ⟨prog, w', K, mg, base, A, N, s_0, H_0, ⟨e1, e2, e3, e4, e5, e6, e7, e8, e9⟩, outer, stack, ex, fn, calm, pn, xe⟩ := X
  simp only at hN hs hf
  subst hN hs hf
  have nd : (n_CodeX_initX).Nodup := by decide +kernel
  exact (b_cons (z_if (t_not (t_val c.toOk (s_call c d_are_words (by decide) (a_cons (s_var (i := 1)) a_nil)))) (b_one (z_raise (n := 11) c tk XK_NoWords.1 XK_NoWords.2)) b_nil)
  (b_cons (z_fldSet (c := 0) (j := 0) c.toOk rfl (s_var (i := 1)))
  (b_one (z_fldSet (c := 0) (j := 1) c.toOk rfl (s_dc (own := [("value", 2), ("word", 3)]) c.toOk nd (i_enum c.toOk (s_var (i := 1))) (by first | exact L2.blkOk_by (by decide +kernel) | exact L2.blkOk_by (by kernel_rfl)) (by decide) (fun _ _ _ _ _ => (fun (cb : OkC g E0 3 _) => (g_tup cb.toOk (gs_cons (g_name (i := 2) nd) (gs_cons (g_name (i := 3) nd) gs_nil)) (n_cons (n_cons n_nil)))) (c.blk _ _ _ _ _)) (fun _ _ _ _ _ => ts_nil) (fun _ _ _ _ _ => (s_var (i := 3))) (fun _ _ _ _ _ => (s_var (i := 2))))))))
/-! ### law -/
abbrev n_law : List Str := ["_law_script", "_law_k", "_law_pen_here", "_law_sort", "_law_some", "_law_names", "_law_told", "_law_words", "_law_many", "_law_e"]
def m_law : Ms := (mSeq (mFor (gN 1) (mRng1 (mBin fMax2 (mC (.int 1)) (mBin fMin2 (m1 fLen (mVar 0)) (mC (.int 3))))) (mSeq (mSet 2 (mCall f__law_pen [] (mCons (mCall f__law_cell_at [] (mCons (mVar 0) (mCons (mVar 1) mNil))) mNil)))
  (mSeq (mAsg (gT (gsC (gN 7) (gsC (gN 8) gs0))) (mTup (mCons (mCall f__law_pick [] (mCons (mVar 2) (mCons (mLst (mCons (mC (.str (Str.ofString ""))) (mCons (mC (.str (Str.ofString "x"))) (mCons (mC (.str (Str.ofString "no code"))) mNil)))) mNil))) (mCons (mCall f__law_draw [] (mCons (mVar 2) (mCons (mC (.int 9000)) mNil))) mNil))))
  (mSeq (mSet 3 (mCall f__law_pick [] (mCons (mVar 2) (mCons (mLst (mCons (mC (.str (Str.ofString "full"))) (mCons (mC (.str (Str.ofString "empty"))) mNil))) mNil))))
  (mSeq (mSet 4 (mLst (mCons (mC (.exn 11 [])) (mCons (mC (.exn 12 [])) (mCons (mC (.exn 13 [])) (mCons (mC (.exn 14 [])) (mCons (mC (.exn 15 [])) (mCons (mC (.exn 16 [])) (mCons (mC (.exn 17 [])) (mCons (mC (.exn 18 [])) (mCons (mC (.exn 19 [])) mNil)))))))))))
  (mSeq (mSet 4 (mBin fAdd (mVar 4) (mLst (mCons (mC (.exn 20 [])) (mCons (mC (.exn 21 [])) (mCons (mC (.exn 22 [])) (mCons (mC (.exn 23 [])) (mCons (mC (.exn 24 [])) (mCons (mC (.exn 25 [])) (mCons (mC (.exn 26 [])) mNil))))))))))
  (mSeq (mSet 4 (mBin fAdd (mVar 4) (mLst (mCons (mExn1 11 (mVar 7)) (mCons (mExn1 12 (mVar 7)) (mCons (mExn1 13 (mVar 7)) (mCons (mExn1 14 (mVar 7)) (mCons (mExn1 15 (mVar 7)) (mCons (mExn1 16 (mVar 7)) mNil)))))))))
  (mSeq (mSet 4 (mBin fAdd (mVar 4) (mLst (mCons (mExn1 17 (mVar 7)) (mCons (mExn1 18 (mVar 7)) (mCons (mExn1 19 (mVar 7)) (mCons (mExn1 20 (mVar 7)) (mCons (mExn1 21 (mVar 7)) (mCons (mExn1 22 (mVar 7)) mNil)))))))))
  (mSeq (mSet 4 (mBin fAdd (mVar 4) (mLst (mCons (mExn1 23 (mVar 7)) (mCons (mExn1 24 (mVar 7)) (mCons (mExn1 25 (mVar 7)) (mCons (mExn1 26 (mVar 7)) mNil)))))))
  (mSeq (mSet 5 (mLst (mCons (mC (.str (Str.ofString "NoWords"))) (mCons (mC (.str (Str.ofString "NoCode"))) (mCons (mC (.str (Str.ofString "NoValue"))) (mCons (mC (.str (Str.ofString "NoWord"))) (mCons (mC (.str (Str.ofString "NoOrder"))) (mCons (mC (.str (Str.ofString "NoPlaces"))) (mCons (mC (.str (Str.ofString "NoText"))) (mCons (mC (.str (Str.ofString "NoSpan"))) (mCons (mC (.str (Str.ofString "NoNumber"))) mNil)))))))))))
  (mSeq (mSet 5 (mBin fAdd (mVar 5) (mLst (mCons (mC (.str (Str.ofString "NoBridge"))) (mCons (mC (.str (Str.ofString "NoState"))) (mCons (mC (.str (Str.ofString "NoBeat"))) (mCons (mC (.str (Str.ofString "NoLap"))) (mCons (mC (.str (Str.ofString "NoLook"))) (mCons (mC (.str (Str.ofString "NothingDone"))) (mCons (mC (.str (Str.ofString "TooMuch"))) mNil))))))))))
  (mSeq (mIf (mOrT (mCmpT fNe (mLc [9] (gN 9) (mItems (mVar 4)) mYes (mCall f__law_word [] (mCons (mVar 9) mNil))) (mBin fMul (mVar 5) (mC (.int 2)))) (mNotT (mT (m1 fAll (mLc [9] (gN 9) (mItems (mVar 4)) mYes (mIsX (fun _ => true) (mVar 9))))))) (mRet (mC (.bool false))) mSkip)
  (mSeq (mSetO 6 (mLst (mCons (mCall f__law_word [] (mCons (mExnF 27 (mVar 8)) mNil)) (mCons (mCall f__law_word [] (mCons (mExnF 27 (mVar 8)) mNil)) (mCons (mCall f__law_word [] (mCons (mExnF 28 (mVar 3)) mNil)) mNil)))))
  (mSeq (mApp 6 (mCall f__law_word [] (mCons (mExnF 28 (mVar 3)) mNil)))
  (mSeq (mIf (mCmpT fNe (mBor 6) (mBin fAdd (mBin fMul (mLst (mCons (mBin fAdd (mC (.str (Str.ofString "TooMany "))) (m1 fRepr (mVar 8))) mNil)) (mC (.int 2))) (mBin fMul (mLst (mCons (mBin fAdd (mC (.str (Str.ofString "Broken "))) (m1 fRepr (mVar 3))) mNil)) (mC (.int 2))))) (mRet (mC (.bool false))) mSkip)
  (mSeq (mIf (mOrT (mNotT (mT (mIsX (fun _ => true) (mExnF 28 (mVar 3))))) (mNotT (mT (mIsX (fun _ => true) (mExnF 27 (mVar 8)))))) (mRet (mC (.bool false))) mSkip)
  (mSeq (mSetO 6 (mLst (mCons (mSaid RX (mMake f_CodeX_initX (mCons (mVar 7) mNil))) mNil)))
  (mSeq (mApp 6 (mSaid RX (mMake f_CodeX_initX (mCons (mVar 7) (mCons (mVar 7) mNil)))))
  (mIf (mCmpT fNe (mBor 6) (mBin fMul (mLst (mCons (mC (.str (Str.ofString "! NoWords"))) mNil)) (mC (.int 2)))) (mRet (mC (.bool false))) mSkip)))))))))))))))))))
  (mRet (mC (.bool true))))
def f_law : Fn := mkFn 1 10 m_law
theorem b_law {g : Gs} {k0 P : Addr} (XK_NoWords : ExcN g 11 "NoWords") (XK_NoCode : ExcN g 12 "NoCode") (XK_NoValue : ExcN g 13 "NoValue") (XK_NoWord : ExcN g 14 "NoWord") (XK_NoOrder : ExcN g 15 "NoOrder") (XK_NoPlaces : ExcN g 16 "NoPlaces") (XK_NoText : ExcN g 17 "NoText") (XK_NoSpan : ExcN g 18 "NoSpan") (XK_NoNumber : ExcN g 19 "NoNumber") (XK_NoBridge : ExcN g 20 "NoBridge") (XK_NoState : ExcN g 21 "NoState") (XK_NoBeat : ExcN g 22 "NoBeat") (XK_NoLap : ExcN g 23 "NoLap") (XK_NoLook : ExcN g 24 "NoLook") (XK_NothingDone : ExcN g 25 "NothingDone") (XK_TooMuch : ExcN g 26 "TooMuch") (fxn : FxN g) (XM10 : g.mg "ReadError" = some (.ref (g.cl 10))) (XI_TooMany : ExcI g 1 27 ∧ g.mg "TooMany" = some (.ref (g.cl 27))) (XJ_TooMany : ExcIK g 1 27 "limit" ∧ g.mg "TooMany" = some (.ref (g.cl 27))) (XI_Broken : ExcI g 1 28 ∧ g.mg "Broken" = some (.ref (g.cl 28))) (XJ_Broken : ExcIK g 1 28 "kind" ∧ g.mg "Broken" = some (.ref (g.cl 28))) (C_Code : ClsN g 0 "Code") (d__law_pen : Def g 1 "_law_pen" [] f__law_pen) (d__law_cell_at : Def g 1 "_law_cell_at" [] f__law_cell_at) (d__law_pick : Def g 2 "_law_pick" [] f__law_pick) (d__law_draw : Def g 1 "_law_draw" [] f__law_draw) (d__law_word : DefG g 1 "_law_word" [] f__law_word) (d_CodeX_initX : Ini g 4 0 f_CodeX_initX) (d_said : SaidD g) (d_word : WordD g RX 1) (fxe : FxE g RX) : ∀ (E : XK) (w0 : Wd) (H0 : Hp) (X : Cx), OkG g E 7 X → LamK g X k0 P → PassesOwn (model X.prog X.w) X.A X.env X.xe → L2N.Takes X (fun cls d _ H => E cls d H) → X.N = n_law → X.env.scope = defScope (t_law) → X.fn = (fun _ => true) → SndB g E w0 H0 X (defBody (t_law)) m_law := by
  intro E w0 H0 X cg lk po tk hN hs hf
  obtain ⟨prog, w', K, mg, base, A, N, s_0, H_0, ⟨e1, e2, e3, e4, e5, e6, e7, e8, e9⟩, outer, stack, ex, fn, calm, pn, xe⟩ := X
  simp only at hN hs hf
  subst hN hs hf
  have c := cg.toOkC
  have nd : (n_law).Nodup := by decide +kernel
  exact (b_cons (z_for c.toOk po (i_rng1 c.toOk (nbg c.toOk "range") (q_max2 c.toOk s_int (q_min2 c.toOk (q_len c.toOk (s_var (i := 0))) s_int))) (g_name (i := 1) nd) (b_cons (z_set (i := 2) nd (s_call c d__law_pen (by decide) (a_cons (s_call c d__law_cell_at (by decide) (a_cons (s_var (i := 0)) (a_cons (s_var (i := 1)) a_nil))) a_nil)))
  (b_cons (z_asg (s_tup (a_cons (s_call c d__law_pick (by decide) (a_cons (s_var (i := 2)) (a_cons (f_val (f_lst (a_cons s_str (a_cons s_str (a_cons s_str a_nil))))) a_nil))) (a_cons (s_call c d__law_draw (by decide) (a_cons (s_var (i := 2)) (a_cons s_int a_nil))) a_nil))) (g_tup c.toOk (gs_cons (g_name (i := 7) nd) (gs_cons (g_name (i := 8) nd) gs_nil)) (n_cons (n_cons n_nil))))
  (b_cons (z_set (i := 3) nd (s_call c d__law_pick (by decide) (a_cons (s_var (i := 2)) (a_cons (f_val (f_lst (a_cons s_str (a_cons s_str a_nil)))) a_nil))))
  (b_cons (z_set (i := 4) nd (f_val (f_lst (a_cons (s_exn0 (c := 11) c.toOk XK_NoWords.1 XK_NoWords.2) (a_cons (s_exn0 (c := 12) c.toOk XK_NoCode.1 XK_NoCode.2) (a_cons (s_exn0 (c := 13) c.toOk XK_NoValue.1 XK_NoValue.2) (a_cons (s_exn0 (c := 14) c.toOk XK_NoWord.1 XK_NoWord.2) (a_cons (s_exn0 (c := 15) c.toOk XK_NoOrder.1 XK_NoOrder.2) (a_cons (s_exn0 (c := 16) c.toOk XK_NoPlaces.1 XK_NoPlaces.2) (a_cons (s_exn0 (c := 17) c.toOk XK_NoText.1 XK_NoText.2) (a_cons (s_exn0 (c := 18) c.toOk XK_NoSpan.1 XK_NoSpan.2) (a_cons (s_exn0 (c := 19) c.toOk XK_NoNumber.1 XK_NoNumber.2) a_nil))))))))))))
  (b_cons (z_set (i := 4) nd (s_add c.toOk (s_var (i := 4)) (f_val (f_lst (a_cons (s_exn0 (c := 20) c.toOk XK_NoBridge.1 XK_NoBridge.2) (a_cons (s_exn0 (c := 21) c.toOk XK_NoState.1 XK_NoState.2) (a_cons (s_exn0 (c := 22) c.toOk XK_NoBeat.1 XK_NoBeat.2) (a_cons (s_exn0 (c := 23) c.toOk XK_NoLap.1 XK_NoLap.2) (a_cons (s_exn0 (c := 24) c.toOk XK_NoLook.1 XK_NoLook.2) (a_cons (s_exn0 (c := 25) c.toOk XK_NothingDone.1 XK_NothingDone.2) (a_cons (s_exn0 (c := 26) c.toOk XK_TooMuch.1 XK_TooMuch.2) a_nil)))))))))))
  (b_cons (z_set (i := 4) nd (s_add c.toOk (s_var (i := 4)) (f_val (f_lst (a_cons (s_exn1 (c := 11) c.toOk XK_NoWords.1 XK_NoWords.2 (s_var (i := 7))) (a_cons (s_exn1 (c := 12) c.toOk XK_NoCode.1 XK_NoCode.2 (s_var (i := 7))) (a_cons (s_exn1 (c := 13) c.toOk XK_NoValue.1 XK_NoValue.2 (s_var (i := 7))) (a_cons (s_exn1 (c := 14) c.toOk XK_NoWord.1 XK_NoWord.2 (s_var (i := 7))) (a_cons (s_exn1 (c := 15) c.toOk XK_NoOrder.1 XK_NoOrder.2 (s_var (i := 7))) (a_cons (s_exn1 (c := 16) c.toOk XK_NoPlaces.1 XK_NoPlaces.2 (s_var (i := 7))) a_nil))))))))))
  (b_cons (z_set (i := 4) nd (s_add c.toOk (s_var (i := 4)) (f_val (f_lst (a_cons (s_exn1 (c := 17) c.toOk XK_NoText.1 XK_NoText.2 (s_var (i := 7))) (a_cons (s_exn1 (c := 18) c.toOk XK_NoSpan.1 XK_NoSpan.2 (s_var (i := 7))) (a_cons (s_exn1 (c := 19) c.toOk XK_NoNumber.1 XK_NoNumber.2 (s_var (i := 7))) (a_cons (s_exn1 (c := 20) c.toOk XK_NoBridge.1 XK_NoBridge.2 (s_var (i := 7))) (a_cons (s_exn1 (c := 21) c.toOk XK_NoState.1 XK_NoState.2 (s_var (i := 7))) (a_cons (s_exn1 (c := 22) c.toOk XK_NoBeat.1 XK_NoBeat.2 (s_var (i := 7))) a_nil))))))))))
  (b_cons (z_set (i := 4) nd (s_add c.toOk (s_var (i := 4)) (f_val (f_lst (a_cons (s_exn1 (c := 23) c.toOk XK_NoLap.1 XK_NoLap.2 (s_var (i := 7))) (a_cons (s_exn1 (c := 24) c.toOk XK_NoLook.1 XK_NoLook.2 (s_var (i := 7))) (a_cons (s_exn1 (c := 25) c.toOk XK_NothingDone.1 XK_NothingDone.2 (s_var (i := 7))) (a_cons (s_exn1 (c := 26) c.toOk XK_TooMuch.1 XK_TooMuch.2 (s_var (i := 7))) a_nil))))))))
  (b_cons (z_set (i := 5) nd (f_val (f_lst (a_cons s_str (a_cons s_str (a_cons s_str (a_cons s_str (a_cons s_str (a_cons s_str (a_cons s_str (a_cons s_str (a_cons s_str a_nil))))))))))))
  (b_cons (z_set (i := 5) nd (s_add c.toOk (s_var (i := 5)) (f_val (f_lst (a_cons s_str (a_cons s_str (a_cons s_str (a_cons s_str (a_cons s_str (a_cons s_str (a_cons s_str a_nil)))))))))))
  (b_cons (z_if (t_w (w_or (t_cmp (c_ne c.toOk) (f_val (f_lc (own := [("_law_e", 9)]) c.toOk nd (i_seq c.toOk (s_var (i := 4))) (by first | exact L2.blkOk_by (by decide +kernel) | exact L2.blkOk_by (by kernel_rfl)) (by decide) (fun _ _ _ _ _ => (g_name (i := 9) nd)) (fun _ _ _ _ _ => ts_nil) (fun _ _ _ _ _ => (fun (cgb : OkG g E0 7 _) => (fun (cb : OkC g E0 7 _) => (s_callG cgb d__law_word (by decide) (a_cons (s_var (i := 9)) a_nil))) cgb.toOkC) (cg.blk _ _ _ _ _)))) (s_mul c.toOk (s_var (i := 5)) s_int)) (w_or1 (t_not (t_val c.toOk (q_all c.toOk (f_val (f_lc (own := [("_law_e", 9)]) c.toOk nd (i_seq c.toOk (s_var (i := 4))) (by first | exact L2.blkOk_by (by decide +kernel) | exact L2.blkOk_by (by kernel_rfl)) (by decide) (fun _ _ _ _ _ => (g_name (i := 9) nd)) (fun _ _ _ _ _ => ts_nil) (fun _ _ _ _ _ => (fun (cb : OkC g E0 7 _) => (s_isR cb.toOk fxn XM10 (s_var (i := 9)))) (c.blk _ _ _ _ _)))))))))) (b_one (z_ret s_bool)) b_nil)
  (b_cons (z_setO (i := 6) nd (f_lst (a_cons (s_callG cg d__law_word (by decide) (a_cons (s_exnF (c := 27) c XI_TooMany.1 (by decide) XI_TooMany.2 (s_var (i := 8))) a_nil)) (a_cons (s_callG cg d__law_word (by decide) (a_cons (s_exnFK (c := 27) c XJ_TooMany.1 (by decide) XJ_TooMany.2 (s_var (i := 8))) a_nil)) (a_cons (s_callG cg d__law_word (by decide) (a_cons (s_exnF (c := 28) c XI_Broken.1 (by decide) XI_Broken.2 (s_var (i := 3))) a_nil)) a_nil)))))
  (b_cons (z_app (i := 6) (s_callG cg d__law_word (by decide) (a_cons (s_exnFK (c := 28) c XJ_Broken.1 (by decide) XJ_Broken.2 (s_var (i := 3))) a_nil)))
  (b_cons (z_if (t_cmp (c_ne c.toOk) (s_bor (i := 6)) (s_add c.toOk (s_mul c.toOk (f_val (f_lst (a_cons (s_add c.toOk s_str (q_repr cg (s_var (i := 8)))) a_nil))) s_int) (s_mul c.toOk (f_val (f_lst (a_cons (s_add c.toOk s_str (q_repr cg (s_var (i := 3)))) a_nil))) s_int))) (b_one (z_ret s_bool)) b_nil)
  (b_cons (z_if (t_w (w_or (t_not (t_val c.toOk (s_isR c.toOk fxn XM10 (s_exnF (c := 28) c XI_Broken.1 (by decide) XI_Broken.2 (s_var (i := 3)))))) (w_or1 (t_not (t_val c.toOk (s_isR c.toOk fxn XM10 (s_exnF (c := 27) c XI_TooMany.1 (by decide) XI_TooMany.2 (s_var (i := 8))))))))) (b_one (z_ret s_bool)) b_nil)
  (b_cons (z_setO (i := 6) nd (f_lst (a_cons (s_said (k := 5) (cg.mono (by decide)) d_said d_word (by decide) fxe lk (fun A1 o1 s1 H1 E1 f1 c1 cgL => (fun (cL : OkC g E1 5 _) => (s_make cL d_CodeX_initX C_Code (by decide) (a_cons (s_var (i := 7)) a_nil))) cgL.toOkC)) a_nil)))
  (b_cons (z_app (i := 6) (s_said (k := 5) (cg.mono (by decide)) d_said d_word (by decide) fxe lk (fun A1 o1 s1 H1 E1 f1 c1 cgL => (fun (cL : OkC g E1 5 _) => (s_make cL d_CodeX_initX C_Code (by decide) (a_cons (s_var (i := 7)) (a_cons (s_var (i := 7)) a_nil)))) cgL.toOkC)))
  (b_one (z_if (t_cmp (c_ne c.toOk) (s_bor (i := 6)) (s_mul c.toOk (f_val (f_lst (a_cons s_str a_nil))) s_int)) (b_one (z_ret s_bool)) b_nil))))))))))))))))))))
  (b_one (z_ret s_bool)))
set_option maxHeartbeats 0 in
theorem all_mk {l : PySem.W.OpenLaw} {w : World} {K : PySem.W.Frag} {h : Heap} {mg : Str → Option Value} {fa : Addr} {C0 : Addr} {X10 : Addr} {X11 : Addr} {X12 : Addr} {X13 : Addr} {X14 : Addr} {X15 : Addr} {X16 : Addr} {X17 : Addr} {X18 : Addr} {X19 : Addr} {X20 : Addr} {X21 : Addr} {X22 : Addr} {X23 : Addr} {X24 : Addr} {X25 : Addr} {X26 : Addr} {X27 : Addr} {X28 : Addr} {fi27_ cc27 ca27 N27 : Addr} {od27 an27 cdd27 cld27 dd27 : Option Addr} {osl27 ccs27 csl27 : Array (Option Value)} {oc27 kV27 dc27 pm27 ct27 ccl27 cl27 : Value} {vs27 : Array Value} {tf27 : Tok} {nm27 qn27 : Str} {bs27 bm27 sb27 : List Value} {sn27 : List Str} {ab27 : Bool} {col27 : Option Bool} {k027 k127 k227 k327 k527 : Option Value} {file27 : Str} {fi28_ cc28 ca28 N28 : Addr} {od28 an28 cdd28 cld28 dd28 : Option Addr} {osl28 ccs28 csl28 : Array (Option Value)} {oc28 kV28 dc28 pm28 ct28 ccl28 cl28 : Value} {vs28 : Array Value} {tf28 : Tok} {nm28 qn28 : Str} {bs28 bm28 sb28 : List Value} {sn28 : List Str} {ab28 : Bool} {col28 : Option Bool} {k028 k128 k228 k328 k528 : Option Value} {file28 : Str} {uG_FEWEST_VALUES : Tok} {uG_MOST_VALUES : Tok} {uG_MOST_BITS : Tok} {f__law_pen_ : Addr} {od_law_pen an_law_pen : Option Addr} {sl_law_pen : Array (Option Value)} {oc_law_pen kV_law_pen dc_law_pen pm_law_pen cd_law_pen ct_law_pen : Value} {f__law_draw_ : Addr} {od_law_draw an_law_draw : Option Addr} {sl_law_draw : Array (Option Value)} {oc_law_draw kV_law_draw dc_law_draw pm_law_draw cd_law_draw ct_law_draw : Value} {f__law_pick_ : Addr} {od_law_pick an_law_pick : Option Addr} {sl_law_pick : Array (Option Value)} {oc_law_pick kV_law_pick dc_law_pick pm_law_pick cd_law_pick ct_law_pick : Value} {f__law_cell_at_ : Addr} {od_law_cell_at an_law_cell_at : Option Addr} {sl_law_cell_at : Array (Option Value)} {oc_law_cell_at kV_law_cell_at dc_law_cell_at pm_law_cell_at cd_law_cell_at ct_law_cell_at : Value} {f__law_word_ : Addr} {od_law_word an_law_word : Option Addr} {sl_law_word : Array (Option Value)} {oc_law_word kV_law_word dc_law_word pm_law_word cd_law_word ct_law_word : Value} {f_is_between_ : Addr} {odis_between anis_between : Option Addr} {slis_between : Array (Option Value)} {ocis_between kVis_between dcis_between pmis_between cdis_between ctis_between : Value} {f_are_bits_ : Addr} {odare_bits anare_bits : Option Addr} {slare_bits : Array (Option Value)} {ocare_bits kVare_bits dcare_bits pmare_bits cdare_bits ctare_bits : Value} {f_are_words_ : Addr} {odare_words anare_words : Option Addr} {slare_words : Array (Option Value)} {ocare_words kVare_words dcare_words pmare_words cdare_words ctare_words : Value} {f_CodeX_initX_ : Addr} {odCodeX_initX anCodeX_initX : Option Addr} {slCodeX_initX : Array (Option Value)} {ocCodeX_initX kVCodeX_initX dcCodeX_initX pmCodeX_initX cdCodeX_initX ctCodeX_initX : Value} {f_law_ : Addr} {odlaw anlaw : Option Addr} {sllaw : Array (Option Value)} {oclaw kVlaw dclaw pmlaw cdlaw ctlaw : Value} {f__law_said_ : Addr} {od_law_said an_law_said : Option Addr} {sl_law_said : Array (Option Value)} {oc_law_said kV_law_said dc_law_said pm_law_said cd_law_said ct_law_said : Value} {k0law Plaw : Addr} {ydlaw : Option Addr} {yvlaw : Array Value} {ysllaw : Array (Option Value)} {yflaw : Str} {ytlaw yglaw yxlaw : Tok} {yllaw yelaw : Int} {yblaw : Bool} (X : K.In h) (G : h.Ns mainGlobals mg) (hfa : mg "law" = some (.ref fa))
    (aC0 : PySem.W.nsIn K mainGlobals "Code" = some (some (.ref C0)))
    (pgC0 : PySem.W.plainGet K C0 Str.empty = true)
    (hdC0 : PySem.W.hasDictIn K C0 = true)
    (poC0 : PySem.W.plainOver K C0 = true)
    (saC0 : PySem.W.findIn K (.ref C0) "__setattr__" = some (some (.builtin "object.__setattr__")))
    (mkC0 : PySem.W.makesIn K C0 = true)
    (kcC0 : PySem.W.keepIn K (.ref C0) = true)
    (n0C0 : PySem.W.findIn K (.ref C0) "row" = some none)
    (n1C0 : PySem.W.findIn K (.ref C0) "known" = some none)
    (dcC0 : PySem.W.findIn K (.ref C0) "__class__" = some (some (.builtin "object.__class__")))
    (moC0 : PySem.W.mroIn K C0 (.type "object") = some true)
    (bintC0 : PySem.W.mroIn K C0 (.type "int") = some false)
    (bboolC0 : PySem.W.mroIn K C0 (.type "bool") = some false)
    (btupleC0 : PySem.W.mroIn K C0 (.type "tuple") = some false)
    (bstrC0 : PySem.W.mroIn K C0 (.type "str") = some false)
    (blistC0 : PySem.W.mroIn K C0 (.type "list") = some false)
    (icC0 : PySem.W.isClsIn K C0 = true)
    (tyC0 : PySem.W.typeIn K (.ref C0) = some (.type "type"))
    (hn : PySem.W.specialIn K (.builtin "object.__class__") "__get__" = some (some (.builtin "getset_descriptor.__get__")))
    (htk : PySem.W.takesIn K (.builtin "object.__class__") = some true)
    (xa10 : PySem.W.nsIn K mainGlobals "ReadError" = some (some (.ref X10)))
    (xi10 : PySem.W.isClsIn K X10 = true)
    (xt10 : PySem.W.typeIn K (.ref X10) = some (.type "type"))
    (xm10_10 : PySem.W.mroIn K X10 (.ref X10) = some true)
    (xa11 : PySem.W.nsIn K mainGlobals "NoWords" = some (some (.ref X11)))
    (xi11 : PySem.W.isClsIn K X11 = true)
    (xt11 : PySem.W.typeIn K (.ref X11) = some (.type "type"))
    (xm11_11 : PySem.W.mroIn K X11 (.ref X11) = some true)
    (xa12 : PySem.W.nsIn K mainGlobals "NoCode" = some (some (.ref X12)))
    (xi12 : PySem.W.isClsIn K X12 = true)
    (xt12 : PySem.W.typeIn K (.ref X12) = some (.type "type"))
    (xm12_12 : PySem.W.mroIn K X12 (.ref X12) = some true)
    (xa13 : PySem.W.nsIn K mainGlobals "NoValue" = some (some (.ref X13)))
    (xi13 : PySem.W.isClsIn K X13 = true)
    (xt13 : PySem.W.typeIn K (.ref X13) = some (.type "type"))
    (xm13_13 : PySem.W.mroIn K X13 (.ref X13) = some true)
    (xa14 : PySem.W.nsIn K mainGlobals "NoWord" = some (some (.ref X14)))
    (xi14 : PySem.W.isClsIn K X14 = true)
    (xt14 : PySem.W.typeIn K (.ref X14) = some (.type "type"))
    (xm14_14 : PySem.W.mroIn K X14 (.ref X14) = some true)
    (xa15 : PySem.W.nsIn K mainGlobals "NoOrder" = some (some (.ref X15)))
    (xi15 : PySem.W.isClsIn K X15 = true)
    (xt15 : PySem.W.typeIn K (.ref X15) = some (.type "type"))
    (xm15_15 : PySem.W.mroIn K X15 (.ref X15) = some true)
    (xa16 : PySem.W.nsIn K mainGlobals "NoPlaces" = some (some (.ref X16)))
    (xi16 : PySem.W.isClsIn K X16 = true)
    (xt16 : PySem.W.typeIn K (.ref X16) = some (.type "type"))
    (xm16_16 : PySem.W.mroIn K X16 (.ref X16) = some true)
    (xa17 : PySem.W.nsIn K mainGlobals "NoText" = some (some (.ref X17)))
    (xi17 : PySem.W.isClsIn K X17 = true)
    (xt17 : PySem.W.typeIn K (.ref X17) = some (.type "type"))
    (xm17_17 : PySem.W.mroIn K X17 (.ref X17) = some true)
    (xa18 : PySem.W.nsIn K mainGlobals "NoSpan" = some (some (.ref X18)))
    (xi18 : PySem.W.isClsIn K X18 = true)
    (xt18 : PySem.W.typeIn K (.ref X18) = some (.type "type"))
    (xm18_18 : PySem.W.mroIn K X18 (.ref X18) = some true)
    (xa19 : PySem.W.nsIn K mainGlobals "NoNumber" = some (some (.ref X19)))
    (xi19 : PySem.W.isClsIn K X19 = true)
    (xt19 : PySem.W.typeIn K (.ref X19) = some (.type "type"))
    (xm19_19 : PySem.W.mroIn K X19 (.ref X19) = some true)
    (xa20 : PySem.W.nsIn K mainGlobals "NoBridge" = some (some (.ref X20)))
    (xi20 : PySem.W.isClsIn K X20 = true)
    (xt20 : PySem.W.typeIn K (.ref X20) = some (.type "type"))
    (xm20_20 : PySem.W.mroIn K X20 (.ref X20) = some true)
    (xa21 : PySem.W.nsIn K mainGlobals "NoState" = some (some (.ref X21)))
    (xi21 : PySem.W.isClsIn K X21 = true)
    (xt21 : PySem.W.typeIn K (.ref X21) = some (.type "type"))
    (xm21_21 : PySem.W.mroIn K X21 (.ref X21) = some true)
    (xa22 : PySem.W.nsIn K mainGlobals "NoBeat" = some (some (.ref X22)))
    (xi22 : PySem.W.isClsIn K X22 = true)
    (xt22 : PySem.W.typeIn K (.ref X22) = some (.type "type"))
    (xm22_22 : PySem.W.mroIn K X22 (.ref X22) = some true)
    (xa23 : PySem.W.nsIn K mainGlobals "NoLap" = some (some (.ref X23)))
    (xi23 : PySem.W.isClsIn K X23 = true)
    (xt23 : PySem.W.typeIn K (.ref X23) = some (.type "type"))
    (xm23_23 : PySem.W.mroIn K X23 (.ref X23) = some true)
    (xa24 : PySem.W.nsIn K mainGlobals "NoLook" = some (some (.ref X24)))
    (xi24 : PySem.W.isClsIn K X24 = true)
    (xt24 : PySem.W.typeIn K (.ref X24) = some (.type "type"))
    (xm24_24 : PySem.W.mroIn K X24 (.ref X24) = some true)
    (xa25 : PySem.W.nsIn K mainGlobals "NothingDone" = some (some (.ref X25)))
    (xi25 : PySem.W.isClsIn K X25 = true)
    (xt25 : PySem.W.typeIn K (.ref X25) = some (.type "type"))
    (xm25_25 : PySem.W.mroIn K X25 (.ref X25) = some true)
    (xa26 : PySem.W.nsIn K mainGlobals "TooMuch" = some (some (.ref X26)))
    (xi26 : PySem.W.isClsIn K X26 = true)
    (xt26 : PySem.W.typeIn K (.ref X26) = some (.type "type"))
    (xm26_26 : PySem.W.mroIn K X26 (.ref X26) = some true)
    (xa27 : PySem.W.nsIn K mainGlobals "TooMany" = some (some (.ref X27)))
    (xi27 : PySem.W.isClsIn K X27 = true)
    (xt27 : PySem.W.typeIn K (.ref X27) = some (.type "type"))
    (xm27_27 : PySem.W.mroIn K X27 (.ref X27) = some true)
    (xa28 : PySem.W.nsIn K mainGlobals "Broken" = some (some (.ref X28)))
    (xi28 : PySem.W.isClsIn K X28 = true)
    (xt28 : PySem.W.typeIn K (.ref X28) = some (.type "type"))
    (xm28_28 : PySem.W.mroIn K X28 (.ref X28) = some true)
    (xs10 : PySem.W.subIn K (.ref X10) (.type "BaseException") = some true)
    (xd10 : PySem.W.hasDictIn K X10 = true)
    (zVE : PySem.W.nsIn K mainGlobals "ValueError" = some none)
    (xk11 : PySem.W.keepIn K (.ref X11) = true)
    (xf11 : PySem.W.findIn K (.ref X11) "kind" = some none)
    (xe11 : PySem.W.excIn K X11 [.type "ValueError", .type "Exception", .type "BaseException", .type "object"] "ValueError.__new__" = true)
    (xb11 : PySem.W.subIn K (.ref X11) (.type "BaseException") = some true)
    (xg11 : PySem.W.findIn K (.ref X11) "__getattribute__" = some (some (.builtin "BaseException.__getattribute__")))
    (xh11 : PySem.W.findIn K (.ref X11) "__getattr__" = some none)
    (xd11 : PySem.W.hasDictIn K X11 = true)
    (xc11 : PySem.W.findIn K (.ref X11) "__class__" = some (some (.builtin "object.__class__")))
    (xo11 : PySem.W.mroIn K X11 (.type "object") = some true)
    (xv11 : PySem.W.mroIn K X11 (.type "ValueError") = some true)
    (xm11_10 : PySem.W.mroIn K X11 (.ref X10) = some true)
    (xm11_12 : PySem.W.mroIn K X11 (.ref X12) = some false)
    (xm11_13 : PySem.W.mroIn K X11 (.ref X13) = some false)
    (xm11_14 : PySem.W.mroIn K X11 (.ref X14) = some false)
    (xm11_15 : PySem.W.mroIn K X11 (.ref X15) = some false)
    (xm11_16 : PySem.W.mroIn K X11 (.ref X16) = some false)
    (xm11_17 : PySem.W.mroIn K X11 (.ref X17) = some false)
    (xm11_18 : PySem.W.mroIn K X11 (.ref X18) = some false)
    (xm11_19 : PySem.W.mroIn K X11 (.ref X19) = some false)
    (xm11_20 : PySem.W.mroIn K X11 (.ref X20) = some false)
    (xm11_21 : PySem.W.mroIn K X11 (.ref X21) = some false)
    (xm11_22 : PySem.W.mroIn K X11 (.ref X22) = some false)
    (xm11_23 : PySem.W.mroIn K X11 (.ref X23) = some false)
    (xm11_24 : PySem.W.mroIn K X11 (.ref X24) = some false)
    (xm11_25 : PySem.W.mroIn K X11 (.ref X25) = some false)
    (xm11_26 : PySem.W.mroIn K X11 (.ref X26) = some false)
    (xm11_27 : PySem.W.mroIn K X11 (.ref X27) = some false)
    (xm11_28 : PySem.W.mroIn K X11 (.ref X28) = some false)
    (xk12 : PySem.W.keepIn K (.ref X12) = true)
    (xf12 : PySem.W.findIn K (.ref X12) "kind" = some none)
    (xe12 : PySem.W.excIn K X12 [.type "ValueError", .type "Exception", .type "BaseException", .type "object"] "ValueError.__new__" = true)
    (xb12 : PySem.W.subIn K (.ref X12) (.type "BaseException") = some true)
    (xg12 : PySem.W.findIn K (.ref X12) "__getattribute__" = some (some (.builtin "BaseException.__getattribute__")))
    (xh12 : PySem.W.findIn K (.ref X12) "__getattr__" = some none)
    (xd12 : PySem.W.hasDictIn K X12 = true)
    (xc12 : PySem.W.findIn K (.ref X12) "__class__" = some (some (.builtin "object.__class__")))
    (xo12 : PySem.W.mroIn K X12 (.type "object") = some true)
    (xv12 : PySem.W.mroIn K X12 (.type "ValueError") = some true)
    (xm12_10 : PySem.W.mroIn K X12 (.ref X10) = some true)
    (xm12_11 : PySem.W.mroIn K X12 (.ref X11) = some false)
    (xm12_13 : PySem.W.mroIn K X12 (.ref X13) = some false)
    (xm12_14 : PySem.W.mroIn K X12 (.ref X14) = some false)
    (xm12_15 : PySem.W.mroIn K X12 (.ref X15) = some false)
    (xm12_16 : PySem.W.mroIn K X12 (.ref X16) = some false)
    (xm12_17 : PySem.W.mroIn K X12 (.ref X17) = some false)
    (xm12_18 : PySem.W.mroIn K X12 (.ref X18) = some false)
    (xm12_19 : PySem.W.mroIn K X12 (.ref X19) = some false)
    (xm12_20 : PySem.W.mroIn K X12 (.ref X20) = some false)
    (xm12_21 : PySem.W.mroIn K X12 (.ref X21) = some false)
    (xm12_22 : PySem.W.mroIn K X12 (.ref X22) = some false)
    (xm12_23 : PySem.W.mroIn K X12 (.ref X23) = some false)
    (xm12_24 : PySem.W.mroIn K X12 (.ref X24) = some false)
    (xm12_25 : PySem.W.mroIn K X12 (.ref X25) = some false)
    (xm12_26 : PySem.W.mroIn K X12 (.ref X26) = some false)
    (xm12_27 : PySem.W.mroIn K X12 (.ref X27) = some false)
    (xm12_28 : PySem.W.mroIn K X12 (.ref X28) = some false)
    (xk13 : PySem.W.keepIn K (.ref X13) = true)
    (xf13 : PySem.W.findIn K (.ref X13) "kind" = some none)
    (xe13 : PySem.W.excIn K X13 [.type "ValueError", .type "Exception", .type "BaseException", .type "object"] "ValueError.__new__" = true)
    (xb13 : PySem.W.subIn K (.ref X13) (.type "BaseException") = some true)
    (xg13 : PySem.W.findIn K (.ref X13) "__getattribute__" = some (some (.builtin "BaseException.__getattribute__")))
    (xh13 : PySem.W.findIn K (.ref X13) "__getattr__" = some none)
    (xd13 : PySem.W.hasDictIn K X13 = true)
    (xc13 : PySem.W.findIn K (.ref X13) "__class__" = some (some (.builtin "object.__class__")))
    (xo13 : PySem.W.mroIn K X13 (.type "object") = some true)
    (xv13 : PySem.W.mroIn K X13 (.type "ValueError") = some true)
    (xm13_10 : PySem.W.mroIn K X13 (.ref X10) = some true)
    (xm13_11 : PySem.W.mroIn K X13 (.ref X11) = some false)
    (xm13_12 : PySem.W.mroIn K X13 (.ref X12) = some false)
    (xm13_14 : PySem.W.mroIn K X13 (.ref X14) = some false)
    (xm13_15 : PySem.W.mroIn K X13 (.ref X15) = some false)
    (xm13_16 : PySem.W.mroIn K X13 (.ref X16) = some false)
    (xm13_17 : PySem.W.mroIn K X13 (.ref X17) = some false)
    (xm13_18 : PySem.W.mroIn K X13 (.ref X18) = some false)
    (xm13_19 : PySem.W.mroIn K X13 (.ref X19) = some false)
    (xm13_20 : PySem.W.mroIn K X13 (.ref X20) = some false)
    (xm13_21 : PySem.W.mroIn K X13 (.ref X21) = some false)
    (xm13_22 : PySem.W.mroIn K X13 (.ref X22) = some false)
    (xm13_23 : PySem.W.mroIn K X13 (.ref X23) = some false)
    (xm13_24 : PySem.W.mroIn K X13 (.ref X24) = some false)
    (xm13_25 : PySem.W.mroIn K X13 (.ref X25) = some false)
    (xm13_26 : PySem.W.mroIn K X13 (.ref X26) = some false)
    (xm13_27 : PySem.W.mroIn K X13 (.ref X27) = some false)
    (xm13_28 : PySem.W.mroIn K X13 (.ref X28) = some false)
    (xk14 : PySem.W.keepIn K (.ref X14) = true)
    (xf14 : PySem.W.findIn K (.ref X14) "kind" = some none)
    (xe14 : PySem.W.excIn K X14 [.type "ValueError", .type "Exception", .type "BaseException", .type "object"] "ValueError.__new__" = true)
    (xb14 : PySem.W.subIn K (.ref X14) (.type "BaseException") = some true)
    (xg14 : PySem.W.findIn K (.ref X14) "__getattribute__" = some (some (.builtin "BaseException.__getattribute__")))
    (xh14 : PySem.W.findIn K (.ref X14) "__getattr__" = some none)
    (xd14 : PySem.W.hasDictIn K X14 = true)
    (xc14 : PySem.W.findIn K (.ref X14) "__class__" = some (some (.builtin "object.__class__")))
    (xo14 : PySem.W.mroIn K X14 (.type "object") = some true)
    (xv14 : PySem.W.mroIn K X14 (.type "ValueError") = some true)
    (xm14_10 : PySem.W.mroIn K X14 (.ref X10) = some true)
    (xm14_11 : PySem.W.mroIn K X14 (.ref X11) = some false)
    (xm14_12 : PySem.W.mroIn K X14 (.ref X12) = some false)
    (xm14_13 : PySem.W.mroIn K X14 (.ref X13) = some false)
    (xm14_15 : PySem.W.mroIn K X14 (.ref X15) = some false)
    (xm14_16 : PySem.W.mroIn K X14 (.ref X16) = some false)
    (xm14_17 : PySem.W.mroIn K X14 (.ref X17) = some false)
    (xm14_18 : PySem.W.mroIn K X14 (.ref X18) = some false)
    (xm14_19 : PySem.W.mroIn K X14 (.ref X19) = some false)
    (xm14_20 : PySem.W.mroIn K X14 (.ref X20) = some false)
    (xm14_21 : PySem.W.mroIn K X14 (.ref X21) = some false)
    (xm14_22 : PySem.W.mroIn K X14 (.ref X22) = some false)
    (xm14_23 : PySem.W.mroIn K X14 (.ref X23) = some false)
    (xm14_24 : PySem.W.mroIn K X14 (.ref X24) = some false)
    (xm14_25 : PySem.W.mroIn K X14 (.ref X25) = some false)
    (xm14_26 : PySem.W.mroIn K X14 (.ref X26) = some false)
    (xm14_27 : PySem.W.mroIn K X14 (.ref X27) = some false)
    (xm14_28 : PySem.W.mroIn K X14 (.ref X28) = some false)
    (xk15 : PySem.W.keepIn K (.ref X15) = true)
    (xf15 : PySem.W.findIn K (.ref X15) "kind" = some none)
    (xe15 : PySem.W.excIn K X15 [.type "ValueError", .type "Exception", .type "BaseException", .type "object"] "ValueError.__new__" = true)
    (xb15 : PySem.W.subIn K (.ref X15) (.type "BaseException") = some true)
    (xg15 : PySem.W.findIn K (.ref X15) "__getattribute__" = some (some (.builtin "BaseException.__getattribute__")))
    (xh15 : PySem.W.findIn K (.ref X15) "__getattr__" = some none)
    (xd15 : PySem.W.hasDictIn K X15 = true)
    (xc15 : PySem.W.findIn K (.ref X15) "__class__" = some (some (.builtin "object.__class__")))
    (xo15 : PySem.W.mroIn K X15 (.type "object") = some true)
    (xv15 : PySem.W.mroIn K X15 (.type "ValueError") = some true)
    (xm15_10 : PySem.W.mroIn K X15 (.ref X10) = some true)
    (xm15_11 : PySem.W.mroIn K X15 (.ref X11) = some false)
    (xm15_12 : PySem.W.mroIn K X15 (.ref X12) = some false)
    (xm15_13 : PySem.W.mroIn K X15 (.ref X13) = some false)
    (xm15_14 : PySem.W.mroIn K X15 (.ref X14) = some false)
    (xm15_16 : PySem.W.mroIn K X15 (.ref X16) = some false)
    (xm15_17 : PySem.W.mroIn K X15 (.ref X17) = some false)
    (xm15_18 : PySem.W.mroIn K X15 (.ref X18) = some false)
    (xm15_19 : PySem.W.mroIn K X15 (.ref X19) = some false)
    (xm15_20 : PySem.W.mroIn K X15 (.ref X20) = some false)
    (xm15_21 : PySem.W.mroIn K X15 (.ref X21) = some false)
    (xm15_22 : PySem.W.mroIn K X15 (.ref X22) = some false)
    (xm15_23 : PySem.W.mroIn K X15 (.ref X23) = some false)
    (xm15_24 : PySem.W.mroIn K X15 (.ref X24) = some false)
    (xm15_25 : PySem.W.mroIn K X15 (.ref X25) = some false)
    (xm15_26 : PySem.W.mroIn K X15 (.ref X26) = some false)
    (xm15_27 : PySem.W.mroIn K X15 (.ref X27) = some false)
    (xm15_28 : PySem.W.mroIn K X15 (.ref X28) = some false)
    (xk16 : PySem.W.keepIn K (.ref X16) = true)
    (xf16 : PySem.W.findIn K (.ref X16) "kind" = some none)
    (xe16 : PySem.W.excIn K X16 [.type "ValueError", .type "Exception", .type "BaseException", .type "object"] "ValueError.__new__" = true)
    (xb16 : PySem.W.subIn K (.ref X16) (.type "BaseException") = some true)
    (xg16 : PySem.W.findIn K (.ref X16) "__getattribute__" = some (some (.builtin "BaseException.__getattribute__")))
    (xh16 : PySem.W.findIn K (.ref X16) "__getattr__" = some none)
    (xd16 : PySem.W.hasDictIn K X16 = true)
    (xc16 : PySem.W.findIn K (.ref X16) "__class__" = some (some (.builtin "object.__class__")))
    (xo16 : PySem.W.mroIn K X16 (.type "object") = some true)
    (xv16 : PySem.W.mroIn K X16 (.type "ValueError") = some true)
    (xm16_10 : PySem.W.mroIn K X16 (.ref X10) = some true)
    (xm16_11 : PySem.W.mroIn K X16 (.ref X11) = some false)
    (xm16_12 : PySem.W.mroIn K X16 (.ref X12) = some false)
    (xm16_13 : PySem.W.mroIn K X16 (.ref X13) = some false)
    (xm16_14 : PySem.W.mroIn K X16 (.ref X14) = some false)
    (xm16_15 : PySem.W.mroIn K X16 (.ref X15) = some false)
    (xm16_17 : PySem.W.mroIn K X16 (.ref X17) = some false)
    (xm16_18 : PySem.W.mroIn K X16 (.ref X18) = some false)
    (xm16_19 : PySem.W.mroIn K X16 (.ref X19) = some false)
    (xm16_20 : PySem.W.mroIn K X16 (.ref X20) = some false)
    (xm16_21 : PySem.W.mroIn K X16 (.ref X21) = some false)
    (xm16_22 : PySem.W.mroIn K X16 (.ref X22) = some false)
    (xm16_23 : PySem.W.mroIn K X16 (.ref X23) = some false)
    (xm16_24 : PySem.W.mroIn K X16 (.ref X24) = some false)
    (xm16_25 : PySem.W.mroIn K X16 (.ref X25) = some false)
    (xm16_26 : PySem.W.mroIn K X16 (.ref X26) = some false)
    (xm16_27 : PySem.W.mroIn K X16 (.ref X27) = some false)
    (xm16_28 : PySem.W.mroIn K X16 (.ref X28) = some false)
    (xk17 : PySem.W.keepIn K (.ref X17) = true)
    (xf17 : PySem.W.findIn K (.ref X17) "kind" = some none)
    (xe17 : PySem.W.excIn K X17 [.type "ValueError", .type "Exception", .type "BaseException", .type "object"] "ValueError.__new__" = true)
    (xb17 : PySem.W.subIn K (.ref X17) (.type "BaseException") = some true)
    (xg17 : PySem.W.findIn K (.ref X17) "__getattribute__" = some (some (.builtin "BaseException.__getattribute__")))
    (xh17 : PySem.W.findIn K (.ref X17) "__getattr__" = some none)
    (xd17 : PySem.W.hasDictIn K X17 = true)
    (xc17 : PySem.W.findIn K (.ref X17) "__class__" = some (some (.builtin "object.__class__")))
    (xo17 : PySem.W.mroIn K X17 (.type "object") = some true)
    (xv17 : PySem.W.mroIn K X17 (.type "ValueError") = some true)
    (xm17_10 : PySem.W.mroIn K X17 (.ref X10) = some true)
    (xm17_11 : PySem.W.mroIn K X17 (.ref X11) = some false)
    (xm17_12 : PySem.W.mroIn K X17 (.ref X12) = some false)
    (xm17_13 : PySem.W.mroIn K X17 (.ref X13) = some false)
    (xm17_14 : PySem.W.mroIn K X17 (.ref X14) = some false)
    (xm17_15 : PySem.W.mroIn K X17 (.ref X15) = some false)
    (xm17_16 : PySem.W.mroIn K X17 (.ref X16) = some false)
    (xm17_18 : PySem.W.mroIn K X17 (.ref X18) = some false)
    (xm17_19 : PySem.W.mroIn K X17 (.ref X19) = some false)
    (xm17_20 : PySem.W.mroIn K X17 (.ref X20) = some false)
    (xm17_21 : PySem.W.mroIn K X17 (.ref X21) = some false)
    (xm17_22 : PySem.W.mroIn K X17 (.ref X22) = some false)
    (xm17_23 : PySem.W.mroIn K X17 (.ref X23) = some false)
    (xm17_24 : PySem.W.mroIn K X17 (.ref X24) = some false)
    (xm17_25 : PySem.W.mroIn K X17 (.ref X25) = some false)
    (xm17_26 : PySem.W.mroIn K X17 (.ref X26) = some false)
    (xm17_27 : PySem.W.mroIn K X17 (.ref X27) = some false)
    (xm17_28 : PySem.W.mroIn K X17 (.ref X28) = some false)
    (xk18 : PySem.W.keepIn K (.ref X18) = true)
    (xf18 : PySem.W.findIn K (.ref X18) "kind" = some none)
    (xe18 : PySem.W.excIn K X18 [.type "ValueError", .type "Exception", .type "BaseException", .type "object"] "ValueError.__new__" = true)
    (xb18 : PySem.W.subIn K (.ref X18) (.type "BaseException") = some true)
    (xg18 : PySem.W.findIn K (.ref X18) "__getattribute__" = some (some (.builtin "BaseException.__getattribute__")))
    (xh18 : PySem.W.findIn K (.ref X18) "__getattr__" = some none)
    (xd18 : PySem.W.hasDictIn K X18 = true)
    (xc18 : PySem.W.findIn K (.ref X18) "__class__" = some (some (.builtin "object.__class__")))
    (xo18 : PySem.W.mroIn K X18 (.type "object") = some true)
    (xv18 : PySem.W.mroIn K X18 (.type "ValueError") = some true)
    (xm18_10 : PySem.W.mroIn K X18 (.ref X10) = some true)
    (xm18_11 : PySem.W.mroIn K X18 (.ref X11) = some false)
    (xm18_12 : PySem.W.mroIn K X18 (.ref X12) = some false)
    (xm18_13 : PySem.W.mroIn K X18 (.ref X13) = some false)
    (xm18_14 : PySem.W.mroIn K X18 (.ref X14) = some false)
    (xm18_15 : PySem.W.mroIn K X18 (.ref X15) = some false)
    (xm18_16 : PySem.W.mroIn K X18 (.ref X16) = some false)
    (xm18_17 : PySem.W.mroIn K X18 (.ref X17) = some false)
    (xm18_19 : PySem.W.mroIn K X18 (.ref X19) = some false)
    (xm18_20 : PySem.W.mroIn K X18 (.ref X20) = some false)
    (xm18_21 : PySem.W.mroIn K X18 (.ref X21) = some false)
    (xm18_22 : PySem.W.mroIn K X18 (.ref X22) = some false)
    (xm18_23 : PySem.W.mroIn K X18 (.ref X23) = some false)
    (xm18_24 : PySem.W.mroIn K X18 (.ref X24) = some false)
    (xm18_25 : PySem.W.mroIn K X18 (.ref X25) = some false)
    (xm18_26 : PySem.W.mroIn K X18 (.ref X26) = some false)
    (xm18_27 : PySem.W.mroIn K X18 (.ref X27) = some false)
    (xm18_28 : PySem.W.mroIn K X18 (.ref X28) = some false)
    (xk19 : PySem.W.keepIn K (.ref X19) = true)
    (xf19 : PySem.W.findIn K (.ref X19) "kind" = some none)
    (xe19 : PySem.W.excIn K X19 [.type "ValueError", .type "Exception", .type "BaseException", .type "object"] "ValueError.__new__" = true)
    (xb19 : PySem.W.subIn K (.ref X19) (.type "BaseException") = some true)
    (xg19 : PySem.W.findIn K (.ref X19) "__getattribute__" = some (some (.builtin "BaseException.__getattribute__")))
    (xh19 : PySem.W.findIn K (.ref X19) "__getattr__" = some none)
    (xd19 : PySem.W.hasDictIn K X19 = true)
    (xc19 : PySem.W.findIn K (.ref X19) "__class__" = some (some (.builtin "object.__class__")))
    (xo19 : PySem.W.mroIn K X19 (.type "object") = some true)
    (xv19 : PySem.W.mroIn K X19 (.type "ValueError") = some true)
    (xm19_10 : PySem.W.mroIn K X19 (.ref X10) = some true)
    (xm19_11 : PySem.W.mroIn K X19 (.ref X11) = some false)
    (xm19_12 : PySem.W.mroIn K X19 (.ref X12) = some false)
    (xm19_13 : PySem.W.mroIn K X19 (.ref X13) = some false)
    (xm19_14 : PySem.W.mroIn K X19 (.ref X14) = some false)
    (xm19_15 : PySem.W.mroIn K X19 (.ref X15) = some false)
    (xm19_16 : PySem.W.mroIn K X19 (.ref X16) = some false)
    (xm19_17 : PySem.W.mroIn K X19 (.ref X17) = some false)
    (xm19_18 : PySem.W.mroIn K X19 (.ref X18) = some false)
    (xm19_20 : PySem.W.mroIn K X19 (.ref X20) = some false)
    (xm19_21 : PySem.W.mroIn K X19 (.ref X21) = some false)
    (xm19_22 : PySem.W.mroIn K X19 (.ref X22) = some false)
    (xm19_23 : PySem.W.mroIn K X19 (.ref X23) = some false)
    (xm19_24 : PySem.W.mroIn K X19 (.ref X24) = some false)
    (xm19_25 : PySem.W.mroIn K X19 (.ref X25) = some false)
    (xm19_26 : PySem.W.mroIn K X19 (.ref X26) = some false)
    (xm19_27 : PySem.W.mroIn K X19 (.ref X27) = some false)
    (xm19_28 : PySem.W.mroIn K X19 (.ref X28) = some false)
    (xk20 : PySem.W.keepIn K (.ref X20) = true)
    (xf20 : PySem.W.findIn K (.ref X20) "kind" = some none)
    (xe20 : PySem.W.excIn K X20 [.type "ValueError", .type "Exception", .type "BaseException", .type "object"] "ValueError.__new__" = true)
    (xb20 : PySem.W.subIn K (.ref X20) (.type "BaseException") = some true)
    (xg20 : PySem.W.findIn K (.ref X20) "__getattribute__" = some (some (.builtin "BaseException.__getattribute__")))
    (xh20 : PySem.W.findIn K (.ref X20) "__getattr__" = some none)
    (xd20 : PySem.W.hasDictIn K X20 = true)
    (xc20 : PySem.W.findIn K (.ref X20) "__class__" = some (some (.builtin "object.__class__")))
    (xo20 : PySem.W.mroIn K X20 (.type "object") = some true)
    (xv20 : PySem.W.mroIn K X20 (.type "ValueError") = some true)
    (xm20_10 : PySem.W.mroIn K X20 (.ref X10) = some true)
    (xm20_11 : PySem.W.mroIn K X20 (.ref X11) = some false)
    (xm20_12 : PySem.W.mroIn K X20 (.ref X12) = some false)
    (xm20_13 : PySem.W.mroIn K X20 (.ref X13) = some false)
    (xm20_14 : PySem.W.mroIn K X20 (.ref X14) = some false)
    (xm20_15 : PySem.W.mroIn K X20 (.ref X15) = some false)
    (xm20_16 : PySem.W.mroIn K X20 (.ref X16) = some false)
    (xm20_17 : PySem.W.mroIn K X20 (.ref X17) = some false)
    (xm20_18 : PySem.W.mroIn K X20 (.ref X18) = some false)
    (xm20_19 : PySem.W.mroIn K X20 (.ref X19) = some false)
    (xm20_21 : PySem.W.mroIn K X20 (.ref X21) = some false)
    (xm20_22 : PySem.W.mroIn K X20 (.ref X22) = some false)
    (xm20_23 : PySem.W.mroIn K X20 (.ref X23) = some false)
    (xm20_24 : PySem.W.mroIn K X20 (.ref X24) = some false)
    (xm20_25 : PySem.W.mroIn K X20 (.ref X25) = some false)
    (xm20_26 : PySem.W.mroIn K X20 (.ref X26) = some false)
    (xm20_27 : PySem.W.mroIn K X20 (.ref X27) = some false)
    (xm20_28 : PySem.W.mroIn K X20 (.ref X28) = some false)
    (xk21 : PySem.W.keepIn K (.ref X21) = true)
    (xf21 : PySem.W.findIn K (.ref X21) "kind" = some none)
    (xe21 : PySem.W.excIn K X21 [.type "ValueError", .type "Exception", .type "BaseException", .type "object"] "ValueError.__new__" = true)
    (xb21 : PySem.W.subIn K (.ref X21) (.type "BaseException") = some true)
    (xg21 : PySem.W.findIn K (.ref X21) "__getattribute__" = some (some (.builtin "BaseException.__getattribute__")))
    (xh21 : PySem.W.findIn K (.ref X21) "__getattr__" = some none)
    (xd21 : PySem.W.hasDictIn K X21 = true)
    (xc21 : PySem.W.findIn K (.ref X21) "__class__" = some (some (.builtin "object.__class__")))
    (xo21 : PySem.W.mroIn K X21 (.type "object") = some true)
    (xv21 : PySem.W.mroIn K X21 (.type "ValueError") = some true)
    (xm21_10 : PySem.W.mroIn K X21 (.ref X10) = some true)
    (xm21_11 : PySem.W.mroIn K X21 (.ref X11) = some false)
    (xm21_12 : PySem.W.mroIn K X21 (.ref X12) = some false)
    (xm21_13 : PySem.W.mroIn K X21 (.ref X13) = some false)
    (xm21_14 : PySem.W.mroIn K X21 (.ref X14) = some false)
    (xm21_15 : PySem.W.mroIn K X21 (.ref X15) = some false)
    (xm21_16 : PySem.W.mroIn K X21 (.ref X16) = some false)
    (xm21_17 : PySem.W.mroIn K X21 (.ref X17) = some false)
    (xm21_18 : PySem.W.mroIn K X21 (.ref X18) = some false)
    (xm21_19 : PySem.W.mroIn K X21 (.ref X19) = some false)
    (xm21_20 : PySem.W.mroIn K X21 (.ref X20) = some false)
    (xm21_22 : PySem.W.mroIn K X21 (.ref X22) = some false)
    (xm21_23 : PySem.W.mroIn K X21 (.ref X23) = some false)
    (xm21_24 : PySem.W.mroIn K X21 (.ref X24) = some false)
    (xm21_25 : PySem.W.mroIn K X21 (.ref X25) = some false)
    (xm21_26 : PySem.W.mroIn K X21 (.ref X26) = some false)
    (xm21_27 : PySem.W.mroIn K X21 (.ref X27) = some false)
    (xm21_28 : PySem.W.mroIn K X21 (.ref X28) = some false)
    (xk22 : PySem.W.keepIn K (.ref X22) = true)
    (xf22 : PySem.W.findIn K (.ref X22) "kind" = some none)
    (xe22 : PySem.W.excIn K X22 [.type "ValueError", .type "Exception", .type "BaseException", .type "object"] "ValueError.__new__" = true)
    (xb22 : PySem.W.subIn K (.ref X22) (.type "BaseException") = some true)
    (xg22 : PySem.W.findIn K (.ref X22) "__getattribute__" = some (some (.builtin "BaseException.__getattribute__")))
    (xh22 : PySem.W.findIn K (.ref X22) "__getattr__" = some none)
    (xd22 : PySem.W.hasDictIn K X22 = true)
    (xc22 : PySem.W.findIn K (.ref X22) "__class__" = some (some (.builtin "object.__class__")))
    (xo22 : PySem.W.mroIn K X22 (.type "object") = some true)
    (xv22 : PySem.W.mroIn K X22 (.type "ValueError") = some true)
    (xm22_10 : PySem.W.mroIn K X22 (.ref X10) = some true)
    (xm22_11 : PySem.W.mroIn K X22 (.ref X11) = some false)
    (xm22_12 : PySem.W.mroIn K X22 (.ref X12) = some false)
    (xm22_13 : PySem.W.mroIn K X22 (.ref X13) = some false)
    (xm22_14 : PySem.W.mroIn K X22 (.ref X14) = some false)
    (xm22_15 : PySem.W.mroIn K X22 (.ref X15) = some false)
    (xm22_16 : PySem.W.mroIn K X22 (.ref X16) = some false)
    (xm22_17 : PySem.W.mroIn K X22 (.ref X17) = some false)
    (xm22_18 : PySem.W.mroIn K X22 (.ref X18) = some false)
    (xm22_19 : PySem.W.mroIn K X22 (.ref X19) = some false)
    (xm22_20 : PySem.W.mroIn K X22 (.ref X20) = some false)
    (xm22_21 : PySem.W.mroIn K X22 (.ref X21) = some false)
    (xm22_23 : PySem.W.mroIn K X22 (.ref X23) = some false)
    (xm22_24 : PySem.W.mroIn K X22 (.ref X24) = some false)
    (xm22_25 : PySem.W.mroIn K X22 (.ref X25) = some false)
    (xm22_26 : PySem.W.mroIn K X22 (.ref X26) = some false)
    (xm22_27 : PySem.W.mroIn K X22 (.ref X27) = some false)
    (xm22_28 : PySem.W.mroIn K X22 (.ref X28) = some false)
    (xk23 : PySem.W.keepIn K (.ref X23) = true)
    (xf23 : PySem.W.findIn K (.ref X23) "kind" = some none)
    (xe23 : PySem.W.excIn K X23 [.type "ValueError", .type "Exception", .type "BaseException", .type "object"] "ValueError.__new__" = true)
    (xb23 : PySem.W.subIn K (.ref X23) (.type "BaseException") = some true)
    (xg23 : PySem.W.findIn K (.ref X23) "__getattribute__" = some (some (.builtin "BaseException.__getattribute__")))
    (xh23 : PySem.W.findIn K (.ref X23) "__getattr__" = some none)
    (xd23 : PySem.W.hasDictIn K X23 = true)
    (xc23 : PySem.W.findIn K (.ref X23) "__class__" = some (some (.builtin "object.__class__")))
    (xo23 : PySem.W.mroIn K X23 (.type "object") = some true)
    (xv23 : PySem.W.mroIn K X23 (.type "ValueError") = some true)
    (xm23_10 : PySem.W.mroIn K X23 (.ref X10) = some true)
    (xm23_11 : PySem.W.mroIn K X23 (.ref X11) = some false)
    (xm23_12 : PySem.W.mroIn K X23 (.ref X12) = some false)
    (xm23_13 : PySem.W.mroIn K X23 (.ref X13) = some false)
    (xm23_14 : PySem.W.mroIn K X23 (.ref X14) = some false)
    (xm23_15 : PySem.W.mroIn K X23 (.ref X15) = some false)
    (xm23_16 : PySem.W.mroIn K X23 (.ref X16) = some false)
    (xm23_17 : PySem.W.mroIn K X23 (.ref X17) = some false)
    (xm23_18 : PySem.W.mroIn K X23 (.ref X18) = some false)
    (xm23_19 : PySem.W.mroIn K X23 (.ref X19) = some false)
    (xm23_20 : PySem.W.mroIn K X23 (.ref X20) = some false)
    (xm23_21 : PySem.W.mroIn K X23 (.ref X21) = some false)
    (xm23_22 : PySem.W.mroIn K X23 (.ref X22) = some false)
    (xm23_24 : PySem.W.mroIn K X23 (.ref X24) = some false)
    (xm23_25 : PySem.W.mroIn K X23 (.ref X25) = some false)
    (xm23_26 : PySem.W.mroIn K X23 (.ref X26) = some false)
    (xm23_27 : PySem.W.mroIn K X23 (.ref X27) = some false)
    (xm23_28 : PySem.W.mroIn K X23 (.ref X28) = some false)
    (xk24 : PySem.W.keepIn K (.ref X24) = true)
    (xf24 : PySem.W.findIn K (.ref X24) "kind" = some none)
    (xe24 : PySem.W.excIn K X24 [.type "ValueError", .type "Exception", .type "BaseException", .type "object"] "ValueError.__new__" = true)
    (xb24 : PySem.W.subIn K (.ref X24) (.type "BaseException") = some true)
    (xg24 : PySem.W.findIn K (.ref X24) "__getattribute__" = some (some (.builtin "BaseException.__getattribute__")))
    (xh24 : PySem.W.findIn K (.ref X24) "__getattr__" = some none)
    (xd24 : PySem.W.hasDictIn K X24 = true)
    (xc24 : PySem.W.findIn K (.ref X24) "__class__" = some (some (.builtin "object.__class__")))
    (xo24 : PySem.W.mroIn K X24 (.type "object") = some true)
    (xv24 : PySem.W.mroIn K X24 (.type "ValueError") = some true)
    (xm24_10 : PySem.W.mroIn K X24 (.ref X10) = some true)
    (xm24_11 : PySem.W.mroIn K X24 (.ref X11) = some false)
    (xm24_12 : PySem.W.mroIn K X24 (.ref X12) = some false)
    (xm24_13 : PySem.W.mroIn K X24 (.ref X13) = some false)
    (xm24_14 : PySem.W.mroIn K X24 (.ref X14) = some false)
    (xm24_15 : PySem.W.mroIn K X24 (.ref X15) = some false)
    (xm24_16 : PySem.W.mroIn K X24 (.ref X16) = some false)
    (xm24_17 : PySem.W.mroIn K X24 (.ref X17) = some false)
    (xm24_18 : PySem.W.mroIn K X24 (.ref X18) = some false)
    (xm24_19 : PySem.W.mroIn K X24 (.ref X19) = some false)
    (xm24_20 : PySem.W.mroIn K X24 (.ref X20) = some false)
    (xm24_21 : PySem.W.mroIn K X24 (.ref X21) = some false)
    (xm24_22 : PySem.W.mroIn K X24 (.ref X22) = some false)
    (xm24_23 : PySem.W.mroIn K X24 (.ref X23) = some false)
    (xm24_25 : PySem.W.mroIn K X24 (.ref X25) = some false)
    (xm24_26 : PySem.W.mroIn K X24 (.ref X26) = some false)
    (xm24_27 : PySem.W.mroIn K X24 (.ref X27) = some false)
    (xm24_28 : PySem.W.mroIn K X24 (.ref X28) = some false)
    (xk25 : PySem.W.keepIn K (.ref X25) = true)
    (xf25 : PySem.W.findIn K (.ref X25) "kind" = some none)
    (xe25 : PySem.W.excIn K X25 [.type "ValueError", .type "Exception", .type "BaseException", .type "object"] "ValueError.__new__" = true)
    (xb25 : PySem.W.subIn K (.ref X25) (.type "BaseException") = some true)
    (xg25 : PySem.W.findIn K (.ref X25) "__getattribute__" = some (some (.builtin "BaseException.__getattribute__")))
    (xh25 : PySem.W.findIn K (.ref X25) "__getattr__" = some none)
    (xd25 : PySem.W.hasDictIn K X25 = true)
    (xc25 : PySem.W.findIn K (.ref X25) "__class__" = some (some (.builtin "object.__class__")))
    (xo25 : PySem.W.mroIn K X25 (.type "object") = some true)
    (xv25 : PySem.W.mroIn K X25 (.type "ValueError") = some true)
    (xm25_10 : PySem.W.mroIn K X25 (.ref X10) = some true)
    (xm25_11 : PySem.W.mroIn K X25 (.ref X11) = some false)
    (xm25_12 : PySem.W.mroIn K X25 (.ref X12) = some false)
    (xm25_13 : PySem.W.mroIn K X25 (.ref X13) = some false)
    (xm25_14 : PySem.W.mroIn K X25 (.ref X14) = some false)
    (xm25_15 : PySem.W.mroIn K X25 (.ref X15) = some false)
    (xm25_16 : PySem.W.mroIn K X25 (.ref X16) = some false)
    (xm25_17 : PySem.W.mroIn K X25 (.ref X17) = some false)
    (xm25_18 : PySem.W.mroIn K X25 (.ref X18) = some false)
    (xm25_19 : PySem.W.mroIn K X25 (.ref X19) = some false)
    (xm25_20 : PySem.W.mroIn K X25 (.ref X20) = some false)
    (xm25_21 : PySem.W.mroIn K X25 (.ref X21) = some false)
    (xm25_22 : PySem.W.mroIn K X25 (.ref X22) = some false)
    (xm25_23 : PySem.W.mroIn K X25 (.ref X23) = some false)
    (xm25_24 : PySem.W.mroIn K X25 (.ref X24) = some false)
    (xm25_26 : PySem.W.mroIn K X25 (.ref X26) = some false)
    (xm25_27 : PySem.W.mroIn K X25 (.ref X27) = some false)
    (xm25_28 : PySem.W.mroIn K X25 (.ref X28) = some false)
    (xk26 : PySem.W.keepIn K (.ref X26) = true)
    (xf26 : PySem.W.findIn K (.ref X26) "kind" = some none)
    (xe26 : PySem.W.excIn K X26 [.type "ValueError", .type "Exception", .type "BaseException", .type "object"] "ValueError.__new__" = true)
    (xb26 : PySem.W.subIn K (.ref X26) (.type "BaseException") = some true)
    (xg26 : PySem.W.findIn K (.ref X26) "__getattribute__" = some (some (.builtin "BaseException.__getattribute__")))
    (xh26 : PySem.W.findIn K (.ref X26) "__getattr__" = some none)
    (xd26 : PySem.W.hasDictIn K X26 = true)
    (xc26 : PySem.W.findIn K (.ref X26) "__class__" = some (some (.builtin "object.__class__")))
    (xo26 : PySem.W.mroIn K X26 (.type "object") = some true)
    (xv26 : PySem.W.mroIn K X26 (.type "ValueError") = some true)
    (xm26_10 : PySem.W.mroIn K X26 (.ref X10) = some true)
    (xm26_11 : PySem.W.mroIn K X26 (.ref X11) = some false)
    (xm26_12 : PySem.W.mroIn K X26 (.ref X12) = some false)
    (xm26_13 : PySem.W.mroIn K X26 (.ref X13) = some false)
    (xm26_14 : PySem.W.mroIn K X26 (.ref X14) = some false)
    (xm26_15 : PySem.W.mroIn K X26 (.ref X15) = some false)
    (xm26_16 : PySem.W.mroIn K X26 (.ref X16) = some false)
    (xm26_17 : PySem.W.mroIn K X26 (.ref X17) = some false)
    (xm26_18 : PySem.W.mroIn K X26 (.ref X18) = some false)
    (xm26_19 : PySem.W.mroIn K X26 (.ref X19) = some false)
    (xm26_20 : PySem.W.mroIn K X26 (.ref X20) = some false)
    (xm26_21 : PySem.W.mroIn K X26 (.ref X21) = some false)
    (xm26_22 : PySem.W.mroIn K X26 (.ref X22) = some false)
    (xm26_23 : PySem.W.mroIn K X26 (.ref X23) = some false)
    (xm26_24 : PySem.W.mroIn K X26 (.ref X24) = some false)
    (xm26_25 : PySem.W.mroIn K X26 (.ref X25) = some false)
    (xm26_27 : PySem.W.mroIn K X26 (.ref X27) = some false)
    (xm26_28 : PySem.W.mroIn K X26 (.ref X28) = some false)
    (xk27 : PySem.W.keepIn K (.ref X27) = true)
    (xf27 : PySem.W.findIn K (.ref X27) "limit" = some none)
    (yC27 : K.lookup X27 = some (PySem.excClassObj nm27 qn27 X27 N27 bs27 bm27 true sn27 sb27 ab27 col27 dd27 k027 k127 k227 k327 k527 "ValueError.__new__"))
    (yb27 : PySem.HandSPX.refsVE bm27 = true)
    (ysa27 : PySem.W.findIn K (.ref X27) "__setattr__" = some (some (.builtin "object.__setattr__")))
    (yi27 : PySem.W.findIn K (.ref X27) "__init__" = some (some (.ref fi27_)))
    (yt27 : PySem.W.typeIn K (.ref fi27_) = some (.type "function"))
    (yl27 : K.lookup fi27_ = some ⟨oc27, od27, .func (PySem.W.fnX "__init__" "TooMany.__init__" (defArgs t_TooManyInit) (defBody t_TooManyInit) (defScope t_TooManyInit) [("__class__", cc27)] .none kV27 dc27 pm27 an27 (.ref ca27) ct27), osl27⟩)
    (yc27 : PySem.W.codeIn K (.ref ca27) "TooMany.__init__" = true)
    (yd27 : K.lookup ca27 = some ⟨ccl27, cdd27, .fields vs27, ccs27⟩)
    (ye27 : K.lookup cc27 = some ⟨cl27, cld27, .cell (some (.ref X27)), csl27⟩)
    (yv27 : vs27[2]? = some (.str file27 tf27))
    (yfi27 : ((l.prog.main.file : Str) == file27) = true)
    (yto : (l.prog.main.scope.names.lookup ("super" : Str)).isSome = false)
    (yop : PySem.W.nsIn K cStatics "thirdparty.any" = some none)
    (ysu27 : PySem.W.ks_superIn K X27 X27 "__init__" = some (some (.builtin "ValueError.__init__")))
    (ysv27 : PySem.W.subIn K (.ref X27) (.type "ValueError") = some true)
    (zsuper : PySem.W.nsIn K mainGlobals "super" = some none)
    (xb27 : PySem.W.subIn K (.ref X27) (.type "BaseException") = some true)
    (xg27 : PySem.W.findIn K (.ref X27) "__getattribute__" = some (some (.builtin "BaseException.__getattribute__")))
    (xh27 : PySem.W.findIn K (.ref X27) "__getattr__" = some none)
    (xd27 : PySem.W.hasDictIn K X27 = true)
    (xc27 : PySem.W.findIn K (.ref X27) "__class__" = some (some (.builtin "object.__class__")))
    (xo27 : PySem.W.mroIn K X27 (.type "object") = some true)
    (xv27 : PySem.W.mroIn K X27 (.type "ValueError") = some true)
    (xm27_10 : PySem.W.mroIn K X27 (.ref X10) = some true)
    (xm27_11 : PySem.W.mroIn K X27 (.ref X11) = some false)
    (xm27_12 : PySem.W.mroIn K X27 (.ref X12) = some false)
    (xm27_13 : PySem.W.mroIn K X27 (.ref X13) = some false)
    (xm27_14 : PySem.W.mroIn K X27 (.ref X14) = some false)
    (xm27_15 : PySem.W.mroIn K X27 (.ref X15) = some false)
    (xm27_16 : PySem.W.mroIn K X27 (.ref X16) = some false)
    (xm27_17 : PySem.W.mroIn K X27 (.ref X17) = some false)
    (xm27_18 : PySem.W.mroIn K X27 (.ref X18) = some false)
    (xm27_19 : PySem.W.mroIn K X27 (.ref X19) = some false)
    (xm27_20 : PySem.W.mroIn K X27 (.ref X20) = some false)
    (xm27_21 : PySem.W.mroIn K X27 (.ref X21) = some false)
    (xm27_22 : PySem.W.mroIn K X27 (.ref X22) = some false)
    (xm27_23 : PySem.W.mroIn K X27 (.ref X23) = some false)
    (xm27_24 : PySem.W.mroIn K X27 (.ref X24) = some false)
    (xm27_25 : PySem.W.mroIn K X27 (.ref X25) = some false)
    (xm27_26 : PySem.W.mroIn K X27 (.ref X26) = some false)
    (xm27_28 : PySem.W.mroIn K X27 (.ref X28) = some false)
    (xk28 : PySem.W.keepIn K (.ref X28) = true)
    (xf28 : PySem.W.findIn K (.ref X28) "kind" = some none)
    (yC28 : K.lookup X28 = some (PySem.excClassObj nm28 qn28 X28 N28 bs28 bm28 true sn28 sb28 ab28 col28 dd28 k028 k128 k228 k328 k528 "ValueError.__new__"))
    (yb28 : PySem.HandSPX.refsVE bm28 = true)
    (ysa28 : PySem.W.findIn K (.ref X28) "__setattr__" = some (some (.builtin "object.__setattr__")))
    (yi28 : PySem.W.findIn K (.ref X28) "__init__" = some (some (.ref fi28_)))
    (yt28 : PySem.W.typeIn K (.ref fi28_) = some (.type "function"))
    (yl28 : K.lookup fi28_ = some ⟨oc28, od28, .func (PySem.W.fnX "__init__" "Broken.__init__" (defArgs t_BrokenInit) (defBody t_BrokenInit) (defScope t_BrokenInit) [("__class__", cc28)] .none kV28 dc28 pm28 an28 (.ref ca28) ct28), osl28⟩)
    (yc28 : PySem.W.codeIn K (.ref ca28) "Broken.__init__" = true)
    (yd28 : K.lookup ca28 = some ⟨ccl28, cdd28, .fields vs28, ccs28⟩)
    (ye28 : K.lookup cc28 = some ⟨cl28, cld28, .cell (some (.ref X28)), csl28⟩)
    (yv28 : vs28[2]? = some (.str file28 tf28))
    (yfi28 : ((l.prog.main.file : Str) == file28) = true)
    (ysu28 : PySem.W.ks_superIn K X28 X28 "__init__" = some (some (.builtin "ValueError.__init__")))
    (ysv28 : PySem.W.subIn K (.ref X28) (.type "ValueError") = some true)
    (xb28 : PySem.W.subIn K (.ref X28) (.type "BaseException") = some true)
    (xg28 : PySem.W.findIn K (.ref X28) "__getattribute__" = some (some (.builtin "BaseException.__getattribute__")))
    (xh28 : PySem.W.findIn K (.ref X28) "__getattr__" = some none)
    (xd28 : PySem.W.hasDictIn K X28 = true)
    (xc28 : PySem.W.findIn K (.ref X28) "__class__" = some (some (.builtin "object.__class__")))
    (xo28 : PySem.W.mroIn K X28 (.type "object") = some true)
    (xv28 : PySem.W.mroIn K X28 (.type "ValueError") = some true)
    (xm28_10 : PySem.W.mroIn K X28 (.ref X10) = some true)
    (xm28_11 : PySem.W.mroIn K X28 (.ref X11) = some false)
    (xm28_12 : PySem.W.mroIn K X28 (.ref X12) = some false)
    (xm28_13 : PySem.W.mroIn K X28 (.ref X13) = some false)
    (xm28_14 : PySem.W.mroIn K X28 (.ref X14) = some false)
    (xm28_15 : PySem.W.mroIn K X28 (.ref X15) = some false)
    (xm28_16 : PySem.W.mroIn K X28 (.ref X16) = some false)
    (xm28_17 : PySem.W.mroIn K X28 (.ref X17) = some false)
    (xm28_18 : PySem.W.mroIn K X28 (.ref X18) = some false)
    (xm28_19 : PySem.W.mroIn K X28 (.ref X19) = some false)
    (xm28_20 : PySem.W.mroIn K X28 (.ref X20) = some false)
    (xm28_21 : PySem.W.mroIn K X28 (.ref X21) = some false)
    (xm28_22 : PySem.W.mroIn K X28 (.ref X22) = some false)
    (xm28_23 : PySem.W.mroIn K X28 (.ref X23) = some false)
    (xm28_24 : PySem.W.mroIn K X28 (.ref X24) = some false)
    (xm28_25 : PySem.W.mroIn K X28 (.ref X25) = some false)
    (xm28_26 : PySem.W.mroIn K X28 (.ref X26) = some false)
    (xm28_27 : PySem.W.mroIn K X28 (.ref X27) = some false)
    (zlen : PySem.W.nsIn K mainGlobals "len" = some none)
    (zrange : PySem.W.nsIn K mainGlobals "range" = some none)
    (zisinstance : PySem.W.nsIn K mainGlobals "isinstance" = some none)
    (ztuple : PySem.W.nsIn K mainGlobals "tuple" = some none)
    (zlist : PySem.W.nsIn K mainGlobals "list" = some none)
    (zall : PySem.W.nsIn K mainGlobals "all" = some none)
    (zany : PySem.W.nsIn K mainGlobals "any" = some none)
    (zmax : PySem.W.nsIn K mainGlobals "max" = some none)
    (zmin : PySem.W.nsIn K mainGlobals "min" = some none)
    (zset : PySem.W.nsIn K mainGlobals "set" = some none)
    (zsorted : PySem.W.nsIn K mainGlobals "sorted" = some none)
    (zenumerate : PySem.W.nsIn K mainGlobals "enumerate" = some none)
    (zzip : PySem.W.nsIn K mainGlobals "zip" = some none)
    (zrepr : PySem.W.nsIn K mainGlobals "repr" = some none)
    (zstr : PySem.W.nsIn K mainGlobals "str" = some none)
    (zint : PySem.W.nsIn K mainGlobals "int" = some none)
    (zsum : PySem.W.nsIn K mainGlobals "sum" = some none)
    (zdict : PySem.W.nsIn K mainGlobals "dict" = some none)
    (zbool : PySem.W.nsIn K mainGlobals "bool" = some none)
    (vG_FEWEST_VALUES : PySem.W.nsIn K mainGlobals "FEWEST_VALUES" = some (some (.int (2) uG_FEWEST_VALUES)))
    (vG_MOST_VALUES : PySem.W.nsIn K mainGlobals "MOST_VALUES" = some (some (.int (16) uG_MOST_VALUES)))
    (vG_MOST_BITS : PySem.W.nsIn K mainGlobals "MOST_BITS" = some (some (.int (5) uG_MOST_BITS)))
    (a_law_pen : PySem.W.nsIn K mainGlobals "_law_pen" = some (some (.ref f__law_pen_)))
    (l_law_pen : K.lookup f__law_pen_ = some ⟨oc_law_pen, od_law_pen, .func (PySem.W.fnOf "_law_pen" "_law_pen" (defArgs t__law_pen) (defBody t__law_pen) (defScope t__law_pen) .none kV_law_pen dc_law_pen pm_law_pen an_law_pen cd_law_pen ct_law_pen), sl_law_pen⟩)
    (c_law_pen : PySem.W.codeIn K cd_law_pen "_law_pen" = true)
    (k_law_pen : PySem.W.keepIn K (.ref f__law_pen_) = true)
    (a_law_draw : PySem.W.nsIn K mainGlobals "_law_draw" = some (some (.ref f__law_draw_)))
    (l_law_draw : K.lookup f__law_draw_ = some ⟨oc_law_draw, od_law_draw, .func (PySem.W.fnOf "_law_draw" "_law_draw" (defArgs t__law_draw) (defBody t__law_draw) (defScope t__law_draw) .none kV_law_draw dc_law_draw pm_law_draw an_law_draw cd_law_draw ct_law_draw), sl_law_draw⟩)
    (c_law_draw : PySem.W.codeIn K cd_law_draw "_law_draw" = true)
    (k_law_draw : PySem.W.keepIn K (.ref f__law_draw_) = true)
    (a_law_pick : PySem.W.nsIn K mainGlobals "_law_pick" = some (some (.ref f__law_pick_)))
    (l_law_pick : K.lookup f__law_pick_ = some ⟨oc_law_pick, od_law_pick, .func (PySem.W.fnOf "_law_pick" "_law_pick" (defArgs t__law_pick) (defBody t__law_pick) (defScope t__law_pick) .none kV_law_pick dc_law_pick pm_law_pick an_law_pick cd_law_pick ct_law_pick), sl_law_pick⟩)
    (c_law_pick : PySem.W.codeIn K cd_law_pick "_law_pick" = true)
    (k_law_pick : PySem.W.keepIn K (.ref f__law_pick_) = true)
    (a_law_cell_at : PySem.W.nsIn K mainGlobals "_law_cell_at" = some (some (.ref f__law_cell_at_)))
    (l_law_cell_at : K.lookup f__law_cell_at_ = some ⟨oc_law_cell_at, od_law_cell_at, .func (PySem.W.fnOf "_law_cell_at" "_law_cell_at" (defArgs t__law_cell_at) (defBody t__law_cell_at) (defScope t__law_cell_at) .none kV_law_cell_at dc_law_cell_at pm_law_cell_at an_law_cell_at cd_law_cell_at ct_law_cell_at), sl_law_cell_at⟩)
    (c_law_cell_at : PySem.W.codeIn K cd_law_cell_at "_law_cell_at" = true)
    (k_law_cell_at : PySem.W.keepIn K (.ref f__law_cell_at_) = true)
    (a_law_word : PySem.W.nsIn K mainGlobals "_law_word" = some (some (.ref f__law_word_)))
    (l_law_word : K.lookup f__law_word_ = some ⟨oc_law_word, od_law_word, .func (PySem.W.fnOf "_law_word" "_law_word" (defArgs t__law_word) (defBody t__law_word) (defScope t__law_word) .none kV_law_word dc_law_word pm_law_word an_law_word cd_law_word ct_law_word), sl_law_word⟩)
    (c_law_word : PySem.W.codeIn K cd_law_word "_law_word" = true)
    (k_law_word : PySem.W.keepIn K (.ref f__law_word_) = true)
    (ais_between : PySem.W.nsIn K mainGlobals "is_between" = some (some (.ref f_is_between_)))
    (lis_between : K.lookup f_is_between_ = some ⟨ocis_between, odis_between, .func (PySem.W.fnOf "is_between" "is_between" (defArgs t_is_between) (defBody t_is_between) (defScope t_is_between) .none kVis_between dcis_between pmis_between anis_between cdis_between ctis_between), slis_between⟩)
    (cis_between : PySem.W.codeIn K cdis_between "is_between" = true)
    (kis_between : PySem.W.keepIn K (.ref f_is_between_) = true)
    (aare_bits : PySem.W.nsIn K mainGlobals "are_bits" = some (some (.ref f_are_bits_)))
    (lare_bits : K.lookup f_are_bits_ = some ⟨ocare_bits, odare_bits, .func (PySem.W.fnOf "are_bits" "are_bits" (defArgs t_are_bits) (defBody t_are_bits) (defScope t_are_bits) .none kVare_bits dcare_bits pmare_bits anare_bits cdare_bits ctare_bits), slare_bits⟩)
    (care_bits : PySem.W.codeIn K cdare_bits "are_bits" = true)
    (kare_bits : PySem.W.keepIn K (.ref f_are_bits_) = true)
    (aare_words : PySem.W.nsIn K mainGlobals "are_words" = some (some (.ref f_are_words_)))
    (lare_words : K.lookup f_are_words_ = some ⟨ocare_words, odare_words, .func (PySem.W.fnOf "are_words" "are_words" (defArgs t_are_words) (defBody t_are_words) (defScope t_are_words) .none kVare_words dcare_words pmare_words anare_words cdare_words ctare_words), slare_words⟩)
    (care_words : PySem.W.codeIn K cdare_words "are_words" = true)
    (kare_words : PySem.W.keepIn K (.ref f_are_words_) = true)
    (aCodeX_initX : PySem.W.findIn K (.ref C0) "__init__" = some (some (.ref f_CodeX_initX_)))
    (iCodeX_initX : PySem.W.isFn K (.ref f_CodeX_initX_) = true)
    (lCodeX_initX : K.lookup f_CodeX_initX_ = some ⟨ocCodeX_initX, odCodeX_initX, .func (PySem.W.fnOf "__init__" "Code.__init__" (defArgs t_CodeX_initX) (defBody t_CodeX_initX) (defScope t_CodeX_initX) .none kVCodeX_initX dcCodeX_initX pmCodeX_initX anCodeX_initX cdCodeX_initX ctCodeX_initX), slCodeX_initX⟩)
    (cCodeX_initX : PySem.W.codeIn K cdCodeX_initX "Code.__init__" = true)
    (kCodeX_initX : PySem.W.keepIn K (.ref f_CodeX_initX_) = true)
    (alaw : PySem.W.nsIn K mainGlobals "law" = some (some (.ref f_law_)))
    (llaw : K.lookup f_law_ = some ⟨oclaw, odlaw, .func (PySem.W.fnOf "law" "law" (defArgs t_law) (defBody t_law) (defScope t_law) .none kVlaw dclaw pmlaw anlaw cdlaw ctlaw), sllaw⟩)
    (claw : PySem.W.codeIn K cdlaw "law" = true)
    (klaw : PySem.W.keepIn K (.ref f_law_) = true)
    (a_law_said : PySem.W.nsIn K mainGlobals "_law_said" = some (some (.ref f__law_said_)))
    (l_law_said : K.lookup f__law_said_ = some ⟨oc_law_said, od_law_said, .func (PySem.W.fnOf "_law_said" "_law_said" (defArgs t__law_said) (defBody t__law_said) (defScope t__law_said) .none kV_law_said dc_law_said pm_law_said an_law_said cd_law_said ct_law_said), sl_law_said⟩)
    (c_law_said : PySem.W.codeIn K cd_law_said "_law_said" = true)
    (k_law_said : PySem.W.keepIn K (.ref f__law_said_) = true)
    (elaw : cdlaw = .ref k0law)
    (ylaw : K.lookup k0law = some ⟨.type "code", ydlaw, .fields yvlaw, ysllaw⟩)
    (yplaw : yvlaw[11]? = some (.ref Plaw))
    (yqlaw : yvlaw.getD 11 .none = .ref Plaw)
    (yrlaw : yvlaw.getD 18 .none = .str yflaw ytlaw)
    (yslaw : yvlaw.getD 7 .none = .int yllaw yglaw)
    (yulaw : yvlaw.getD 9 .none = .bool yblaw)
    (ywlaw : yvlaw.getD 10 .none = .int yelaw yxlaw)
    (ynlaw : k0law ≠ Plaw)
    (yklaw : K.lookup Plaw = none)
    (owlaw : h.get? Plaw = some { cls := .none, data := .fields #[] })
    : ∃ (fd : FuncData) (cs : List (Addr × Addr)), (∀ p ∈ cs, h.get? p.2 = some { cls := .none, data := .fields #[] }) ∧ (∀ p ∈ cs, K.lookup p.2 = Option.none) ∧ (∀ p ∈ cs, PySem.W.CodeHd h p.1 p.2) ∧ (∀ (s : Shared) (v : Value), BindsTo s fd ⟨[v], []⟩ [("_law_script", v)]) ∧ ∀ base : Heap, K.In base → base.Ns mainGlobals mg → (∀ p ∈ cs, LamX.TabB base mg p.1 p.2) → ∃ g : Gs, g.K = K ∧ (∀ p ∈ g.tabs, p.1 ∈ cs.map (·.2)) ∧ FnG l.prog w K mg base (L2N.CX l.prog w) 8 fa fd ["_law_script"] (spF g f_law) := by
  have e := hfa.symm.trans (PySem.W.mg_of X G alaw)
  cases e
  have F__law_pen := fun_mk (st := t__law_pen) l_law_pen c_law_pen k_law_pen
  have F__law_draw := fun_mk (st := t__law_draw) l_law_draw c_law_draw k_law_draw
  have F__law_pick := fun_mk (st := t__law_pick) l_law_pick c_law_pick k_law_pick
  have F__law_cell_at := fun_mk (st := t__law_cell_at) l_law_cell_at c_law_cell_at k_law_cell_at
  have F__law_word := fun_mk (st := t__law_word) l_law_word c_law_word k_law_word
  have F_is_between := fun_mk (st := t_is_between) lis_between cis_between kis_between
  have F_are_bits := fun_mk (st := t_are_bits) lare_bits care_bits kare_bits
  have F_are_words := fun_mk (st := t_are_words) lare_words care_words kare_words
  have F_CodeX_initX := fun_mk (st := t_CodeX_initX) lCodeX_initX cCodeX_initX kCodeX_initX
  have F_law := fun_mk (st := t_law) llaw claw klaw
  have F__law_said := fun_mk (st := t__law_said) l_law_said c_law_said k_law_said
  have cwlaw : PySem.W.CodeHd h k0law Plaw := ⟨_, _, _, _, _, _, _, _, _, X _ _ ylaw, rfl, rfl, yplaw, yqlaw, yrlaw, yslaw, yulaw, ywlaw, ynlaw⟩
  refine ⟨PySem.W.fnOf "law" "law" (defArgs t_law) (defBody t_law) (defScope t_law) .none kVlaw dclaw pmlaw anlaw cdlaw ctlaw, [(k0law, Plaw)], fun p hp => by
    simp only [List.mem_cons, List.not_mem_nil, or_false] at hp
    rcases hp with rfl
    · exact owlaw
    , fun p hp => by
    simp only [List.mem_cons, List.not_mem_nil, or_false] at hp
    rcases hp with rfl
    · exact yklaw
    , fun p hp => by
    simp only [List.mem_cons, List.not_mem_nil, or_false] at hp
    rcases hp with rfl
    · exact cwlaw
    , fun s v => .of_eq rfl, fun base _ _ TB => ?_⟩
  let g : Gs := { prog := l.prog, w := w, base := base, K := K, mg := mg, cl := fun n => if n = 0 then C0 else if n = 10 then X10 else if n = 11 then X11 else if n = 12 then X12 else if n = 13 then X13 else if n = 14 then X14 else if n = 15 then X15 else if n = 16 then X16 else if n = 17 then X17 else if n = 18 then X18 else if n = 19 then X19 else if n = 20 then X20 else if n = 21 then X21 else if n = 22 then X22 else if n = 23 then X23 else if n = 24 then X24 else if n = 25 then X25 else if n = 26 then X26 else if n = 27 then X27 else if n = 28 then X28 else 0, has := fun n => n == 0, tabs := [(Plaw, (("law" : Str) ++ ".<locals>.") ++ "<lambda>")], lam := fun n => ⟨"", ⟨[], [], Option.none, [], [], Option.none, []⟩, noE, defScope t_law⟩ }
  refine ⟨g, rfl, fun p hp => ?_, ?_⟩
  · have hp : p ∈ g.tabs := hp
    simp only [g, List.mem_cons, List.not_mem_nil, or_false] at hp
    rcases hp with rfl <;> simp
  have cC0 : ClsC g 0 := ⟨⟨pgC0, hdC0, poC0, saC0⟩, fun f hf => by
    have hf : f ∈ [("row" : Str), ("known" : Str)] := hf
    simp only [List.mem_cons, List.not_mem_nil, or_false] at hf
    rcases hf with rfl | rfl
    · exact n0C0
    · exact n1C0
    , by decide, dcC0, moC0, fun T => by
      cases T
      · exact kit_obj bintC0
      · exact kit_obj bboolC0
      · exact kit_obj btupleC0
      · exact kit_obj bstrC0
      · exact kit_obj blistC0
    , fun n hn => kit_own hn icC0 tyC0
    ⟩
  have hz : ∀ c, g.has c = true → c = 0 := fun c hc => by simpa [g] using hc
  have fx : Fx g := ⟨fun c hc => by rw [hz c hc]; exact cC0, fun c d hc hd => by rw [hz c hc, hz d hd]; exact kit_self, hn, htk, fun x hx => by
    simp only [List.mem_cons, List.not_mem_nil, or_false] at hx
    rcases hx with rfl | rfl | rfl | rfl | rfl | rfl | rfl | rfl | rfl | rfl | rfl | rfl | rfl | rfl | rfl | rfl | rfl | rfl | rfl
    · exact PySem.W.mg_none_of X G zlen
    · exact PySem.W.mg_none_of X G zrange
    · exact PySem.W.mg_none_of X G zisinstance
    · exact PySem.W.mg_none_of X G ztuple
    · exact PySem.W.mg_none_of X G zlist
    · exact PySem.W.mg_none_of X G zall
    · exact PySem.W.mg_none_of X G zany
    · exact PySem.W.mg_none_of X G zmax
    · exact PySem.W.mg_none_of X G zmin
    · exact PySem.W.mg_none_of X G zset
    · exact PySem.W.mg_none_of X G zsorted
    · exact PySem.W.mg_none_of X G zenumerate
    · exact PySem.W.mg_none_of X G zzip
    · exact PySem.W.mg_none_of X G zrepr
    · exact PySem.W.mg_none_of X G zstr
    · exact PySem.W.mg_none_of X G zint
    · exact PySem.W.mg_none_of X G zsum
    · exact PySem.W.mg_none_of X G zdict
    · exact PySem.W.mg_none_of X G zbool
    ⟩
  have XM10 : g.mg "ReadError" = some (.ref (g.cl 10)) := PySem.W.mg_of X G xa10
  have XM11 : g.mg "NoWords" = some (.ref (g.cl 11)) := PySem.W.mg_of X G xa11
  have XM12 : g.mg "NoCode" = some (.ref (g.cl 12)) := PySem.W.mg_of X G xa12
  have XM13 : g.mg "NoValue" = some (.ref (g.cl 13)) := PySem.W.mg_of X G xa13
  have XM14 : g.mg "NoWord" = some (.ref (g.cl 14)) := PySem.W.mg_of X G xa14
  have XM15 : g.mg "NoOrder" = some (.ref (g.cl 15)) := PySem.W.mg_of X G xa15
  have XM16 : g.mg "NoPlaces" = some (.ref (g.cl 16)) := PySem.W.mg_of X G xa16
  have XM17 : g.mg "NoText" = some (.ref (g.cl 17)) := PySem.W.mg_of X G xa17
  have XM18 : g.mg "NoSpan" = some (.ref (g.cl 18)) := PySem.W.mg_of X G xa18
  have XM19 : g.mg "NoNumber" = some (.ref (g.cl 19)) := PySem.W.mg_of X G xa19
  have XM20 : g.mg "NoBridge" = some (.ref (g.cl 20)) := PySem.W.mg_of X G xa20
  have XM21 : g.mg "NoState" = some (.ref (g.cl 21)) := PySem.W.mg_of X G xa21
  have XM22 : g.mg "NoBeat" = some (.ref (g.cl 22)) := PySem.W.mg_of X G xa22
  have XM23 : g.mg "NoLap" = some (.ref (g.cl 23)) := PySem.W.mg_of X G xa23
  have XM24 : g.mg "NoLook" = some (.ref (g.cl 24)) := PySem.W.mg_of X G xa24
  have XM25 : g.mg "NothingDone" = some (.ref (g.cl 25)) := PySem.W.mg_of X G xa25
  have XM26 : g.mg "TooMuch" = some (.ref (g.cl 26)) := PySem.W.mg_of X G xa26
  have XM27 : g.mg "TooMany" = some (.ref (g.cl 27)) := PySem.W.mg_of X G xa27
  have XM28 : g.mg "Broken" = some (.ref (g.cl 28)) := PySem.W.mg_of X G xa28
  have XK_NoWords : ExcN g 11 "NoWords" := ⟨⟨xk11, xe11, xb11, xt11⟩, XM11⟩
  have XK_NoCode : ExcN g 12 "NoCode" := ⟨⟨xk12, xe12, xb12, xt12⟩, XM12⟩
  have XK_NoValue : ExcN g 13 "NoValue" := ⟨⟨xk13, xe13, xb13, xt13⟩, XM13⟩
  have XK_NoWord : ExcN g 14 "NoWord" := ⟨⟨xk14, xe14, xb14, xt14⟩, XM14⟩
  have XK_NoOrder : ExcN g 15 "NoOrder" := ⟨⟨xk15, xe15, xb15, xt15⟩, XM15⟩
  have XK_NoPlaces : ExcN g 16 "NoPlaces" := ⟨⟨xk16, xe16, xb16, xt16⟩, XM16⟩
  have XK_NoText : ExcN g 17 "NoText" := ⟨⟨xk17, xe17, xb17, xt17⟩, XM17⟩
  have XK_NoSpan : ExcN g 18 "NoSpan" := ⟨⟨xk18, xe18, xb18, xt18⟩, XM18⟩
  have XK_NoNumber : ExcN g 19 "NoNumber" := ⟨⟨xk19, xe19, xb19, xt19⟩, XM19⟩
  have XK_NoBridge : ExcN g 20 "NoBridge" := ⟨⟨xk20, xe20, xb20, xt20⟩, XM20⟩
  have XK_NoState : ExcN g 21 "NoState" := ⟨⟨xk21, xe21, xb21, xt21⟩, XM21⟩
  have XK_NoBeat : ExcN g 22 "NoBeat" := ⟨⟨xk22, xe22, xb22, xt22⟩, XM22⟩
  have XK_NoLap : ExcN g 23 "NoLap" := ⟨⟨xk23, xe23, xb23, xt23⟩, XM23⟩
  have XK_NoLook : ExcN g 24 "NoLook" := ⟨⟨xk24, xe24, xb24, xt24⟩, XM24⟩
  have XK_NothingDone : ExcN g 25 "NothingDone" := ⟨⟨xk25, xe25, xb25, xt25⟩, XM25⟩
  have XK_TooMuch : ExcN g 26 "TooMuch" := ⟨⟨xk26, xe26, xb26, xt26⟩, XM26⟩
  have XI_TooMany : ExcI g 1 27 ∧ g.mg "TooMany" = some (.ref (g.cl 27)) := ⟨⟨fi27_, _, "limit", ⟨⟨_, _, _, _, _, _, _, _, _, _, _, _, _, _, _, yC27, yb27⟩, ysa27, xb27, xt27, xk27⟩, yi27, yt27, exc_init (g := g) (k := 0) init_s27 ⟨⟨_, _, _, _, _, _, _, _, _, _, rfl, yl27, yc27, _, _, _, _, _, yd27, yv27⟩, ⟨_, _, _, ye27⟩, xm27_27, yop, ysu27, ysv27⟩ ⟨⟨_, _, _, _, _, _, _, _, _, _, _, _, _, _, _, yC27, yb27⟩, ysa27, xb27, xt27, xk27⟩ xf27 (PySem.W.mg_none_of X G zsuper) yfi27 yto, .all fun us hl => match us, hl with | [_, _], _ => rfl⟩, XM27⟩
  have XJ_TooMany : ExcIK g 1 27 "limit" ∧ g.mg "TooMany" = some (.ref (g.cl 27)) := ⟨⟨fi27_, _, ⟨⟨_, _, _, _, _, _, _, _, _, _, _, _, _, _, _, yC27, yb27⟩, ysa27, xb27, xt27, xk27⟩, yi27, yt27, exc_init (g := g) (k := 0) init_s27 ⟨⟨_, _, _, _, _, _, _, _, _, _, rfl, yl27, yc27, _, _, _, _, _, yd27, yv27⟩, ⟨_, _, _, ye27⟩, xm27_27, yop, ysu27, ysv27⟩ ⟨⟨_, _, _, _, _, _, _, _, _, _, _, _, _, _, _, yC27, yb27⟩, ysa27, xb27, xt27, xk27⟩ xf27 (PySem.W.mg_none_of X G zsuper) yfi27 yto, fun s us ws _ h1 h2 => match us, ws, h1, h2 with | [_], [_], _, _ => .of_eq (by kernel_rfl)⟩, XM27⟩
  have XI_Broken : ExcI g 1 28 ∧ g.mg "Broken" = some (.ref (g.cl 28)) := ⟨⟨fi28_, _, "kind", ⟨⟨_, _, _, _, _, _, _, _, _, _, _, _, _, _, _, yC28, yb28⟩, ysa28, xb28, xt28, xk28⟩, yi28, yt28, exc_init (g := g) (k := 0) init_s28 ⟨⟨_, _, _, _, _, _, _, _, _, _, rfl, yl28, yc28, _, _, _, _, _, yd28, yv28⟩, ⟨_, _, _, ye28⟩, xm28_28, yop, ysu28, ysv28⟩ ⟨⟨_, _, _, _, _, _, _, _, _, _, _, _, _, _, _, yC28, yb28⟩, ysa28, xb28, xt28, xk28⟩ xf28 (PySem.W.mg_none_of X G zsuper) yfi28 yto, .all fun us hl => match us, hl with | [_, _], _ => rfl⟩, XM28⟩
  have XJ_Broken : ExcIK g 1 28 "kind" ∧ g.mg "Broken" = some (.ref (g.cl 28)) := ⟨⟨fi28_, _, ⟨⟨_, _, _, _, _, _, _, _, _, _, _, _, _, _, _, yC28, yb28⟩, ysa28, xb28, xt28, xk28⟩, yi28, yt28, exc_init (g := g) (k := 0) init_s28 ⟨⟨_, _, _, _, _, _, _, _, _, _, rfl, yl28, yc28, _, _, _, _, _, yd28, yv28⟩, ⟨_, _, _, ye28⟩, xm28_28, yop, ysu28, ysv28⟩ ⟨⟨_, _, _, _, _, _, _, _, _, _, _, _, _, _, _, yC28, yb28⟩, ysa28, xb28, xt28, xk28⟩ xf28 (PySem.W.mg_none_of X G zsuper) yfi28 yto, fun s us ws _ h1 h2 => match us, ws, h1, h2 with | [_], [_], _, _ => .of_eq (by kernel_rfl)⟩, XM28⟩
  have fxn : FxN g := by
    refine ⟨fun c hc => ?_, fun c hc d hd => ?_, fun c hc => ?_, fun c hc => ?_, PySem.W.mg_none_of X G zVE⟩
    · simp only [excL, List.mem_cons, List.not_mem_nil, or_false] at hc
      rcases hc with rfl | rfl | rfl | rfl | rfl | rfl | rfl | rfl | rfl | rfl | rfl | rfl | rfl | rfl | rfl | rfl | rfl | rfl
      · exact ⟨xg11, xh11, xb11, xd11, xc11, hn, htk, xo11⟩
      · exact ⟨xg12, xh12, xb12, xd12, xc12, hn, htk, xo12⟩
      · exact ⟨xg13, xh13, xb13, xd13, xc13, hn, htk, xo13⟩
      · exact ⟨xg14, xh14, xb14, xd14, xc14, hn, htk, xo14⟩
      · exact ⟨xg15, xh15, xb15, xd15, xc15, hn, htk, xo15⟩
      · exact ⟨xg16, xh16, xb16, xd16, xc16, hn, htk, xo16⟩
      · exact ⟨xg17, xh17, xb17, xd17, xc17, hn, htk, xo17⟩
      · exact ⟨xg18, xh18, xb18, xd18, xc18, hn, htk, xo18⟩
      · exact ⟨xg19, xh19, xb19, xd19, xc19, hn, htk, xo19⟩
      · exact ⟨xg20, xh20, xb20, xd20, xc20, hn, htk, xo20⟩
      · exact ⟨xg21, xh21, xb21, xd21, xc21, hn, htk, xo21⟩
      · exact ⟨xg22, xh22, xb22, xd22, xc22, hn, htk, xo22⟩
      · exact ⟨xg23, xh23, xb23, xd23, xc23, hn, htk, xo23⟩
      · exact ⟨xg24, xh24, xb24, xd24, xc24, hn, htk, xo24⟩
      · exact ⟨xg25, xh25, xb25, xd25, xc25, hn, htk, xo25⟩
      · exact ⟨xg26, xh26, xb26, xd26, xc26, hn, htk, xo26⟩
      · exact ⟨xg27, xh27, xb27, xd27, xc27, hn, htk, xo27⟩
      · exact ⟨xg28, xh28, xb28, xd28, xc28, hn, htk, xo28⟩
    · simp only [excL, List.mem_cons, List.not_mem_nil, or_false] at hc
      simp only [excL, List.mem_cons, List.not_mem_nil, or_false] at hd
      rcases hc with rfl | rfl | rfl | rfl | rfl | rfl | rfl | rfl | rfl | rfl | rfl | rfl | rfl | rfl | rfl | rfl | rfl | rfl <;> rcases hd with rfl | rfl | rfl | rfl | rfl | rfl | rfl | rfl | rfl | rfl | rfl | rfl | rfl | rfl | rfl | rfl | rfl | rfl
      · exact kit_self
      · exact kit_ref xm11_12 xm12_12 xi12 xt12
      · exact kit_ref xm11_13 xm13_13 xi13 xt13
      · exact kit_ref xm11_14 xm14_14 xi14 xt14
      · exact kit_ref xm11_15 xm15_15 xi15 xt15
      · exact kit_ref xm11_16 xm16_16 xi16 xt16
      · exact kit_ref xm11_17 xm17_17 xi17 xt17
      · exact kit_ref xm11_18 xm18_18 xi18 xt18
      · exact kit_ref xm11_19 xm19_19 xi19 xt19
      · exact kit_ref xm11_20 xm20_20 xi20 xt20
      · exact kit_ref xm11_21 xm21_21 xi21 xt21
      · exact kit_ref xm11_22 xm22_22 xi22 xt22
      · exact kit_ref xm11_23 xm23_23 xi23 xt23
      · exact kit_ref xm11_24 xm24_24 xi24 xt24
      · exact kit_ref xm11_25 xm25_25 xi25 xt25
      · exact kit_ref xm11_26 xm26_26 xi26 xt26
      · exact kit_ref xm11_27 xm27_27 xi27 xt27
      · exact kit_ref xm11_28 xm28_28 xi28 xt28
      · exact kit_ref xm12_11 xm11_11 xi11 xt11
      · exact kit_self
      · exact kit_ref xm12_13 xm13_13 xi13 xt13
      · exact kit_ref xm12_14 xm14_14 xi14 xt14
      · exact kit_ref xm12_15 xm15_15 xi15 xt15
      · exact kit_ref xm12_16 xm16_16 xi16 xt16
      · exact kit_ref xm12_17 xm17_17 xi17 xt17
      · exact kit_ref xm12_18 xm18_18 xi18 xt18
      · exact kit_ref xm12_19 xm19_19 xi19 xt19
      · exact kit_ref xm12_20 xm20_20 xi20 xt20
      · exact kit_ref xm12_21 xm21_21 xi21 xt21
      · exact kit_ref xm12_22 xm22_22 xi22 xt22
      · exact kit_ref xm12_23 xm23_23 xi23 xt23
      · exact kit_ref xm12_24 xm24_24 xi24 xt24
      · exact kit_ref xm12_25 xm25_25 xi25 xt25
      · exact kit_ref xm12_26 xm26_26 xi26 xt26
      · exact kit_ref xm12_27 xm27_27 xi27 xt27
      · exact kit_ref xm12_28 xm28_28 xi28 xt28
      · exact kit_ref xm13_11 xm11_11 xi11 xt11
      · exact kit_ref xm13_12 xm12_12 xi12 xt12
      · exact kit_self
      · exact kit_ref xm13_14 xm14_14 xi14 xt14
      · exact kit_ref xm13_15 xm15_15 xi15 xt15
      · exact kit_ref xm13_16 xm16_16 xi16 xt16
      · exact kit_ref xm13_17 xm17_17 xi17 xt17
      · exact kit_ref xm13_18 xm18_18 xi18 xt18
      · exact kit_ref xm13_19 xm19_19 xi19 xt19
      · exact kit_ref xm13_20 xm20_20 xi20 xt20
      · exact kit_ref xm13_21 xm21_21 xi21 xt21
      · exact kit_ref xm13_22 xm22_22 xi22 xt22
      · exact kit_ref xm13_23 xm23_23 xi23 xt23
      · exact kit_ref xm13_24 xm24_24 xi24 xt24
      · exact kit_ref xm13_25 xm25_25 xi25 xt25
      · exact kit_ref xm13_26 xm26_26 xi26 xt26
      · exact kit_ref xm13_27 xm27_27 xi27 xt27
      · exact kit_ref xm13_28 xm28_28 xi28 xt28
      · exact kit_ref xm14_11 xm11_11 xi11 xt11
      · exact kit_ref xm14_12 xm12_12 xi12 xt12
      · exact kit_ref xm14_13 xm13_13 xi13 xt13
      · exact kit_self
      · exact kit_ref xm14_15 xm15_15 xi15 xt15
      · exact kit_ref xm14_16 xm16_16 xi16 xt16
      · exact kit_ref xm14_17 xm17_17 xi17 xt17
      · exact kit_ref xm14_18 xm18_18 xi18 xt18
      · exact kit_ref xm14_19 xm19_19 xi19 xt19
      · exact kit_ref xm14_20 xm20_20 xi20 xt20
      · exact kit_ref xm14_21 xm21_21 xi21 xt21
      · exact kit_ref xm14_22 xm22_22 xi22 xt22
      · exact kit_ref xm14_23 xm23_23 xi23 xt23
      · exact kit_ref xm14_24 xm24_24 xi24 xt24
      · exact kit_ref xm14_25 xm25_25 xi25 xt25
      · exact kit_ref xm14_26 xm26_26 xi26 xt26
      · exact kit_ref xm14_27 xm27_27 xi27 xt27
      · exact kit_ref xm14_28 xm28_28 xi28 xt28
      · exact kit_ref xm15_11 xm11_11 xi11 xt11
      · exact kit_ref xm15_12 xm12_12 xi12 xt12
      · exact kit_ref xm15_13 xm13_13 xi13 xt13
      · exact kit_ref xm15_14 xm14_14 xi14 xt14
      · exact kit_self
      · exact kit_ref xm15_16 xm16_16 xi16 xt16
      · exact kit_ref xm15_17 xm17_17 xi17 xt17
      · exact kit_ref xm15_18 xm18_18 xi18 xt18
      · exact kit_ref xm15_19 xm19_19 xi19 xt19
      · exact kit_ref xm15_20 xm20_20 xi20 xt20
      · exact kit_ref xm15_21 xm21_21 xi21 xt21
      · exact kit_ref xm15_22 xm22_22 xi22 xt22
      · exact kit_ref xm15_23 xm23_23 xi23 xt23
      · exact kit_ref xm15_24 xm24_24 xi24 xt24
      · exact kit_ref xm15_25 xm25_25 xi25 xt25
      · exact kit_ref xm15_26 xm26_26 xi26 xt26
      · exact kit_ref xm15_27 xm27_27 xi27 xt27
      · exact kit_ref xm15_28 xm28_28 xi28 xt28
      · exact kit_ref xm16_11 xm11_11 xi11 xt11
      · exact kit_ref xm16_12 xm12_12 xi12 xt12
      · exact kit_ref xm16_13 xm13_13 xi13 xt13
      · exact kit_ref xm16_14 xm14_14 xi14 xt14
      · exact kit_ref xm16_15 xm15_15 xi15 xt15
      · exact kit_self
      · exact kit_ref xm16_17 xm17_17 xi17 xt17
      · exact kit_ref xm16_18 xm18_18 xi18 xt18
      · exact kit_ref xm16_19 xm19_19 xi19 xt19
      · exact kit_ref xm16_20 xm20_20 xi20 xt20
      · exact kit_ref xm16_21 xm21_21 xi21 xt21
      · exact kit_ref xm16_22 xm22_22 xi22 xt22
      · exact kit_ref xm16_23 xm23_23 xi23 xt23
      · exact kit_ref xm16_24 xm24_24 xi24 xt24
      · exact kit_ref xm16_25 xm25_25 xi25 xt25
      · exact kit_ref xm16_26 xm26_26 xi26 xt26
      · exact kit_ref xm16_27 xm27_27 xi27 xt27
      · exact kit_ref xm16_28 xm28_28 xi28 xt28
      · exact kit_ref xm17_11 xm11_11 xi11 xt11
      · exact kit_ref xm17_12 xm12_12 xi12 xt12
      · exact kit_ref xm17_13 xm13_13 xi13 xt13
      · exact kit_ref xm17_14 xm14_14 xi14 xt14
      · exact kit_ref xm17_15 xm15_15 xi15 xt15
      · exact kit_ref xm17_16 xm16_16 xi16 xt16
      · exact kit_self
      · exact kit_ref xm17_18 xm18_18 xi18 xt18
      · exact kit_ref xm17_19 xm19_19 xi19 xt19
      · exact kit_ref xm17_20 xm20_20 xi20 xt20
      · exact kit_ref xm17_21 xm21_21 xi21 xt21
      · exact kit_ref xm17_22 xm22_22 xi22 xt22
      · exact kit_ref xm17_23 xm23_23 xi23 xt23
      · exact kit_ref xm17_24 xm24_24 xi24 xt24
      · exact kit_ref xm17_25 xm25_25 xi25 xt25
      · exact kit_ref xm17_26 xm26_26 xi26 xt26
      · exact kit_ref xm17_27 xm27_27 xi27 xt27
      · exact kit_ref xm17_28 xm28_28 xi28 xt28
      · exact kit_ref xm18_11 xm11_11 xi11 xt11
      · exact kit_ref xm18_12 xm12_12 xi12 xt12
      · exact kit_ref xm18_13 xm13_13 xi13 xt13
      · exact kit_ref xm18_14 xm14_14 xi14 xt14
      · exact kit_ref xm18_15 xm15_15 xi15 xt15
      · exact kit_ref xm18_16 xm16_16 xi16 xt16
      · exact kit_ref xm18_17 xm17_17 xi17 xt17
      · exact kit_self
      · exact kit_ref xm18_19 xm19_19 xi19 xt19
      · exact kit_ref xm18_20 xm20_20 xi20 xt20
      · exact kit_ref xm18_21 xm21_21 xi21 xt21
      · exact kit_ref xm18_22 xm22_22 xi22 xt22
      · exact kit_ref xm18_23 xm23_23 xi23 xt23
      · exact kit_ref xm18_24 xm24_24 xi24 xt24
      · exact kit_ref xm18_25 xm25_25 xi25 xt25
      · exact kit_ref xm18_26 xm26_26 xi26 xt26
      · exact kit_ref xm18_27 xm27_27 xi27 xt27
      · exact kit_ref xm18_28 xm28_28 xi28 xt28
      · exact kit_ref xm19_11 xm11_11 xi11 xt11
      · exact kit_ref xm19_12 xm12_12 xi12 xt12
      · exact kit_ref xm19_13 xm13_13 xi13 xt13
      · exact kit_ref xm19_14 xm14_14 xi14 xt14
      · exact kit_ref xm19_15 xm15_15 xi15 xt15
      · exact kit_ref xm19_16 xm16_16 xi16 xt16
      · exact kit_ref xm19_17 xm17_17 xi17 xt17
      · exact kit_ref xm19_18 xm18_18 xi18 xt18
      · exact kit_self
      · exact kit_ref xm19_20 xm20_20 xi20 xt20
      · exact kit_ref xm19_21 xm21_21 xi21 xt21
      · exact kit_ref xm19_22 xm22_22 xi22 xt22
      · exact kit_ref xm19_23 xm23_23 xi23 xt23
      · exact kit_ref xm19_24 xm24_24 xi24 xt24
      · exact kit_ref xm19_25 xm25_25 xi25 xt25
      · exact kit_ref xm19_26 xm26_26 xi26 xt26
      · exact kit_ref xm19_27 xm27_27 xi27 xt27
      · exact kit_ref xm19_28 xm28_28 xi28 xt28
      · exact kit_ref xm20_11 xm11_11 xi11 xt11
      · exact kit_ref xm20_12 xm12_12 xi12 xt12
      · exact kit_ref xm20_13 xm13_13 xi13 xt13
      · exact kit_ref xm20_14 xm14_14 xi14 xt14
      · exact kit_ref xm20_15 xm15_15 xi15 xt15
      · exact kit_ref xm20_16 xm16_16 xi16 xt16
      · exact kit_ref xm20_17 xm17_17 xi17 xt17
      · exact kit_ref xm20_18 xm18_18 xi18 xt18
      · exact kit_ref xm20_19 xm19_19 xi19 xt19
      · exact kit_self
      · exact kit_ref xm20_21 xm21_21 xi21 xt21
      · exact kit_ref xm20_22 xm22_22 xi22 xt22
      · exact kit_ref xm20_23 xm23_23 xi23 xt23
      · exact kit_ref xm20_24 xm24_24 xi24 xt24
      · exact kit_ref xm20_25 xm25_25 xi25 xt25
      · exact kit_ref xm20_26 xm26_26 xi26 xt26
      · exact kit_ref xm20_27 xm27_27 xi27 xt27
      · exact kit_ref xm20_28 xm28_28 xi28 xt28
      · exact kit_ref xm21_11 xm11_11 xi11 xt11
      · exact kit_ref xm21_12 xm12_12 xi12 xt12
      · exact kit_ref xm21_13 xm13_13 xi13 xt13
      · exact kit_ref xm21_14 xm14_14 xi14 xt14
      · exact kit_ref xm21_15 xm15_15 xi15 xt15
      · exact kit_ref xm21_16 xm16_16 xi16 xt16
      · exact kit_ref xm21_17 xm17_17 xi17 xt17
      · exact kit_ref xm21_18 xm18_18 xi18 xt18
      · exact kit_ref xm21_19 xm19_19 xi19 xt19
      · exact kit_ref xm21_20 xm20_20 xi20 xt20
      · exact kit_self
      · exact kit_ref xm21_22 xm22_22 xi22 xt22
      · exact kit_ref xm21_23 xm23_23 xi23 xt23
      · exact kit_ref xm21_24 xm24_24 xi24 xt24
      · exact kit_ref xm21_25 xm25_25 xi25 xt25
      · exact kit_ref xm21_26 xm26_26 xi26 xt26
      · exact kit_ref xm21_27 xm27_27 xi27 xt27
      · exact kit_ref xm21_28 xm28_28 xi28 xt28
      · exact kit_ref xm22_11 xm11_11 xi11 xt11
      · exact kit_ref xm22_12 xm12_12 xi12 xt12
      · exact kit_ref xm22_13 xm13_13 xi13 xt13
      · exact kit_ref xm22_14 xm14_14 xi14 xt14
      · exact kit_ref xm22_15 xm15_15 xi15 xt15
      · exact kit_ref xm22_16 xm16_16 xi16 xt16
      · exact kit_ref xm22_17 xm17_17 xi17 xt17
      · exact kit_ref xm22_18 xm18_18 xi18 xt18
      · exact kit_ref xm22_19 xm19_19 xi19 xt19
      · exact kit_ref xm22_20 xm20_20 xi20 xt20
      · exact kit_ref xm22_21 xm21_21 xi21 xt21
      · exact kit_self
      · exact kit_ref xm22_23 xm23_23 xi23 xt23
      · exact kit_ref xm22_24 xm24_24 xi24 xt24
      · exact kit_ref xm22_25 xm25_25 xi25 xt25
      · exact kit_ref xm22_26 xm26_26 xi26 xt26
      · exact kit_ref xm22_27 xm27_27 xi27 xt27
      · exact kit_ref xm22_28 xm28_28 xi28 xt28
      · exact kit_ref xm23_11 xm11_11 xi11 xt11
      · exact kit_ref xm23_12 xm12_12 xi12 xt12
      · exact kit_ref xm23_13 xm13_13 xi13 xt13
      · exact kit_ref xm23_14 xm14_14 xi14 xt14
      · exact kit_ref xm23_15 xm15_15 xi15 xt15
      · exact kit_ref xm23_16 xm16_16 xi16 xt16
      · exact kit_ref xm23_17 xm17_17 xi17 xt17
      · exact kit_ref xm23_18 xm18_18 xi18 xt18
      · exact kit_ref xm23_19 xm19_19 xi19 xt19
      · exact kit_ref xm23_20 xm20_20 xi20 xt20
      · exact kit_ref xm23_21 xm21_21 xi21 xt21
      · exact kit_ref xm23_22 xm22_22 xi22 xt22
      · exact kit_self
      · exact kit_ref xm23_24 xm24_24 xi24 xt24
      · exact kit_ref xm23_25 xm25_25 xi25 xt25
      · exact kit_ref xm23_26 xm26_26 xi26 xt26
      · exact kit_ref xm23_27 xm27_27 xi27 xt27
      · exact kit_ref xm23_28 xm28_28 xi28 xt28
      · exact kit_ref xm24_11 xm11_11 xi11 xt11
      · exact kit_ref xm24_12 xm12_12 xi12 xt12
      · exact kit_ref xm24_13 xm13_13 xi13 xt13
      · exact kit_ref xm24_14 xm14_14 xi14 xt14
      · exact kit_ref xm24_15 xm15_15 xi15 xt15
      · exact kit_ref xm24_16 xm16_16 xi16 xt16
      · exact kit_ref xm24_17 xm17_17 xi17 xt17
      · exact kit_ref xm24_18 xm18_18 xi18 xt18
      · exact kit_ref xm24_19 xm19_19 xi19 xt19
      · exact kit_ref xm24_20 xm20_20 xi20 xt20
      · exact kit_ref xm24_21 xm21_21 xi21 xt21
      · exact kit_ref xm24_22 xm22_22 xi22 xt22
      · exact kit_ref xm24_23 xm23_23 xi23 xt23
      · exact kit_self
      · exact kit_ref xm24_25 xm25_25 xi25 xt25
      · exact kit_ref xm24_26 xm26_26 xi26 xt26
      · exact kit_ref xm24_27 xm27_27 xi27 xt27
      · exact kit_ref xm24_28 xm28_28 xi28 xt28
      · exact kit_ref xm25_11 xm11_11 xi11 xt11
      · exact kit_ref xm25_12 xm12_12 xi12 xt12
      · exact kit_ref xm25_13 xm13_13 xi13 xt13
      · exact kit_ref xm25_14 xm14_14 xi14 xt14
      · exact kit_ref xm25_15 xm15_15 xi15 xt15
      · exact kit_ref xm25_16 xm16_16 xi16 xt16
      · exact kit_ref xm25_17 xm17_17 xi17 xt17
      · exact kit_ref xm25_18 xm18_18 xi18 xt18
      · exact kit_ref xm25_19 xm19_19 xi19 xt19
      · exact kit_ref xm25_20 xm20_20 xi20 xt20
      · exact kit_ref xm25_21 xm21_21 xi21 xt21
      · exact kit_ref xm25_22 xm22_22 xi22 xt22
      · exact kit_ref xm25_23 xm23_23 xi23 xt23
      · exact kit_ref xm25_24 xm24_24 xi24 xt24
      · exact kit_self
      · exact kit_ref xm25_26 xm26_26 xi26 xt26
      · exact kit_ref xm25_27 xm27_27 xi27 xt27
      · exact kit_ref xm25_28 xm28_28 xi28 xt28
      · exact kit_ref xm26_11 xm11_11 xi11 xt11
      · exact kit_ref xm26_12 xm12_12 xi12 xt12
      · exact kit_ref xm26_13 xm13_13 xi13 xt13
      · exact kit_ref xm26_14 xm14_14 xi14 xt14
      · exact kit_ref xm26_15 xm15_15 xi15 xt15
      · exact kit_ref xm26_16 xm16_16 xi16 xt16
      · exact kit_ref xm26_17 xm17_17 xi17 xt17
      · exact kit_ref xm26_18 xm18_18 xi18 xt18
      · exact kit_ref xm26_19 xm19_19 xi19 xt19
      · exact kit_ref xm26_20 xm20_20 xi20 xt20
      · exact kit_ref xm26_21 xm21_21 xi21 xt21
      · exact kit_ref xm26_22 xm22_22 xi22 xt22
      · exact kit_ref xm26_23 xm23_23 xi23 xt23
      · exact kit_ref xm26_24 xm24_24 xi24 xt24
      · exact kit_ref xm26_25 xm25_25 xi25 xt25
      · exact kit_self
      · exact kit_ref xm26_27 xm27_27 xi27 xt27
      · exact kit_ref xm26_28 xm28_28 xi28 xt28
      · exact kit_ref xm27_11 xm11_11 xi11 xt11
      · exact kit_ref xm27_12 xm12_12 xi12 xt12
      · exact kit_ref xm27_13 xm13_13 xi13 xt13
      · exact kit_ref xm27_14 xm14_14 xi14 xt14
      · exact kit_ref xm27_15 xm15_15 xi15 xt15
      · exact kit_ref xm27_16 xm16_16 xi16 xt16
      · exact kit_ref xm27_17 xm17_17 xi17 xt17
      · exact kit_ref xm27_18 xm18_18 xi18 xt18
      · exact kit_ref xm27_19 xm19_19 xi19 xt19
      · exact kit_ref xm27_20 xm20_20 xi20 xt20
      · exact kit_ref xm27_21 xm21_21 xi21 xt21
      · exact kit_ref xm27_22 xm22_22 xi22 xt22
      · exact kit_ref xm27_23 xm23_23 xi23 xt23
      · exact kit_ref xm27_24 xm24_24 xi24 xt24
      · exact kit_ref xm27_25 xm25_25 xi25 xt25
      · exact kit_ref xm27_26 xm26_26 xi26 xt26
      · exact kit_self
      · exact kit_ref xm27_28 xm28_28 xi28 xt28
      · exact kit_ref xm28_11 xm11_11 xi11 xt11
      · exact kit_ref xm28_12 xm12_12 xi12 xt12
      · exact kit_ref xm28_13 xm13_13 xi13 xt13
      · exact kit_ref xm28_14 xm14_14 xi14 xt14
      · exact kit_ref xm28_15 xm15_15 xi15 xt15
      · exact kit_ref xm28_16 xm16_16 xi16 xt16
      · exact kit_ref xm28_17 xm17_17 xi17 xt17
      · exact kit_ref xm28_18 xm18_18 xi18 xt18
      · exact kit_ref xm28_19 xm19_19 xi19 xt19
      · exact kit_ref xm28_20 xm20_20 xi20 xt20
      · exact kit_ref xm28_21 xm21_21 xi21 xt21
      · exact kit_ref xm28_22 xm22_22 xi22 xt22
      · exact kit_ref xm28_23 xm23_23 xi23 xt23
      · exact kit_ref xm28_24 xm24_24 xi24 xt24
      · exact kit_ref xm28_25 xm25_25 xi25 xt25
      · exact kit_ref xm28_26 xm26_26 xi26 xt26
      · exact kit_ref xm28_27 xm27_27 xi27 xt27
      · exact kit_self
    · simp only [excL, List.mem_cons, List.not_mem_nil, or_false] at hc
      rcases hc with rfl | rfl | rfl | rfl | rfl | rfl | rfl | rfl | rfl | rfl | rfl | rfl | rfl | rfl | rfl | rfl | rfl | rfl
      · exact kit_objT xv11
      · exact kit_objT xv12
      · exact kit_objT xv13
      · exact kit_objT xv14
      · exact kit_objT xv15
      · exact kit_objT xv16
      · exact kit_objT xv17
      · exact kit_objT xv18
      · exact kit_objT xv19
      · exact kit_objT xv20
      · exact kit_objT xv21
      · exact kit_objT xv22
      · exact kit_objT xv23
      · exact kit_objT xv24
      · exact kit_objT xv25
      · exact kit_objT xv26
      · exact kit_objT xv27
      · exact kit_objT xv28
    · simp only [excL, List.mem_cons, List.not_mem_nil, or_false] at hc
      rcases hc with rfl | rfl | rfl | rfl | rfl | rfl | rfl | rfl | rfl | rfl | rfl | rfl | rfl | rfl | rfl | rfl | rfl | rfl
      · exact kit_ref xm11_10 xm10_10 xi10 xt10
      · exact kit_ref xm12_10 xm10_10 xi10 xt10
      · exact kit_ref xm13_10 xm10_10 xi10 xt10
      · exact kit_ref xm14_10 xm10_10 xi10 xt10
      · exact kit_ref xm15_10 xm10_10 xi10 xt10
      · exact kit_ref xm16_10 xm10_10 xi10 xt10
      · exact kit_ref xm17_10 xm10_10 xi10 xt10
      · exact kit_ref xm18_10 xm10_10 xi10 xt10
      · exact kit_ref xm19_10 xm10_10 xi10 xt10
      · exact kit_ref xm20_10 xm10_10 xi10 xt10
      · exact kit_ref xm21_10 xm10_10 xi10 xt10
      · exact kit_ref xm22_10 xm10_10 xi10 xt10
      · exact kit_ref xm23_10 xm10_10 xi10 xt10
      · exact kit_ref xm24_10 xm10_10 xi10 xt10
      · exact kit_ref xm25_10 xm10_10 xi10 xt10
      · exact kit_ref xm26_10 xm10_10 xi10 xt10
      · exact kit_ref xm27_10 xm10_10 xi10 xt10
      · exact kit_ref xm28_10 xm10_10 xi10 xt10
  have XF27 : PySem.W.findIn g.K (.ref (g.cl 27)) "limit" = some none := xf27
  have XF28 : PySem.W.findIn g.K (.ref (g.cl 28)) "kind" = some none := xf28
  have fxe : FxE g RX := by
    refine ⟨by decide, fun c hc => ?_, fun c hc d hd => ?_, fun c hc => ?_, fun c hc => ?_, fun c hc => ?_, PySem.W.mg_none_of X G zVE⟩
    · simp only [RX, List.mem_cons, List.not_mem_nil, or_false] at hc
      rcases hc with rfl
      · exact ⟨xg11, xh11, xb11, xd11, xc11, hn, htk, xo11⟩
    · simp only [RX, List.mem_cons, List.not_mem_nil, or_false] at hc
      simp only [excL, List.mem_cons, List.not_mem_nil, or_false] at hd
      rcases hc with rfl <;> rcases hd with rfl | rfl | rfl | rfl | rfl | rfl | rfl | rfl | rfl | rfl | rfl | rfl | rfl | rfl | rfl | rfl | rfl | rfl
      · exact kit_self
      · exact kit_ref xm11_12 xm12_12 xi12 xt12
      · exact kit_ref xm11_13 xm13_13 xi13 xt13
      · exact kit_ref xm11_14 xm14_14 xi14 xt14
      · exact kit_ref xm11_15 xm15_15 xi15 xt15
      · exact kit_ref xm11_16 xm16_16 xi16 xt16
      · exact kit_ref xm11_17 xm17_17 xi17 xt17
      · exact kit_ref xm11_18 xm18_18 xi18 xt18
      · exact kit_ref xm11_19 xm19_19 xi19 xt19
      · exact kit_ref xm11_20 xm20_20 xi20 xt20
      · exact kit_ref xm11_21 xm21_21 xi21 xt21
      · exact kit_ref xm11_22 xm22_22 xi22 xt22
      · exact kit_ref xm11_23 xm23_23 xi23 xt23
      · exact kit_ref xm11_24 xm24_24 xi24 xt24
      · exact kit_ref xm11_25 xm25_25 xi25 xt25
      · exact kit_ref xm11_26 xm26_26 xi26 xt26
      · exact kit_ref xm11_27 xm27_27 xi27 xt27
      · exact kit_ref xm11_28 xm28_28 xi28 xt28
    · simp only [RX, List.mem_cons, List.not_mem_nil, or_false] at hc
      rcases hc with rfl
      · exact kit_objT xv11
    · simp only [RX, List.mem_cons, List.not_mem_nil, or_false] at hc
      rcases hc with rfl
      · exact PySem.W.exm_ref xs10 xd10 xt10 xm11_10
    · simp only [RX, List.mem_cons, List.not_mem_nil, or_false] at hc
      rcases hc with rfl
      · exact xf11
  have biW__law_word := F__law_word.binds (ps := ["_law_e"]) fun _ _ _ _ _ _ us hl => match us, hl with | [_], _ => rfl
  have bi__law_said := F__law_said.binds (ps := ["_law_call"]) fun _ _ _ _ _ _ us hl => match us, hl with | [_], _ => rfl
  have SW__law_word : FnScope (["_law_e", "_law_marks", "_law_names"] : List Str) ["_law_e"] (defScope t__law_word) := ⟨rfl, rfl, rfl, by decide +kernel, rfl, by decide +kernel, by decide +kernel⟩
  have d_word : WordD g RX 1 := ⟨_, _, _, word_ok (g := g) (k := 0) F__law_word SW__law_word rfl fx fxe (bW__law_word (g := g) XM11 XM12 XM13 XM14 XM15 XM16 XM17 XM18 XM19 XM20 XM21 XM22 XM23 XM24 XM25 XM26 XM27 XM28), PySem.W.mg_of X G a_law_word, k_law_word, biW__law_word⟩
  have d_said : SaidD g := ⟨_, _, _, F__law_said, PySem.W.mg_of X G a_law_said, k_law_said, bi__law_said, said_s, PySem.W.mg_of X G xa10⟩
  have memlaw : (Plaw, (("law" : Str) ++ ".<locals>.") ++ "<lambda>") ∈ g.tabs := .head _
  have unilaw : ∀ p ∈ g.tabs, p.1 = Plaw → p.2 = (("law" : Str) ++ ".<locals>.") ++ "<lambda>" := fun p hp e => by
    simp only [g, List.mem_cons, List.not_mem_nil, or_false] at hp
    rcases hp with rfl
    · rfl
  have tblaw : LamX.TabB g.base g.mg k0law Plaw := TB (k0law, Plaw) (.head _)
  have C_Code : ClsN g 0 "Code" := ⟨rfl, PySem.W.mg_of X G aC0⟩
  have G_FEWEST_VALUES : GlobC g "FEWEST_VALUES" (.int (2)) := ⟨.int (2), _, PySem.W.mg_of X G vG_FEWEST_VALUES, ⟨_, rfl⟩, fun w => by simp only [Rep]⟩
  have G_MOST_VALUES : GlobC g "MOST_VALUES" (.int (16)) := ⟨.int (16), _, PySem.W.mg_of X G vG_MOST_VALUES, ⟨_, rfl⟩, fun w => by simp only [Rep]⟩
  have G_MOST_BITS : GlobC g "MOST_BITS" (.int (5)) := ⟨.int (5), _, PySem.W.mg_of X G vG_MOST_BITS, ⟨_, rfl⟩, fun w => by simp only [Rep]⟩
  have S__law_pen : FnScope n__law_pen ["_law_cell"] (defScope t__law_pen) := ⟨rfl, rfl, rfl, by decide +kernel, rfl, by decide +kernel, by decide +kernel⟩
  have bi__law_pen := F__law_pen.binds (ps := ["_law_cell"]) fun _ _ _ _ _ _ us hl => match us, hl with | [_], _ => rfl
  have h__law_pen := def_ok (g := g) (n := 1) F__law_pen S__law_pen rfl (by decide) fx (b__law_pen (g := g) )
  have d__law_pen : Def g 1 "_law_pen" [] f__law_pen := ⟨_, _, _, [], [], h__law_pen, PySem.W.mg_of X G a_law_pen, k_law_pen, bi__law_pen, .nil, fun w => by simp only [Reps]⟩
  have S__law_draw : FnScope n__law_draw ["_law_pen_here", "_law_many"] (defScope t__law_draw) := ⟨rfl, rfl, rfl, by decide +kernel, rfl, by decide +kernel, by decide +kernel⟩
  have bi__law_draw := F__law_draw.binds (ps := ["_law_pen_here", "_law_many"]) fun _ _ _ _ _ _ us hl => match us, hl with | [_, _], _ => rfl
  have h__law_draw := def_ok (g := g) (n := 2) F__law_draw S__law_draw rfl (by decide) fx (b__law_draw (g := g) )
  have d__law_draw : Def g 1 "_law_draw" [] f__law_draw := ⟨_, _, _, [], [], h__law_draw, PySem.W.mg_of X G a_law_draw, k_law_draw, bi__law_draw, .nil, fun w => by simp only [Reps]⟩
  have S__law_pick : FnScope n__law_pick ["_law_pen_here", "_law_some"] (defScope t__law_pick) := ⟨rfl, rfl, rfl, by decide +kernel, rfl, by decide +kernel, by decide +kernel⟩
  have bi__law_pick := F__law_pick.binds (ps := ["_law_pen_here", "_law_some"]) fun _ _ _ _ _ _ us hl => match us, hl with | [_, _], _ => rfl
  have h__law_pick := def_ok (g := g) (n := 2) F__law_pick S__law_pick rfl (by decide) fx (b__law_pick (g := g)  d__law_draw)
  have d__law_pick : Def g 2 "_law_pick" [] f__law_pick := ⟨_, _, _, [], [], h__law_pick, PySem.W.mg_of X G a_law_pick, k_law_pick, bi__law_pick, .nil, fun w => by simp only [Reps]⟩
  have S__law_cell_at : FnScope n__law_cell_at ["_law_script", "_law_k"] (defScope t__law_cell_at) := ⟨rfl, rfl, rfl, by decide +kernel, rfl, by decide +kernel, by decide +kernel⟩
  have bi__law_cell_at := F__law_cell_at.binds (ps := ["_law_script", "_law_k"]) fun _ _ _ _ _ _ us hl => match us, hl with | [_, _], _ => rfl
  have h__law_cell_at := def_ok (g := g) (n := 2) F__law_cell_at S__law_cell_at rfl (by decide) fx (b__law_cell_at (g := g) )
  have d__law_cell_at : Def g 1 "_law_cell_at" [] f__law_cell_at := ⟨_, _, _, [], [], h__law_cell_at, PySem.W.mg_of X G a_law_cell_at, k_law_cell_at, bi__law_cell_at, .nil, fun w => by simp only [Reps]⟩
  have S__law_word : FnScope n__law_word ["_law_e"] (defScope t__law_word) := ⟨rfl, rfl, rfl, by decide +kernel, rfl, by decide +kernel, by decide +kernel⟩
  have bi__law_word := F__law_word.binds (ps := ["_law_e"]) fun _ _ _ _ _ _ us hl => match us, hl with | [_], _ => rfl
  have h__law_word := def_okG (g := g) (n := 1) F__law_word S__law_word rfl (by decide) fx (b__law_word (g := g) fxn XM11 XM12 XM13 XM14 XM15 XM16 XM17 XM18 XM19 XM20 XM21 XM22 XM23 XM24 XM25 XM26 XM27 XM28 XF27 XF28)
  have d__law_word : DefG g 1 "_law_word" [] f__law_word := ⟨_, _, _, [], [], h__law_word, PySem.W.mg_of X G a_law_word, k_law_word, bi__law_word, .nil, fun w => by simp only [Reps]⟩
  have S_is_between : FnScope n_is_between ["thing", "low", "high"] (defScope t_is_between) := ⟨rfl, rfl, rfl, by decide +kernel, rfl, by decide +kernel, by decide +kernel⟩
  have bi_is_between := F_is_between.binds (ps := ["thing", "low", "high"]) fun _ _ _ _ _ _ us hl => match us, hl with | [_, _, _], _ => rfl
  have h_is_between := def_ok (g := g) (n := 3) F_is_between S_is_between rfl (by decide) fx (b_is_between (g := g) )
  have d_is_between : Def g 1 "is_between" [] f_is_between := ⟨_, _, _, [], [], h_is_between, PySem.W.mg_of X G ais_between, kis_between, bi_is_between, .nil, fun w => by simp only [Reps]⟩
  have S_are_bits : FnScope n_are_bits ["thing"] (defScope t_are_bits) := ⟨rfl, rfl, rfl, by decide +kernel, rfl, by decide +kernel, by decide +kernel⟩
  have bi_are_bits := F_are_bits.binds (ps := ["thing"]) fun _ _ _ _ _ _ us hl => match us, hl with | [_], _ => rfl
  have h_are_bits := def_ok (g := g) (n := 1) F_are_bits S_are_bits rfl (by decide) fx (b_are_bits (g := g)  d_is_between)
  have d_are_bits : Def g 2 "are_bits" [] f_are_bits := ⟨_, _, _, [], [], h_are_bits, PySem.W.mg_of X G aare_bits, kare_bits, bi_are_bits, .nil, fun w => by simp only [Reps]⟩
  have S_are_words : FnScope n_are_words ["thing"] (defScope t_are_words) := ⟨rfl, rfl, rfl, by decide +kernel, rfl, by decide +kernel, by decide +kernel⟩
  have bi_are_words := F_are_words.binds (ps := ["thing"]) fun _ _ _ _ _ _ us hl => match us, hl with | [_], _ => rfl
  have h_are_words := def_ok (g := g) (n := 1) F_are_words S_are_words rfl (by decide) fx (b_are_words (g := g) G_FEWEST_VALUES G_MOST_VALUES G_MOST_BITS d_are_bits)
  have d_are_words : Def g 3 "are_words" [] f_are_words := ⟨_, _, _, [], [], h_are_words, PySem.W.mg_of X G aare_words, kare_words, bi_are_words, .nil, fun w => by simp only [Reps]⟩
  have S_CodeX_initX : FnScope n_CodeX_initX ["self", "words"] (defScope t_CodeX_initX) := ⟨rfl, rfl, rfl, by decide +kernel, rfl, by decide +kernel, by decide +kernel⟩
  have d_CodeX_initX : Ini g 4 0 f_CodeX_initX := ⟨f_CodeX_initX_, ⟨mkC0, aCodeX_initX, iCodeX_initX, kcC0⟩, init_star (g := g) (c := 0) F_CodeX_initX S_CodeX_initX (by decide) rfl (fun _ _ _ _ _ _ us rest hl => match us, rest, hl with | [_], [], _ => rfl | [_], _ :: _, _ => rfl) fx (b_CodeX_initX (g := g) XK_NoWords d_are_words), rfl⟩
  have S_law : FnScope n_law ["_law_script"] (defScope t_law) := ⟨rfl, rfl, rfl, by decide +kernel, rfl, by decide +kernel, by decide +kernel⟩
  have bi_law := F_law.binds (ps := ["_law_script"]) fun _ _ _ _ _ _ us hl => match us, hl with | [_], _ => rfl
  have h_law := def_okL (g := g) (n := 1) F_law S_law rfl (by decide) fx elaw tblaw memlaw unilaw (b_law (g := g) XK_NoWords XK_NoCode XK_NoValue XK_NoWord XK_NoOrder XK_NoPlaces XK_NoText XK_NoSpan XK_NoNumber XK_NoBridge XK_NoState XK_NoBeat XK_NoLap XK_NoLook XK_NothingDone XK_TooMuch fxn XM10 XI_TooMany XJ_TooMany XI_Broken XJ_Broken C_Code d__law_pen d__law_cell_at d__law_pick d__law_draw d__law_word d_CodeX_initX d_said d_word fxe)
  exact h_law
set_option maxHeartbeats 0 in
theorem facts_use {w : World} {K : PySem.W.Frag} {h : Heap} {mg : Str → Option Value} {fa : Addr} (KX : K.In h) (c : Hq.SaysE fnL tpL exL h K) (G : h.Ns mainGlobals mg) (hfa : mg "law" = some (.ref fa)) : ∃ (fd : FuncData) (cs : List (Addr × Addr)), (∀ p ∈ cs, h.get? p.2 = some { cls := .none, data := .fields #[] }) ∧ (∀ p ∈ cs, K.lookup p.2 = Option.none) ∧ (∀ p ∈ cs, PySem.W.CodeHd h p.1 p.2) ∧ (∀ (s : Shared) (v : Value), BindsTo s fd ⟨[v], []⟩ [("_law_script", v)]) ∧ ∀ base : Heap, K.In base → base.Ns mainGlobals mg → (∀ p ∈ cs, LamX.TabB base mg p.1 p.2) → ∃ g : Gs, g.K = K ∧ (∀ p ∈ g.tabs, p.1 ∈ cs.map (·.2)) ∧ FnG PySem.Challenge.rw_halfread_k16_exceptions_made.prog w K mg base (L2N.CX PySem.Challenge.rw_halfread_k16_exceptions_made.prog w) 8 fa fd ["_law_script"] (spF g f_law) := by
  have e := c.ex
  simp only [exL, Bool.and_eq_true, decide_eq_true_eq] at e
  obtain ⟨⟨⟨⟨⟨⟨⟨⟨⟨⟨⟨⟨⟨⟨⟨⟨⟨⟨⟨⟨⟨⟨⟨⟨⟨⟨⟨⟨⟨e0, e1⟩, e2⟩, e3⟩, e4⟩, e5⟩, e6⟩, e7⟩, e8⟩, e9⟩, e10⟩, e11⟩, e12⟩, e13⟩, e14⟩, e15⟩, e16⟩, e17⟩, e18⟩, e19⟩, e20⟩, e21⟩, e22⟩, e23⟩, e24⟩, e25⟩, e26⟩, e27⟩, e28⟩, e29⟩ := e
  obtain ⟨_, _, _, _, _, _, _, _, _, _, _, _, _, _, _, yC27, yb27⟩ := Hq.excB_ok e29.2.1
  obtain ⟨_, _, _, _, _, _, _, _, _, _, _, _, _, _, _, yC28, yb28⟩ := Hq.excB_ok e29.2.2.2.2.2.2.1
  refine' all_mk (l := PySem.Challenge.rw_halfread_k16_exceptions_made) KX G hfa ?aC0 ?pgC0 ?hdC0 ?poC0 ?saC0 ?mkC0 ?kcC0 ?n0C0 ?n1C0 ?dcC0 ?moC0 ?bintC0 ?bboolC0 ?btupleC0 ?bstrC0 ?blistC0 ?icC0 ?tyC0 ?hn ?htk ?xa10 ?xi10 ?xt10 ?xm10_10 ?xa11 ?xi11 ?xt11 ?xm11_11 ?xa12 ?xi12 ?xt12 ?xm12_12 ?xa13 ?xi13 ?xt13 ?xm13_13 ?xa14 ?xi14 ?xt14 ?xm14_14 ?xa15 ?xi15 ?xt15 ?xm15_15 ?xa16 ?xi16 ?xt16 ?xm16_16 ?xa17 ?xi17 ?xt17 ?xm17_17 ?xa18 ?xi18 ?xt18 ?xm18_18 ?xa19 ?xi19 ?xt19 ?xm19_19 ?xa20 ?xi20 ?xt20 ?xm20_20 ?xa21 ?xi21 ?xt21 ?xm21_21 ?xa22 ?xi22 ?xt22 ?xm22_22 ?xa23 ?xi23 ?xt23 ?xm23_23 ?xa24 ?xi24 ?xt24 ?xm24_24 ?xa25 ?xi25 ?xt25 ?xm25_25 ?xa26 ?xi26 ?xt26 ?xm26_26 ?xa27 ?xi27 ?xt27 ?xm27_27 ?xa28 ?xi28 ?xt28 ?xm28_28 ?xs10 ?xd10 ?zVE ?xk11 ?xf11 ?xe11 ?xb11 ?xg11 ?xh11 ?xd11 ?xc11 ?xo11 ?xv11 ?xm11_10 ?xm11_12 ?xm11_13 ?xm11_14 ?xm11_15 ?xm11_16 ?xm11_17 ?xm11_18 ?xm11_19 ?xm11_20 ?xm11_21 ?xm11_22 ?xm11_23 ?xm11_24 ?xm11_25 ?xm11_26 ?xm11_27 ?xm11_28 ?xk12 ?xf12 ?xe12 ?xb12 ?xg12 ?xh12 ?xd12 ?xc12 ?xo12 ?xv12 ?xm12_10 ?xm12_11 ?xm12_13 ?xm12_14 ?xm12_15 ?xm12_16 ?xm12_17 ?xm12_18 ?xm12_19 ?xm12_20 ?xm12_21 ?xm12_22 ?xm12_23 ?xm12_24 ?xm12_25 ?xm12_26 ?xm12_27 ?xm12_28 ?xk13 ?xf13 ?xe13 ?xb13 ?xg13 ?xh13 ?xd13 ?xc13 ?xo13 ?xv13 ?xm13_10 ?xm13_11 ?xm13_12 ?xm13_14 ?xm13_15 ?xm13_16 ?xm13_17 ?xm13_18 ?xm13_19 ?xm13_20 ?xm13_21 ?xm13_22 ?xm13_23 ?xm13_24 ?xm13_25 ?xm13_26 ?xm13_27 ?xm13_28 ?xk14 ?xf14 ?xe14 ?xb14 ?xg14 ?xh14 ?xd14 ?xc14 ?xo14 ?xv14 ?xm14_10 ?xm14_11 ?xm14_12 ?xm14_13 ?xm14_15 ?xm14_16 ?xm14_17 ?xm14_18 ?xm14_19 ?xm14_20 ?xm14_21 ?xm14_22 ?xm14_23 ?xm14_24 ?xm14_25 ?xm14_26 ?xm14_27 ?xm14_28 ?xk15 ?xf15 ?xe15 ?xb15 ?xg15 ?xh15 ?xd15 ?xc15 ?xo15 ?xv15 ?xm15_10 ?xm15_11 ?xm15_12 ?xm15_13 ?xm15_14 ?xm15_16 ?xm15_17 ?xm15_18 ?xm15_19 ?xm15_20 ?xm15_21 ?xm15_22 ?xm15_23 ?xm15_24 ?xm15_25 ?xm15_26 ?xm15_27 ?xm15_28 ?xk16 ?xf16 ?xe16 ?xb16 ?xg16 ?xh16 ?xd16 ?xc16 ?xo16 ?xv16 ?xm16_10 ?xm16_11 ?xm16_12 ?xm16_13 ?xm16_14 ?xm16_15 ?xm16_17 ?xm16_18 ?xm16_19 ?xm16_20 ?xm16_21 ?xm16_22 ?xm16_23 ?xm16_24 ?xm16_25 ?xm16_26 ?xm16_27 ?xm16_28 ?xk17 ?xf17 ?xe17 ?xb17 ?xg17 ?xh17 ?xd17 ?xc17 ?xo17 ?xv17 ?xm17_10 ?xm17_11 ?xm17_12 ?xm17_13 ?xm17_14 ?xm17_15 ?xm17_16 ?xm17_18 ?xm17_19 ?xm17_20 ?xm17_21 ?xm17_22 ?xm17_23 ?xm17_24 ?xm17_25 ?xm17_26 ?xm17_27 ?xm17_28 ?xk18 ?xf18 ?xe18 ?xb18 ?xg18 ?xh18 ?xd18 ?xc18 ?xo18 ?xv18 ?xm18_10 ?xm18_11 ?xm18_12 ?xm18_13 ?xm18_14 ?xm18_15 ?xm18_16 ?xm18_17 ?xm18_19 ?xm18_20 ?xm18_21 ?xm18_22 ?xm18_23 ?xm18_24 ?xm18_25 ?xm18_26 ?xm18_27 ?xm18_28 ?xk19 ?xf19 ?xe19 ?xb19 ?xg19 ?xh19 ?xd19 ?xc19 ?xo19 ?xv19 ?xm19_10 ?xm19_11 ?xm19_12 ?xm19_13 ?xm19_14 ?xm19_15 ?xm19_16 ?xm19_17 ?xm19_18 ?xm19_20 ?xm19_21 ?xm19_22 ?xm19_23 ?xm19_24 ?xm19_25 ?xm19_26 ?xm19_27 ?xm19_28 ?xk20 ?xf20 ?xe20 ?xb20 ?xg20 ?xh20 ?xd20 ?xc20 ?xo20 ?xv20 ?xm20_10 ?xm20_11 ?xm20_12 ?xm20_13 ?xm20_14 ?xm20_15 ?xm20_16 ?xm20_17 ?xm20_18 ?xm20_19 ?xm20_21 ?xm20_22 ?xm20_23 ?xm20_24 ?xm20_25 ?xm20_26 ?xm20_27 ?xm20_28 ?xk21 ?xf21 ?xe21 ?xb21 ?xg21 ?xh21 ?xd21 ?xc21 ?xo21 ?xv21 ?xm21_10 ?xm21_11 ?xm21_12 ?xm21_13 ?xm21_14 ?xm21_15 ?xm21_16 ?xm21_17 ?xm21_18 ?xm21_19 ?xm21_20 ?xm21_22 ?xm21_23 ?xm21_24 ?xm21_25 ?xm21_26 ?xm21_27 ?xm21_28 ?xk22 ?xf22 ?xe22 ?xb22 ?xg22 ?xh22 ?xd22 ?xc22 ?xo22 ?xv22 ?xm22_10 ?xm22_11 ?xm22_12 ?xm22_13 ?xm22_14 ?xm22_15 ?xm22_16 ?xm22_17 ?xm22_18 ?xm22_19 ?xm22_20 ?xm22_21 ?xm22_23 ?xm22_24 ?xm22_25 ?xm22_26 ?xm22_27 ?xm22_28 ?xk23 ?xf23 ?xe23 ?xb23 ?xg23 ?xh23 ?xd23 ?xc23 ?xo23 ?xv23 ?xm23_10 ?xm23_11 ?xm23_12 ?xm23_13 ?xm23_14 ?xm23_15 ?xm23_16 ?xm23_17 ?xm23_18 ?xm23_19 ?xm23_20 ?xm23_21 ?xm23_22 ?xm23_24 ?xm23_25 ?xm23_26 ?xm23_27 ?xm23_28 ?xk24 ?xf24 ?xe24 ?xb24 ?xg24 ?xh24 ?xd24 ?xc24 ?xo24 ?xv24 ?xm24_10 ?xm24_11 ?xm24_12 ?xm24_13 ?xm24_14 ?xm24_15 ?xm24_16 ?xm24_17 ?xm24_18 ?xm24_19 ?xm24_20 ?xm24_21 ?xm24_22 ?xm24_23 ?xm24_25 ?xm24_26 ?xm24_27 ?xm24_28 ?xk25 ?xf25 ?xe25 ?xb25 ?xg25 ?xh25 ?xd25 ?xc25 ?xo25 ?xv25 ?xm25_10 ?xm25_11 ?xm25_12 ?xm25_13 ?xm25_14 ?xm25_15 ?xm25_16 ?xm25_17 ?xm25_18 ?xm25_19 ?xm25_20 ?xm25_21 ?xm25_22 ?xm25_23 ?xm25_24 ?xm25_26 ?xm25_27 ?xm25_28 ?xk26 ?xf26 ?xe26 ?xb26 ?xg26 ?xh26 ?xd26 ?xc26 ?xo26 ?xv26 ?xm26_10 ?xm26_11 ?xm26_12 ?xm26_13 ?xm26_14 ?xm26_15 ?xm26_16 ?xm26_17 ?xm26_18 ?xm26_19 ?xm26_20 ?xm26_21 ?xm26_22 ?xm26_23 ?xm26_24 ?xm26_25 ?xm26_27 ?xm26_28 ?xk27 ?xf27 ?yC27 ?yb27 ?ysa27 ?yi27 ?yt27 ?yl27 ?yc27 ?yd27 ?ye27 ?yv27 ?yfi27 ?yto ?yop ?ysu27 ?ysv27 ?zsuper ?xb27 ?xg27 ?xh27 ?xd27 ?xc27 ?xo27 ?xv27 ?xm27_10 ?xm27_11 ?xm27_12 ?xm27_13 ?xm27_14 ?xm27_15 ?xm27_16 ?xm27_17 ?xm27_18 ?xm27_19 ?xm27_20 ?xm27_21 ?xm27_22 ?xm27_23 ?xm27_24 ?xm27_25 ?xm27_26 ?xm27_28 ?xk28 ?xf28 ?yC28 ?yb28 ?ysa28 ?yi28 ?yt28 ?yl28 ?yc28 ?yd28 ?ye28 ?yv28 ?yfi28 ?ysu28 ?ysv28 ?xb28 ?xg28 ?xh28 ?xd28 ?xc28 ?xo28 ?xv28 ?xm28_10 ?xm28_11 ?xm28_12 ?xm28_13 ?xm28_14 ?xm28_15 ?xm28_16 ?xm28_17 ?xm28_18 ?xm28_19 ?xm28_20 ?xm28_21 ?xm28_22 ?xm28_23 ?xm28_24 ?xm28_25 ?xm28_26 ?xm28_27 ?zlen ?zrange ?zisinstance ?ztuple ?zlist ?zall ?zany ?zmax ?zmin ?zset ?zsorted ?zenumerate ?zzip ?zrepr ?zstr ?zint ?zsum ?zdict ?zbool ?vG_FEWEST_VALUES ?vG_MOST_VALUES ?vG_MOST_BITS ?a_law_pen ?l_law_pen ?c_law_pen ?k_law_pen ?a_law_draw ?l_law_draw ?c_law_draw ?k_law_draw ?a_law_pick ?l_law_pick ?c_law_pick ?k_law_pick ?a_law_cell_at ?l_law_cell_at ?c_law_cell_at ?k_law_cell_at ?a_law_word ?l_law_word ?c_law_word ?k_law_word ?ais_between ?lis_between ?cis_between ?kis_between ?aare_bits ?lare_bits ?care_bits ?kare_bits ?aare_words ?lare_words ?care_words ?kare_words ?aCodeX_initX ?iCodeX_initX ?lCodeX_initX ?cCodeX_initX ?kCodeX_initX ?alaw ?llaw ?claw ?klaw ?a_law_said ?l_law_said ?c_law_said ?k_law_said ?elaw ?ylaw ?yplaw ?yqlaw ?yrlaw ?yslaw ?yulaw ?ywlaw ?ynlaw ?yklaw ?owlaw
  (case aC0 => exact e0.1)
  (case pgC0 => exact e0.2.1)
  (case hdC0 => exact e0.2.2.1)
  (case poC0 => exact e0.2.2.2.1)
  (case saC0 => exact e0.2.2.2.2.1)
  (case mkC0 => exact e0.2.2.2.2.2.1)
  (case kcC0 => exact e0.2.2.2.2.2.2.1)
  (case n0C0 => exact e0.2.2.2.2.2.2.2.1)
  (case n1C0 => exact e0.2.2.2.2.2.2.2.2.1)
  (case dcC0 => exact e0.2.2.2.2.2.2.2.2.2.1)
  (case moC0 => exact e0.2.2.2.2.2.2.2.2.2.2.1)
  (case bintC0 => exact e0.2.2.2.2.2.2.2.2.2.2.2.1)
  (case bboolC0 => exact e0.2.2.2.2.2.2.2.2.2.2.2.2.1)
  (case btupleC0 => exact e0.2.2.2.2.2.2.2.2.2.2.2.2.2.1)
  (case bstrC0 => exact e0.2.2.2.2.2.2.2.2.2.2.2.2.2.2.1)
  (case blistC0 => exact e0.2.2.2.2.2.2.2.2.2.2.2.2.2.2.2.1)
  (case icC0 => exact e0.2.2.2.2.2.2.2.2.2.2.2.2.2.2.2.2.1)
  (case tyC0 => exact e0.2.2.2.2.2.2.2.2.2.2.2.2.2.2.2.2.2.1)
  (case hn => exact e0.2.2.2.2.2.2.2.2.2.2.2.2.2.2.2.2.2.2.1)
  (case htk => exact e0.2.2.2.2.2.2.2.2.2.2.2.2.2.2.2.2.2.2.2.1)
  (case xa10 => exact e0.2.2.2.2.2.2.2.2.2.2.2.2.2.2.2.2.2.2.2.2.1)
  (case xi10 => exact e0.2.2.2.2.2.2.2.2.2.2.2.2.2.2.2.2.2.2.2.2.2.1)
  (case xt10 => exact e0.2.2.2.2.2.2.2.2.2.2.2.2.2.2.2.2.2.2.2.2.2.2.1)
  (case xm10_10 => exact e0.2.2.2.2.2.2.2.2.2.2.2.2.2.2.2.2.2.2.2.2.2.2.2)
  (case xa11 => exact e1.1)
  (case xi11 => exact e1.2.1)
  (case xt11 => exact e1.2.2.1)
  (case xm11_11 => exact e1.2.2.2.1)
  (case xa12 => exact e1.2.2.2.2.1)
  (case xi12 => exact e1.2.2.2.2.2.1)
  (case xt12 => exact e1.2.2.2.2.2.2.1)
  (case xm12_12 => exact e1.2.2.2.2.2.2.2.1)
  (case xa13 => exact e1.2.2.2.2.2.2.2.2.1)
  (case xi13 => exact e1.2.2.2.2.2.2.2.2.2.1)
  (case xt13 => exact e1.2.2.2.2.2.2.2.2.2.2.1)
  (case xm13_13 => exact e1.2.2.2.2.2.2.2.2.2.2.2.1)
  (case xa14 => exact e1.2.2.2.2.2.2.2.2.2.2.2.2.1)
  (case xi14 => exact e1.2.2.2.2.2.2.2.2.2.2.2.2.2.1)
  (case xt14 => exact e1.2.2.2.2.2.2.2.2.2.2.2.2.2.2.1)
  (case xm14_14 => exact e1.2.2.2.2.2.2.2.2.2.2.2.2.2.2.2.1)
  (case xa15 => exact e1.2.2.2.2.2.2.2.2.2.2.2.2.2.2.2.2.1)
  (case xi15 => exact e1.2.2.2.2.2.2.2.2.2.2.2.2.2.2.2.2.2.1)
  (case xt15 => exact e1.2.2.2.2.2.2.2.2.2.2.2.2.2.2.2.2.2.2.1)
  (case xm15_15 => exact e1.2.2.2.2.2.2.2.2.2.2.2.2.2.2.2.2.2.2.2.1)
  (case xa16 => exact e1.2.2.2.2.2.2.2.2.2.2.2.2.2.2.2.2.2.2.2.2.1)
  (case xi16 => exact e1.2.2.2.2.2.2.2.2.2.2.2.2.2.2.2.2.2.2.2.2.2.1)
  (case xt16 => exact e1.2.2.2.2.2.2.2.2.2.2.2.2.2.2.2.2.2.2.2.2.2.2.1)
  (case xm16_16 => exact e1.2.2.2.2.2.2.2.2.2.2.2.2.2.2.2.2.2.2.2.2.2.2.2)
  (case xa17 => exact e2.1)
  (case xi17 => exact e2.2.1)
  (case xt17 => exact e2.2.2.1)
  (case xm17_17 => exact e2.2.2.2.1)
  (case xa18 => exact e2.2.2.2.2.1)
  (case xi18 => exact e2.2.2.2.2.2.1)
  (case xt18 => exact e2.2.2.2.2.2.2.1)
  (case xm18_18 => exact e2.2.2.2.2.2.2.2.1)
  (case xa19 => exact e2.2.2.2.2.2.2.2.2.1)
  (case xi19 => exact e2.2.2.2.2.2.2.2.2.2.1)
  (case xt19 => exact e2.2.2.2.2.2.2.2.2.2.2.1)
  (case xm19_19 => exact e2.2.2.2.2.2.2.2.2.2.2.2.1)
  (case xa20 => exact e2.2.2.2.2.2.2.2.2.2.2.2.2.1)
  (case xi20 => exact e2.2.2.2.2.2.2.2.2.2.2.2.2.2.1)
  (case xt20 => exact e2.2.2.2.2.2.2.2.2.2.2.2.2.2.2.1)
  (case xm20_20 => exact e2.2.2.2.2.2.2.2.2.2.2.2.2.2.2.2.1)
  (case xa21 => exact e2.2.2.2.2.2.2.2.2.2.2.2.2.2.2.2.2.1)
  (case xi21 => exact e2.2.2.2.2.2.2.2.2.2.2.2.2.2.2.2.2.2.1)
  (case xt21 => exact e2.2.2.2.2.2.2.2.2.2.2.2.2.2.2.2.2.2.2.1)
  (case xm21_21 => exact e2.2.2.2.2.2.2.2.2.2.2.2.2.2.2.2.2.2.2.2.1)
  (case xa22 => exact e2.2.2.2.2.2.2.2.2.2.2.2.2.2.2.2.2.2.2.2.2.1)
  (case xi22 => exact e2.2.2.2.2.2.2.2.2.2.2.2.2.2.2.2.2.2.2.2.2.2.1)
  (case xt22 => exact e2.2.2.2.2.2.2.2.2.2.2.2.2.2.2.2.2.2.2.2.2.2.2.1)
  (case xm22_22 => exact e2.2.2.2.2.2.2.2.2.2.2.2.2.2.2.2.2.2.2.2.2.2.2.2)
  (case xa23 => exact e3.1)
  (case xi23 => exact e3.2.1)
  (case xt23 => exact e3.2.2.1)
  (case xm23_23 => exact e3.2.2.2.1)
  (case xa24 => exact e3.2.2.2.2.1)
  (case xi24 => exact e3.2.2.2.2.2.1)
  (case xt24 => exact e3.2.2.2.2.2.2.1)
  (case xm24_24 => exact e3.2.2.2.2.2.2.2.1)
  (case xa25 => exact e3.2.2.2.2.2.2.2.2.1)
  (case xi25 => exact e3.2.2.2.2.2.2.2.2.2.1)
  (case xt25 => exact e3.2.2.2.2.2.2.2.2.2.2.1)
  (case xm25_25 => exact e3.2.2.2.2.2.2.2.2.2.2.2.1)
  (case xa26 => exact e3.2.2.2.2.2.2.2.2.2.2.2.2.1)
  (case xi26 => exact e3.2.2.2.2.2.2.2.2.2.2.2.2.2.1)
  (case xt26 => exact e3.2.2.2.2.2.2.2.2.2.2.2.2.2.2.1)
  (case xm26_26 => exact e3.2.2.2.2.2.2.2.2.2.2.2.2.2.2.2.1)
  (case xa27 => exact e3.2.2.2.2.2.2.2.2.2.2.2.2.2.2.2.2.1)
  (case xi27 => exact e3.2.2.2.2.2.2.2.2.2.2.2.2.2.2.2.2.2.1)
  (case xt27 => exact e3.2.2.2.2.2.2.2.2.2.2.2.2.2.2.2.2.2.2.1)
  (case xm27_27 => exact e3.2.2.2.2.2.2.2.2.2.2.2.2.2.2.2.2.2.2.2.1)
  (case xa28 => exact e3.2.2.2.2.2.2.2.2.2.2.2.2.2.2.2.2.2.2.2.2.1)
  (case xi28 => exact e3.2.2.2.2.2.2.2.2.2.2.2.2.2.2.2.2.2.2.2.2.2.1)
  (case xt28 => exact e3.2.2.2.2.2.2.2.2.2.2.2.2.2.2.2.2.2.2.2.2.2.2.1)
  (case xm28_28 => exact e3.2.2.2.2.2.2.2.2.2.2.2.2.2.2.2.2.2.2.2.2.2.2.2)
  (case xs10 => exact e4.1)
  (case xd10 => exact e4.2.1)
  (case zVE => exact e4.2.2.1)
  (case xk11 => exact e4.2.2.2.1)
  (case xf11 => exact e4.2.2.2.2.1)
  (case xe11 => exact e4.2.2.2.2.2.1)
  (case xb11 => exact e4.2.2.2.2.2.2.1)
  (case xg11 => exact e4.2.2.2.2.2.2.2.1)
  (case xh11 => exact e4.2.2.2.2.2.2.2.2.1)
  (case xd11 => exact e4.2.2.2.2.2.2.2.2.2.1)
  (case xc11 => exact e4.2.2.2.2.2.2.2.2.2.2.1)
  (case xo11 => exact e4.2.2.2.2.2.2.2.2.2.2.2.1)
  (case xv11 => exact e4.2.2.2.2.2.2.2.2.2.2.2.2.1)
  (case xm11_10 => exact e4.2.2.2.2.2.2.2.2.2.2.2.2.2.1)
  (case xm11_12 => exact e4.2.2.2.2.2.2.2.2.2.2.2.2.2.2.1)
  (case xm11_13 => exact e4.2.2.2.2.2.2.2.2.2.2.2.2.2.2.2.1)
  (case xm11_14 => exact e4.2.2.2.2.2.2.2.2.2.2.2.2.2.2.2.2.1)
  (case xm11_15 => exact e4.2.2.2.2.2.2.2.2.2.2.2.2.2.2.2.2.2.1)
  (case xm11_16 => exact e4.2.2.2.2.2.2.2.2.2.2.2.2.2.2.2.2.2.2.1)
  (case xm11_17 => exact e4.2.2.2.2.2.2.2.2.2.2.2.2.2.2.2.2.2.2.2.1)
  (case xm11_18 => exact e4.2.2.2.2.2.2.2.2.2.2.2.2.2.2.2.2.2.2.2.2.1)
  (case xm11_19 => exact e4.2.2.2.2.2.2.2.2.2.2.2.2.2.2.2.2.2.2.2.2.2.1)
  (case xm11_20 => exact e4.2.2.2.2.2.2.2.2.2.2.2.2.2.2.2.2.2.2.2.2.2.2.1)
  (case xm11_21 => exact e4.2.2.2.2.2.2.2.2.2.2.2.2.2.2.2.2.2.2.2.2.2.2.2)
  (case xm11_22 => exact e5.1)
  (case xm11_23 => exact e5.2.1)
  (case xm11_24 => exact e5.2.2.1)
  (case xm11_25 => exact e5.2.2.2.1)
  (case xm11_26 => exact e5.2.2.2.2.1)
  (case xm11_27 => exact e5.2.2.2.2.2.1)
  (case xm11_28 => exact e5.2.2.2.2.2.2.1)
  (case xk12 => exact e5.2.2.2.2.2.2.2.1)
  (case xf12 => exact e5.2.2.2.2.2.2.2.2.1)
  (case xe12 => exact e5.2.2.2.2.2.2.2.2.2.1)
  (case xb12 => exact e5.2.2.2.2.2.2.2.2.2.2.1)
  (case xg12 => exact e5.2.2.2.2.2.2.2.2.2.2.2.1)
  (case xh12 => exact e5.2.2.2.2.2.2.2.2.2.2.2.2.1)
  (case xd12 => exact e5.2.2.2.2.2.2.2.2.2.2.2.2.2.1)
  (case xc12 => exact e5.2.2.2.2.2.2.2.2.2.2.2.2.2.2.1)
  (case xo12 => exact e5.2.2.2.2.2.2.2.2.2.2.2.2.2.2.2.1)
  (case xv12 => exact e5.2.2.2.2.2.2.2.2.2.2.2.2.2.2.2.2.1)
  (case xm12_10 => exact e5.2.2.2.2.2.2.2.2.2.2.2.2.2.2.2.2.2.1)
  (case xm12_11 => exact e5.2.2.2.2.2.2.2.2.2.2.2.2.2.2.2.2.2.2.1)
  (case xm12_13 => exact e5.2.2.2.2.2.2.2.2.2.2.2.2.2.2.2.2.2.2.2.1)
  (case xm12_14 => exact e5.2.2.2.2.2.2.2.2.2.2.2.2.2.2.2.2.2.2.2.2.1)
  (case xm12_15 => exact e5.2.2.2.2.2.2.2.2.2.2.2.2.2.2.2.2.2.2.2.2.2.1)
  (case xm12_16 => exact e5.2.2.2.2.2.2.2.2.2.2.2.2.2.2.2.2.2.2.2.2.2.2.1)
  (case xm12_17 => exact e5.2.2.2.2.2.2.2.2.2.2.2.2.2.2.2.2.2.2.2.2.2.2.2)
  (case xm12_18 => exact e6.1)
  (case xm12_19 => exact e6.2.1)
  (case xm12_20 => exact e6.2.2.1)
  (case xm12_21 => exact e6.2.2.2.1)
  (case xm12_22 => exact e6.2.2.2.2.1)
  (case xm12_23 => exact e6.2.2.2.2.2.1)
  (case xm12_24 => exact e6.2.2.2.2.2.2.1)
  (case xm12_25 => exact e6.2.2.2.2.2.2.2.1)
  (case xm12_26 => exact e6.2.2.2.2.2.2.2.2.1)
  (case xm12_27 => exact e6.2.2.2.2.2.2.2.2.2.1)
  (case xm12_28 => exact e6.2.2.2.2.2.2.2.2.2.2.1)
  (case xk13 => exact e6.2.2.2.2.2.2.2.2.2.2.2.1)
  (case xf13 => exact e6.2.2.2.2.2.2.2.2.2.2.2.2.1)
  (case xe13 => exact e6.2.2.2.2.2.2.2.2.2.2.2.2.2.1)
  (case xb13 => exact e6.2.2.2.2.2.2.2.2.2.2.2.2.2.2.1)
  (case xg13 => exact e6.2.2.2.2.2.2.2.2.2.2.2.2.2.2.2.1)
  (case xh13 => exact e6.2.2.2.2.2.2.2.2.2.2.2.2.2.2.2.2.1)
  (case xd13 => exact e6.2.2.2.2.2.2.2.2.2.2.2.2.2.2.2.2.2.1)
  (case xc13 => exact e6.2.2.2.2.2.2.2.2.2.2.2.2.2.2.2.2.2.2.1)
  (case xo13 => exact e6.2.2.2.2.2.2.2.2.2.2.2.2.2.2.2.2.2.2.2.1)
  (case xv13 => exact e6.2.2.2.2.2.2.2.2.2.2.2.2.2.2.2.2.2.2.2.2.1)
  (case xm13_10 => exact e6.2.2.2.2.2.2.2.2.2.2.2.2.2.2.2.2.2.2.2.2.2.1)
  (case xm13_11 => exact e6.2.2.2.2.2.2.2.2.2.2.2.2.2.2.2.2.2.2.2.2.2.2.1)
  (case xm13_12 => exact e6.2.2.2.2.2.2.2.2.2.2.2.2.2.2.2.2.2.2.2.2.2.2.2)
  (case xm13_14 => exact e7.1)
  (case xm13_15 => exact e7.2.1)
  (case xm13_16 => exact e7.2.2.1)
  (case xm13_17 => exact e7.2.2.2.1)
  (case xm13_18 => exact e7.2.2.2.2.1)
  (case xm13_19 => exact e7.2.2.2.2.2.1)
  (case xm13_20 => exact e7.2.2.2.2.2.2.1)
  (case xm13_21 => exact e7.2.2.2.2.2.2.2.1)
  (case xm13_22 => exact e7.2.2.2.2.2.2.2.2.1)
  (case xm13_23 => exact e7.2.2.2.2.2.2.2.2.2.1)
  (case xm13_24 => exact e7.2.2.2.2.2.2.2.2.2.2.1)
  (case xm13_25 => exact e7.2.2.2.2.2.2.2.2.2.2.2.1)
  (case xm13_26 => exact e7.2.2.2.2.2.2.2.2.2.2.2.2.1)
  (case xm13_27 => exact e7.2.2.2.2.2.2.2.2.2.2.2.2.2.1)
  (case xm13_28 => exact e7.2.2.2.2.2.2.2.2.2.2.2.2.2.2.1)
  (case xk14 => exact e7.2.2.2.2.2.2.2.2.2.2.2.2.2.2.2.1)
  (case xf14 => exact e7.2.2.2.2.2.2.2.2.2.2.2.2.2.2.2.2.1)
  (case xe14 => exact e7.2.2.2.2.2.2.2.2.2.2.2.2.2.2.2.2.2.1)
  (case xb14 => exact e7.2.2.2.2.2.2.2.2.2.2.2.2.2.2.2.2.2.2.1)
  (case xg14 => exact e7.2.2.2.2.2.2.2.2.2.2.2.2.2.2.2.2.2.2.2.1)
  (case xh14 => exact e7.2.2.2.2.2.2.2.2.2.2.2.2.2.2.2.2.2.2.2.2.1)
  (case xd14 => exact e7.2.2.2.2.2.2.2.2.2.2.2.2.2.2.2.2.2.2.2.2.2.1)
  (case xc14 => exact e7.2.2.2.2.2.2.2.2.2.2.2.2.2.2.2.2.2.2.2.2.2.2.1)
  (case xo14 => exact e7.2.2.2.2.2.2.2.2.2.2.2.2.2.2.2.2.2.2.2.2.2.2.2)
  (case xv14 => exact e8.1)
  (case xm14_10 => exact e8.2.1)
  (case xm14_11 => exact e8.2.2.1)
  (case xm14_12 => exact e8.2.2.2.1)
  (case xm14_13 => exact e8.2.2.2.2.1)
  (case xm14_15 => exact e8.2.2.2.2.2.1)
  (case xm14_16 => exact e8.2.2.2.2.2.2.1)
  (case xm14_17 => exact e8.2.2.2.2.2.2.2.1)
  (case xm14_18 => exact e8.2.2.2.2.2.2.2.2.1)
  (case xm14_19 => exact e8.2.2.2.2.2.2.2.2.2.1)
  (case xm14_20 => exact e8.2.2.2.2.2.2.2.2.2.2.1)
  (case xm14_21 => exact e8.2.2.2.2.2.2.2.2.2.2.2.1)
  (case xm14_22 => exact e8.2.2.2.2.2.2.2.2.2.2.2.2.1)
  (case xm14_23 => exact e8.2.2.2.2.2.2.2.2.2.2.2.2.2.1)
  (case xm14_24 => exact e8.2.2.2.2.2.2.2.2.2.2.2.2.2.2.1)
  (case xm14_25 => exact e8.2.2.2.2.2.2.2.2.2.2.2.2.2.2.2.1)
  (case xm14_26 => exact e8.2.2.2.2.2.2.2.2.2.2.2.2.2.2.2.2.1)
  (case xm14_27 => exact e8.2.2.2.2.2.2.2.2.2.2.2.2.2.2.2.2.2.1)
  (case xm14_28 => exact e8.2.2.2.2.2.2.2.2.2.2.2.2.2.2.2.2.2.2.1)
  (case xk15 => exact e8.2.2.2.2.2.2.2.2.2.2.2.2.2.2.2.2.2.2.2.1)
  (case xf15 => exact e8.2.2.2.2.2.2.2.2.2.2.2.2.2.2.2.2.2.2.2.2.1)
  (case xe15 => exact e8.2.2.2.2.2.2.2.2.2.2.2.2.2.2.2.2.2.2.2.2.2.1)
  (case xb15 => exact e8.2.2.2.2.2.2.2.2.2.2.2.2.2.2.2.2.2.2.2.2.2.2.1)
  (case xg15 => exact e8.2.2.2.2.2.2.2.2.2.2.2.2.2.2.2.2.2.2.2.2.2.2.2)
  (case xh15 => exact e9.1)
  (case xd15 => exact e9.2.1)
  (case xc15 => exact e9.2.2.1)
  (case xo15 => exact e9.2.2.2.1)
  (case xv15 => exact e9.2.2.2.2.1)
  (case xm15_10 => exact e9.2.2.2.2.2.1)
  (case xm15_11 => exact e9.2.2.2.2.2.2.1)
  (case xm15_12 => exact e9.2.2.2.2.2.2.2.1)
  (case xm15_13 => exact e9.2.2.2.2.2.2.2.2.1)
  (case xm15_14 => exact e9.2.2.2.2.2.2.2.2.2.1)
  (case xm15_16 => exact e9.2.2.2.2.2.2.2.2.2.2.1)
  (case xm15_17 => exact e9.2.2.2.2.2.2.2.2.2.2.2.1)
  (case xm15_18 => exact e9.2.2.2.2.2.2.2.2.2.2.2.2.1)
  (case xm15_19 => exact e9.2.2.2.2.2.2.2.2.2.2.2.2.2.1)
  (case xm15_20 => exact e9.2.2.2.2.2.2.2.2.2.2.2.2.2.2.1)
  (case xm15_21 => exact e9.2.2.2.2.2.2.2.2.2.2.2.2.2.2.2.1)
  (case xm15_22 => exact e9.2.2.2.2.2.2.2.2.2.2.2.2.2.2.2.2.1)
  (case xm15_23 => exact e9.2.2.2.2.2.2.2.2.2.2.2.2.2.2.2.2.2.1)
  (case xm15_24 => exact e9.2.2.2.2.2.2.2.2.2.2.2.2.2.2.2.2.2.2.1)
  (case xm15_25 => exact e9.2.2.2.2.2.2.2.2.2.2.2.2.2.2.2.2.2.2.2.1)
  (case xm15_26 => exact e9.2.2.2.2.2.2.2.2.2.2.2.2.2.2.2.2.2.2.2.2.1)
  (case xm15_27 => exact e9.2.2.2.2.2.2.2.2.2.2.2.2.2.2.2.2.2.2.2.2.2.1)
  (case xm15_28 => exact e9.2.2.2.2.2.2.2.2.2.2.2.2.2.2.2.2.2.2.2.2.2.2.1)
  (case xk16 => exact e9.2.2.2.2.2.2.2.2.2.2.2.2.2.2.2.2.2.2.2.2.2.2.2)
  (case xf16 => exact e10.1)
  (case xe16 => exact e10.2.1)
  (case xb16 => exact e10.2.2.1)
  (case xg16 => exact e10.2.2.2.1)
  (case xh16 => exact e10.2.2.2.2.1)
  (case xd16 => exact e10.2.2.2.2.2.1)
  (case xc16 => exact e10.2.2.2.2.2.2.1)
  (case xo16 => exact e10.2.2.2.2.2.2.2.1)
  (case xv16 => exact e10.2.2.2.2.2.2.2.2.1)
  (case xm16_10 => exact e10.2.2.2.2.2.2.2.2.2.1)
  (case xm16_11 => exact e10.2.2.2.2.2.2.2.2.2.2.1)
  (case xm16_12 => exact e10.2.2.2.2.2.2.2.2.2.2.2.1)
  (case xm16_13 => exact e10.2.2.2.2.2.2.2.2.2.2.2.2.1)
  (case xm16_14 => exact e10.2.2.2.2.2.2.2.2.2.2.2.2.2.1)
  (case xm16_15 => exact e10.2.2.2.2.2.2.2.2.2.2.2.2.2.2.1)
  (case xm16_17 => exact e10.2.2.2.2.2.2.2.2.2.2.2.2.2.2.2.1)
  (case xm16_18 => exact e10.2.2.2.2.2.2.2.2.2.2.2.2.2.2.2.2.1)
  (case xm16_19 => exact e10.2.2.2.2.2.2.2.2.2.2.2.2.2.2.2.2.2.1)
  (case xm16_20 => exact e10.2.2.2.2.2.2.2.2.2.2.2.2.2.2.2.2.2.2.1)
  (case xm16_21 => exact e10.2.2.2.2.2.2.2.2.2.2.2.2.2.2.2.2.2.2.2.1)
  (case xm16_22 => exact e10.2.2.2.2.2.2.2.2.2.2.2.2.2.2.2.2.2.2.2.2.1)
  (case xm16_23 => exact e10.2.2.2.2.2.2.2.2.2.2.2.2.2.2.2.2.2.2.2.2.2.1)
  (case xm16_24 => exact e10.2.2.2.2.2.2.2.2.2.2.2.2.2.2.2.2.2.2.2.2.2.2.1)
  (case xm16_25 => exact e10.2.2.2.2.2.2.2.2.2.2.2.2.2.2.2.2.2.2.2.2.2.2.2)
  (case xm16_26 => exact e11.1)
  (case xm16_27 => exact e11.2.1)
  (case xm16_28 => exact e11.2.2.1)
  (case xk17 => exact e11.2.2.2.1)
  (case xf17 => exact e11.2.2.2.2.1)
  (case xe17 => exact e11.2.2.2.2.2.1)
  (case xb17 => exact e11.2.2.2.2.2.2.1)
  (case xg17 => exact e11.2.2.2.2.2.2.2.1)
  (case xh17 => exact e11.2.2.2.2.2.2.2.2.1)
  (case xd17 => exact e11.2.2.2.2.2.2.2.2.2.1)
  (case xc17 => exact e11.2.2.2.2.2.2.2.2.2.2.1)
  (case xo17 => exact e11.2.2.2.2.2.2.2.2.2.2.2.1)
  (case xv17 => exact e11.2.2.2.2.2.2.2.2.2.2.2.2.1)
  (case xm17_10 => exact e11.2.2.2.2.2.2.2.2.2.2.2.2.2.1)
  (case xm17_11 => exact e11.2.2.2.2.2.2.2.2.2.2.2.2.2.2.1)
  (case xm17_12 => exact e11.2.2.2.2.2.2.2.2.2.2.2.2.2.2.2.1)
  (case xm17_13 => exact e11.2.2.2.2.2.2.2.2.2.2.2.2.2.2.2.2.1)
  (case xm17_14 => exact e11.2.2.2.2.2.2.2.2.2.2.2.2.2.2.2.2.2.1)
  (case xm17_15 => exact e11.2.2.2.2.2.2.2.2.2.2.2.2.2.2.2.2.2.2.1)
  (case xm17_16 => exact e11.2.2.2.2.2.2.2.2.2.2.2.2.2.2.2.2.2.2.2.1)
  (case xm17_18 => exact e11.2.2.2.2.2.2.2.2.2.2.2.2.2.2.2.2.2.2.2.2.1)
  (case xm17_19 => exact e11.2.2.2.2.2.2.2.2.2.2.2.2.2.2.2.2.2.2.2.2.2.1)
  (case xm17_20 => exact e11.2.2.2.2.2.2.2.2.2.2.2.2.2.2.2.2.2.2.2.2.2.2.1)
  (case xm17_21 => exact e11.2.2.2.2.2.2.2.2.2.2.2.2.2.2.2.2.2.2.2.2.2.2.2)
  (case xm17_22 => exact e12.1)
  (case xm17_23 => exact e12.2.1)
  (case xm17_24 => exact e12.2.2.1)
  (case xm17_25 => exact e12.2.2.2.1)
  (case xm17_26 => exact e12.2.2.2.2.1)
  (case xm17_27 => exact e12.2.2.2.2.2.1)
  (case xm17_28 => exact e12.2.2.2.2.2.2.1)
  (case xk18 => exact e12.2.2.2.2.2.2.2.1)
  (case xf18 => exact e12.2.2.2.2.2.2.2.2.1)
  (case xe18 => exact e12.2.2.2.2.2.2.2.2.2.1)
  (case xb18 => exact e12.2.2.2.2.2.2.2.2.2.2.1)
  (case xg18 => exact e12.2.2.2.2.2.2.2.2.2.2.2.1)
  (case xh18 => exact e12.2.2.2.2.2.2.2.2.2.2.2.2.1)
  (case xd18 => exact e12.2.2.2.2.2.2.2.2.2.2.2.2.2.1)
  (case xc18 => exact e12.2.2.2.2.2.2.2.2.2.2.2.2.2.2.1)
  (case xo18 => exact e12.2.2.2.2.2.2.2.2.2.2.2.2.2.2.2.1)
  (case xv18 => exact e12.2.2.2.2.2.2.2.2.2.2.2.2.2.2.2.2.1)
  (case xm18_10 => exact e12.2.2.2.2.2.2.2.2.2.2.2.2.2.2.2.2.2.1)
  (case xm18_11 => exact e12.2.2.2.2.2.2.2.2.2.2.2.2.2.2.2.2.2.2.1)
  (case xm18_12 => exact e12.2.2.2.2.2.2.2.2.2.2.2.2.2.2.2.2.2.2.2.1)
  (case xm18_13 => exact e12.2.2.2.2.2.2.2.2.2.2.2.2.2.2.2.2.2.2.2.2.1)
  (case xm18_14 => exact e12.2.2.2.2.2.2.2.2.2.2.2.2.2.2.2.2.2.2.2.2.2.1)
  (case xm18_15 => exact e12.2.2.2.2.2.2.2.2.2.2.2.2.2.2.2.2.2.2.2.2.2.2.1)
  (case xm18_16 => exact e12.2.2.2.2.2.2.2.2.2.2.2.2.2.2.2.2.2.2.2.2.2.2.2)
  (case xm18_17 => exact e13.1)
  (case xm18_19 => exact e13.2.1)
  (case xm18_20 => exact e13.2.2.1)
  (case xm18_21 => exact e13.2.2.2.1)
  (case xm18_22 => exact e13.2.2.2.2.1)
  (case xm18_23 => exact e13.2.2.2.2.2.1)
  (case xm18_24 => exact e13.2.2.2.2.2.2.1)
  (case xm18_25 => exact e13.2.2.2.2.2.2.2.1)
  (case xm18_26 => exact e13.2.2.2.2.2.2.2.2.1)
  (case xm18_27 => exact e13.2.2.2.2.2.2.2.2.2.1)
  (case xm18_28 => exact e13.2.2.2.2.2.2.2.2.2.2.1)
  (case xk19 => exact e13.2.2.2.2.2.2.2.2.2.2.2.1)
  (case xf19 => exact e13.2.2.2.2.2.2.2.2.2.2.2.2.1)
  (case xe19 => exact e13.2.2.2.2.2.2.2.2.2.2.2.2.2.1)
  (case xb19 => exact e13.2.2.2.2.2.2.2.2.2.2.2.2.2.2.1)
  (case xg19 => exact e13.2.2.2.2.2.2.2.2.2.2.2.2.2.2.2.1)
  (case xh19 => exact e13.2.2.2.2.2.2.2.2.2.2.2.2.2.2.2.2.1)
  (case xd19 => exact e13.2.2.2.2.2.2.2.2.2.2.2.2.2.2.2.2.2.1)
  (case xc19 => exact e13.2.2.2.2.2.2.2.2.2.2.2.2.2.2.2.2.2.2.1)
  (case xo19 => exact e13.2.2.2.2.2.2.2.2.2.2.2.2.2.2.2.2.2.2.2.1)
  (case xv19 => exact e13.2.2.2.2.2.2.2.2.2.2.2.2.2.2.2.2.2.2.2.2.1)
  (case xm19_10 => exact e13.2.2.2.2.2.2.2.2.2.2.2.2.2.2.2.2.2.2.2.2.2.1)
  (case xm19_11 => exact e13.2.2.2.2.2.2.2.2.2.2.2.2.2.2.2.2.2.2.2.2.2.2.1)
  (case xm19_12 => exact e13.2.2.2.2.2.2.2.2.2.2.2.2.2.2.2.2.2.2.2.2.2.2.2)
  (case xm19_13 => exact e14.1)
  (case xm19_14 => exact e14.2.1)
  (case xm19_15 => exact e14.2.2.1)
  (case xm19_16 => exact e14.2.2.2.1)
  (case xm19_17 => exact e14.2.2.2.2.1)
  (case xm19_18 => exact e14.2.2.2.2.2.1)
  (case xm19_20 => exact e14.2.2.2.2.2.2.1)
  (case xm19_21 => exact e14.2.2.2.2.2.2.2.1)
  (case xm19_22 => exact e14.2.2.2.2.2.2.2.2.1)
  (case xm19_23 => exact e14.2.2.2.2.2.2.2.2.2.1)
  (case xm19_24 => exact e14.2.2.2.2.2.2.2.2.2.2.1)
  (case xm19_25 => exact e14.2.2.2.2.2.2.2.2.2.2.2.1)
  (case xm19_26 => exact e14.2.2.2.2.2.2.2.2.2.2.2.2.1)
  (case xm19_27 => exact e14.2.2.2.2.2.2.2.2.2.2.2.2.2.1)
  (case xm19_28 => exact e14.2.2.2.2.2.2.2.2.2.2.2.2.2.2.1)
  (case xk20 => exact e14.2.2.2.2.2.2.2.2.2.2.2.2.2.2.2.1)
  (case xf20 => exact e14.2.2.2.2.2.2.2.2.2.2.2.2.2.2.2.2.1)
  (case xe20 => exact e14.2.2.2.2.2.2.2.2.2.2.2.2.2.2.2.2.2.1)
  (case xb20 => exact e14.2.2.2.2.2.2.2.2.2.2.2.2.2.2.2.2.2.2.1)
  (case xg20 => exact e14.2.2.2.2.2.2.2.2.2.2.2.2.2.2.2.2.2.2.2.1)
  (case xh20 => exact e14.2.2.2.2.2.2.2.2.2.2.2.2.2.2.2.2.2.2.2.2.1)
  (case xd20 => exact e14.2.2.2.2.2.2.2.2.2.2.2.2.2.2.2.2.2.2.2.2.2.1)
  (case xc20 => exact e14.2.2.2.2.2.2.2.2.2.2.2.2.2.2.2.2.2.2.2.2.2.2.1)
  (case xo20 => exact e14.2.2.2.2.2.2.2.2.2.2.2.2.2.2.2.2.2.2.2.2.2.2.2)
  (case xv20 => exact e15.1)
  (case xm20_10 => exact e15.2.1)
  (case xm20_11 => exact e15.2.2.1)
  (case xm20_12 => exact e15.2.2.2.1)
  (case xm20_13 => exact e15.2.2.2.2.1)
  (case xm20_14 => exact e15.2.2.2.2.2.1)
  (case xm20_15 => exact e15.2.2.2.2.2.2.1)
  (case xm20_16 => exact e15.2.2.2.2.2.2.2.1)
  (case xm20_17 => exact e15.2.2.2.2.2.2.2.2.1)
  (case xm20_18 => exact e15.2.2.2.2.2.2.2.2.2.1)
  (case xm20_19 => exact e15.2.2.2.2.2.2.2.2.2.2.1)
  (case xm20_21 => exact e15.2.2.2.2.2.2.2.2.2.2.2.1)
  (case xm20_22 => exact e15.2.2.2.2.2.2.2.2.2.2.2.2.1)
  (case xm20_23 => exact e15.2.2.2.2.2.2.2.2.2.2.2.2.2.1)
  (case xm20_24 => exact e15.2.2.2.2.2.2.2.2.2.2.2.2.2.2.1)
  (case xm20_25 => exact e15.2.2.2.2.2.2.2.2.2.2.2.2.2.2.2.1)
  (case xm20_26 => exact e15.2.2.2.2.2.2.2.2.2.2.2.2.2.2.2.2.1)
  (case xm20_27 => exact e15.2.2.2.2.2.2.2.2.2.2.2.2.2.2.2.2.2.1)
  (case xm20_28 => exact e15.2.2.2.2.2.2.2.2.2.2.2.2.2.2.2.2.2.2.1)
  (case xk21 => exact e15.2.2.2.2.2.2.2.2.2.2.2.2.2.2.2.2.2.2.2.1)
  (case xf21 => exact e15.2.2.2.2.2.2.2.2.2.2.2.2.2.2.2.2.2.2.2.2.1)
  (case xe21 => exact e15.2.2.2.2.2.2.2.2.2.2.2.2.2.2.2.2.2.2.2.2.2.1)
  (case xb21 => exact e15.2.2.2.2.2.2.2.2.2.2.2.2.2.2.2.2.2.2.2.2.2.2.1)
  (case xg21 => exact e15.2.2.2.2.2.2.2.2.2.2.2.2.2.2.2.2.2.2.2.2.2.2.2)
  (case xh21 => exact e16.1)
  (case xd21 => exact e16.2.1)
  (case xc21 => exact e16.2.2.1)
  (case xo21 => exact e16.2.2.2.1)
  (case xv21 => exact e16.2.2.2.2.1)
  (case xm21_10 => exact e16.2.2.2.2.2.1)
  (case xm21_11 => exact e16.2.2.2.2.2.2.1)
  (case xm21_12 => exact e16.2.2.2.2.2.2.2.1)
  (case xm21_13 => exact e16.2.2.2.2.2.2.2.2.1)
  (case xm21_14 => exact e16.2.2.2.2.2.2.2.2.2.1)
  (case xm21_15 => exact e16.2.2.2.2.2.2.2.2.2.2.1)
  (case xm21_16 => exact e16.2.2.2.2.2.2.2.2.2.2.2.1)
  (case xm21_17 => exact e16.2.2.2.2.2.2.2.2.2.2.2.2.1)
  (case xm21_18 => exact e16.2.2.2.2.2.2.2.2.2.2.2.2.2.1)
  (case xm21_19 => exact e16.2.2.2.2.2.2.2.2.2.2.2.2.2.2.1)
  (case xm21_20 => exact e16.2.2.2.2.2.2.2.2.2.2.2.2.2.2.2.1)
  (case xm21_22 => exact e16.2.2.2.2.2.2.2.2.2.2.2.2.2.2.2.2.1)
  (case xm21_23 => exact e16.2.2.2.2.2.2.2.2.2.2.2.2.2.2.2.2.2.1)
  (case xm21_24 => exact e16.2.2.2.2.2.2.2.2.2.2.2.2.2.2.2.2.2.2.1)
  (case xm21_25 => exact e16.2.2.2.2.2.2.2.2.2.2.2.2.2.2.2.2.2.2.2.1)
  (case xm21_26 => exact e16.2.2.2.2.2.2.2.2.2.2.2.2.2.2.2.2.2.2.2.2.1)
  (case xm21_27 => exact e16.2.2.2.2.2.2.2.2.2.2.2.2.2.2.2.2.2.2.2.2.2.1)
  (case xm21_28 => exact e16.2.2.2.2.2.2.2.2.2.2.2.2.2.2.2.2.2.2.2.2.2.2.1)
  (case xk22 => exact e16.2.2.2.2.2.2.2.2.2.2.2.2.2.2.2.2.2.2.2.2.2.2.2)
  (case xf22 => exact e17.1)
  (case xe22 => exact e17.2.1)
  (case xb22 => exact e17.2.2.1)
  (case xg22 => exact e17.2.2.2.1)
  (case xh22 => exact e17.2.2.2.2.1)
  (case xd22 => exact e17.2.2.2.2.2.1)
  (case xc22 => exact e17.2.2.2.2.2.2.1)
  (case xo22 => exact e17.2.2.2.2.2.2.2.1)
  (case xv22 => exact e17.2.2.2.2.2.2.2.2.1)
  (case xm22_10 => exact e17.2.2.2.2.2.2.2.2.2.1)
  (case xm22_11 => exact e17.2.2.2.2.2.2.2.2.2.2.1)
  (case xm22_12 => exact e17.2.2.2.2.2.2.2.2.2.2.2.1)
  (case xm22_13 => exact e17.2.2.2.2.2.2.2.2.2.2.2.2.1)
  (case xm22_14 => exact e17.2.2.2.2.2.2.2.2.2.2.2.2.2.1)
  (case xm22_15 => exact e17.2.2.2.2.2.2.2.2.2.2.2.2.2.2.1)
  (case xm22_16 => exact e17.2.2.2.2.2.2.2.2.2.2.2.2.2.2.2.1)
  (case xm22_17 => exact e17.2.2.2.2.2.2.2.2.2.2.2.2.2.2.2.2.1)
  (case xm22_18 => exact e17.2.2.2.2.2.2.2.2.2.2.2.2.2.2.2.2.2.1)
  (case xm22_19 => exact e17.2.2.2.2.2.2.2.2.2.2.2.2.2.2.2.2.2.2.1)
  (case xm22_20 => exact e17.2.2.2.2.2.2.2.2.2.2.2.2.2.2.2.2.2.2.2.1)
  (case xm22_21 => exact e17.2.2.2.2.2.2.2.2.2.2.2.2.2.2.2.2.2.2.2.2.1)
  (case xm22_23 => exact e17.2.2.2.2.2.2.2.2.2.2.2.2.2.2.2.2.2.2.2.2.2.1)
  (case xm22_24 => exact e17.2.2.2.2.2.2.2.2.2.2.2.2.2.2.2.2.2.2.2.2.2.2.1)
  (case xm22_25 => exact e17.2.2.2.2.2.2.2.2.2.2.2.2.2.2.2.2.2.2.2.2.2.2.2)
  (case xm22_26 => exact e18.1)
  (case xm22_27 => exact e18.2.1)
  (case xm22_28 => exact e18.2.2.1)
  (case xk23 => exact e18.2.2.2.1)
  (case xf23 => exact e18.2.2.2.2.1)
  (case xe23 => exact e18.2.2.2.2.2.1)
  (case xb23 => exact e18.2.2.2.2.2.2.1)
  (case xg23 => exact e18.2.2.2.2.2.2.2.1)
  (case xh23 => exact e18.2.2.2.2.2.2.2.2.1)
  (case xd23 => exact e18.2.2.2.2.2.2.2.2.2.1)
  (case xc23 => exact e18.2.2.2.2.2.2.2.2.2.2.1)
  (case xo23 => exact e18.2.2.2.2.2.2.2.2.2.2.2.1)
  (case xv23 => exact e18.2.2.2.2.2.2.2.2.2.2.2.2.1)
  (case xm23_10 => exact e18.2.2.2.2.2.2.2.2.2.2.2.2.2.1)
  (case xm23_11 => exact e18.2.2.2.2.2.2.2.2.2.2.2.2.2.2.1)
  (case xm23_12 => exact e18.2.2.2.2.2.2.2.2.2.2.2.2.2.2.2.1)
  (case xm23_13 => exact e18.2.2.2.2.2.2.2.2.2.2.2.2.2.2.2.2.1)
  (case xm23_14 => exact e18.2.2.2.2.2.2.2.2.2.2.2.2.2.2.2.2.2.1)
  (case xm23_15 => exact e18.2.2.2.2.2.2.2.2.2.2.2.2.2.2.2.2.2.2.1)
  (case xm23_16 => exact e18.2.2.2.2.2.2.2.2.2.2.2.2.2.2.2.2.2.2.2.1)
  (case xm23_17 => exact e18.2.2.2.2.2.2.2.2.2.2.2.2.2.2.2.2.2.2.2.2.1)
  (case xm23_18 => exact e18.2.2.2.2.2.2.2.2.2.2.2.2.2.2.2.2.2.2.2.2.2.1)
  (case xm23_19 => exact e18.2.2.2.2.2.2.2.2.2.2.2.2.2.2.2.2.2.2.2.2.2.2.1)
  (case xm23_20 => exact e18.2.2.2.2.2.2.2.2.2.2.2.2.2.2.2.2.2.2.2.2.2.2.2)
  (case xm23_21 => exact e19.1)
  (case xm23_22 => exact e19.2.1)
  (case xm23_24 => exact e19.2.2.1)
  (case xm23_25 => exact e19.2.2.2.1)
  (case xm23_26 => exact e19.2.2.2.2.1)
  (case xm23_27 => exact e19.2.2.2.2.2.1)
  (case xm23_28 => exact e19.2.2.2.2.2.2.1)
  (case xk24 => exact e19.2.2.2.2.2.2.2.1)
  (case xf24 => exact e19.2.2.2.2.2.2.2.2.1)
  (case xe24 => exact e19.2.2.2.2.2.2.2.2.2.1)
  (case xb24 => exact e19.2.2.2.2.2.2.2.2.2.2.1)
  (case xg24 => exact e19.2.2.2.2.2.2.2.2.2.2.2.1)
  (case xh24 => exact e19.2.2.2.2.2.2.2.2.2.2.2.2.1)
  (case xd24 => exact e19.2.2.2.2.2.2.2.2.2.2.2.2.2.1)
  (case xc24 => exact e19.2.2.2.2.2.2.2.2.2.2.2.2.2.2.1)
  (case xo24 => exact e19.2.2.2.2.2.2.2.2.2.2.2.2.2.2.2.1)
  (case xv24 => exact e19.2.2.2.2.2.2.2.2.2.2.2.2.2.2.2.2.1)
  (case xm24_10 => exact e19.2.2.2.2.2.2.2.2.2.2.2.2.2.2.2.2.2.1)
  (case xm24_11 => exact e19.2.2.2.2.2.2.2.2.2.2.2.2.2.2.2.2.2.2.1)
  (case xm24_12 => exact e19.2.2.2.2.2.2.2.2.2.2.2.2.2.2.2.2.2.2.2.1)
  (case xm24_13 => exact e19.2.2.2.2.2.2.2.2.2.2.2.2.2.2.2.2.2.2.2.2.1)
  (case xm24_14 => exact e19.2.2.2.2.2.2.2.2.2.2.2.2.2.2.2.2.2.2.2.2.2.1)
  (case xm24_15 => exact e19.2.2.2.2.2.2.2.2.2.2.2.2.2.2.2.2.2.2.2.2.2.2.1)
  (case xm24_16 => exact e19.2.2.2.2.2.2.2.2.2.2.2.2.2.2.2.2.2.2.2.2.2.2.2)
  (case xm24_17 => exact e20.1)
  (case xm24_18 => exact e20.2.1)
  (case xm24_19 => exact e20.2.2.1)
  (case xm24_20 => exact e20.2.2.2.1)
  (case xm24_21 => exact e20.2.2.2.2.1)
  (case xm24_22 => exact e20.2.2.2.2.2.1)
  (case xm24_23 => exact e20.2.2.2.2.2.2.1)
  (case xm24_25 => exact e20.2.2.2.2.2.2.2.1)
  (case xm24_26 => exact e20.2.2.2.2.2.2.2.2.1)
  (case xm24_27 => exact e20.2.2.2.2.2.2.2.2.2.1)
  (case xm24_28 => exact e20.2.2.2.2.2.2.2.2.2.2.1)
  (case xk25 => exact e20.2.2.2.2.2.2.2.2.2.2.2.1)
  (case xf25 => exact e20.2.2.2.2.2.2.2.2.2.2.2.2.1)
  (case xe25 => exact e20.2.2.2.2.2.2.2.2.2.2.2.2.2.1)
  (case xb25 => exact e20.2.2.2.2.2.2.2.2.2.2.2.2.2.2.1)
  (case xg25 => exact e20.2.2.2.2.2.2.2.2.2.2.2.2.2.2.2.1)
  (case xh25 => exact e20.2.2.2.2.2.2.2.2.2.2.2.2.2.2.2.2.1)
  (case xd25 => exact e20.2.2.2.2.2.2.2.2.2.2.2.2.2.2.2.2.2.1)
  (case xc25 => exact e20.2.2.2.2.2.2.2.2.2.2.2.2.2.2.2.2.2.2.1)
  (case xo25 => exact e20.2.2.2.2.2.2.2.2.2.2.2.2.2.2.2.2.2.2.2.1)
  (case xv25 => exact e20.2.2.2.2.2.2.2.2.2.2.2.2.2.2.2.2.2.2.2.2.1)
  (case xm25_10 => exact e20.2.2.2.2.2.2.2.2.2.2.2.2.2.2.2.2.2.2.2.2.2.1)
  (case xm25_11 => exact e20.2.2.2.2.2.2.2.2.2.2.2.2.2.2.2.2.2.2.2.2.2.2.1)
  (case xm25_12 => exact e20.2.2.2.2.2.2.2.2.2.2.2.2.2.2.2.2.2.2.2.2.2.2.2)
  (case xm25_13 => exact e21.1)
  (case xm25_14 => exact e21.2.1)
  (case xm25_15 => exact e21.2.2.1)
  (case xm25_16 => exact e21.2.2.2.1)
  (case xm25_17 => exact e21.2.2.2.2.1)
  (case xm25_18 => exact e21.2.2.2.2.2.1)
  (case xm25_19 => exact e21.2.2.2.2.2.2.1)
  (case xm25_20 => exact e21.2.2.2.2.2.2.2.1)
  (case xm25_21 => exact e21.2.2.2.2.2.2.2.2.1)
  (case xm25_22 => exact e21.2.2.2.2.2.2.2.2.2.1)
  (case xm25_23 => exact e21.2.2.2.2.2.2.2.2.2.2.1)
  (case xm25_24 => exact e21.2.2.2.2.2.2.2.2.2.2.2.1)
  (case xm25_26 => exact e21.2.2.2.2.2.2.2.2.2.2.2.2.1)
  (case xm25_27 => exact e21.2.2.2.2.2.2.2.2.2.2.2.2.2.1)
  (case xm25_28 => exact e21.2.2.2.2.2.2.2.2.2.2.2.2.2.2.1)
  (case xk26 => exact e21.2.2.2.2.2.2.2.2.2.2.2.2.2.2.2.1)
  (case xf26 => exact e21.2.2.2.2.2.2.2.2.2.2.2.2.2.2.2.2.1)
  (case xe26 => exact e21.2.2.2.2.2.2.2.2.2.2.2.2.2.2.2.2.2.1)
  (case xb26 => exact e21.2.2.2.2.2.2.2.2.2.2.2.2.2.2.2.2.2.2.1)
  (case xg26 => exact e21.2.2.2.2.2.2.2.2.2.2.2.2.2.2.2.2.2.2.2.1)
  (case xh26 => exact e21.2.2.2.2.2.2.2.2.2.2.2.2.2.2.2.2.2.2.2.2.1)
  (case xd26 => exact e21.2.2.2.2.2.2.2.2.2.2.2.2.2.2.2.2.2.2.2.2.2.1)
  (case xc26 => exact e21.2.2.2.2.2.2.2.2.2.2.2.2.2.2.2.2.2.2.2.2.2.2.1)
  (case xo26 => exact e21.2.2.2.2.2.2.2.2.2.2.2.2.2.2.2.2.2.2.2.2.2.2.2)
  (case xv26 => exact e22.1)
  (case xm26_10 => exact e22.2.1)
  (case xm26_11 => exact e22.2.2.1)
  (case xm26_12 => exact e22.2.2.2.1)
  (case xm26_13 => exact e22.2.2.2.2.1)
  (case xm26_14 => exact e22.2.2.2.2.2.1)
  (case xm26_15 => exact e22.2.2.2.2.2.2.1)
  (case xm26_16 => exact e22.2.2.2.2.2.2.2.1)
  (case xm26_17 => exact e22.2.2.2.2.2.2.2.2.1)
  (case xm26_18 => exact e22.2.2.2.2.2.2.2.2.2.1)
  (case xm26_19 => exact e22.2.2.2.2.2.2.2.2.2.2.1)
  (case xm26_20 => exact e22.2.2.2.2.2.2.2.2.2.2.2.1)
  (case xm26_21 => exact e22.2.2.2.2.2.2.2.2.2.2.2.2.1)
  (case xm26_22 => exact e22.2.2.2.2.2.2.2.2.2.2.2.2.2.1)
  (case xm26_23 => exact e22.2.2.2.2.2.2.2.2.2.2.2.2.2.2.1)
  (case xm26_24 => exact e22.2.2.2.2.2.2.2.2.2.2.2.2.2.2.2.1)
  (case xm26_25 => exact e22.2.2.2.2.2.2.2.2.2.2.2.2.2.2.2.2.1)
  (case xm26_27 => exact e22.2.2.2.2.2.2.2.2.2.2.2.2.2.2.2.2.2.1)
  (case xm26_28 => exact e22.2.2.2.2.2.2.2.2.2.2.2.2.2.2.2.2.2.2.1)
  (case xk27 => exact e22.2.2.2.2.2.2.2.2.2.2.2.2.2.2.2.2.2.2.2.1)
  (case xf27 => exact e22.2.2.2.2.2.2.2.2.2.2.2.2.2.2.2.2.2.2.2.2.1)
  (case yC27 => exact yC27)
  (case yb27 => exact yb27)
  (case ysa27 => exact e22.2.2.2.2.2.2.2.2.2.2.2.2.2.2.2.2.2.2.2.2.2.1)
  (case yi27 => exact e22.2.2.2.2.2.2.2.2.2.2.2.2.2.2.2.2.2.2.2.2.2.2.1)
  (case yt27 => exact e22.2.2.2.2.2.2.2.2.2.2.2.2.2.2.2.2.2.2.2.2.2.2.2)
  (case yl27 => exact Hq.fn_lc (d := D_TooManyInit) (c.def_ 11) rfl e28.2.2.2.2.2.2.2.2.2.2.2.2.2.2.2.2.2.2.2.2.2.2.2 e29.1)
  (case yc27 => exact e23.1)
  (case yd27 => exact Hq.fl_ok e29.2.2.1)
  (case ye27 => exact Hq.ce_ok e29.2.2.2.1)
  (case yv27 => exact e23.2.1)
  (case yfi27 => exact e23.2.2.1)
  (case yto => exact e23.2.2.2.1)
  (case yop => exact e23.2.2.2.2.1)
  (case ysu27 => exact e23.2.2.2.2.2.1)
  (case ysv27 => exact e23.2.2.2.2.2.2.1)
  (case zsuper => exact e23.2.2.2.2.2.2.2.1)
  (case xb27 => exact e23.2.2.2.2.2.2.2.2.1)
  (case xg27 => exact e23.2.2.2.2.2.2.2.2.2.1)
  (case xh27 => exact e23.2.2.2.2.2.2.2.2.2.2.1)
  (case xd27 => exact e23.2.2.2.2.2.2.2.2.2.2.2.1)
  (case xc27 => exact e23.2.2.2.2.2.2.2.2.2.2.2.2.1)
  (case xo27 => exact e23.2.2.2.2.2.2.2.2.2.2.2.2.2.1)
  (case xv27 => exact e23.2.2.2.2.2.2.2.2.2.2.2.2.2.2.1)
  (case xm27_10 => exact e23.2.2.2.2.2.2.2.2.2.2.2.2.2.2.2.1)
  (case xm27_11 => exact e23.2.2.2.2.2.2.2.2.2.2.2.2.2.2.2.2.1)
  (case xm27_12 => exact e23.2.2.2.2.2.2.2.2.2.2.2.2.2.2.2.2.2.1)
  (case xm27_13 => exact e23.2.2.2.2.2.2.2.2.2.2.2.2.2.2.2.2.2.2.1)
  (case xm27_14 => exact e23.2.2.2.2.2.2.2.2.2.2.2.2.2.2.2.2.2.2.2.1)
  (case xm27_15 => exact e23.2.2.2.2.2.2.2.2.2.2.2.2.2.2.2.2.2.2.2.2.1)
  (case xm27_16 => exact e23.2.2.2.2.2.2.2.2.2.2.2.2.2.2.2.2.2.2.2.2.2.1)
  (case xm27_17 => exact e23.2.2.2.2.2.2.2.2.2.2.2.2.2.2.2.2.2.2.2.2.2.2.1)
  (case xm27_18 => exact e23.2.2.2.2.2.2.2.2.2.2.2.2.2.2.2.2.2.2.2.2.2.2.2)
  (case xm27_19 => exact e24.1)
  (case xm27_20 => exact e24.2.1)
  (case xm27_21 => exact e24.2.2.1)
  (case xm27_22 => exact e24.2.2.2.1)
  (case xm27_23 => exact e24.2.2.2.2.1)
  (case xm27_24 => exact e24.2.2.2.2.2.1)
  (case xm27_25 => exact e24.2.2.2.2.2.2.1)
  (case xm27_26 => exact e24.2.2.2.2.2.2.2.1)
  (case xm27_28 => exact e24.2.2.2.2.2.2.2.2.1)
  (case xk28 => exact e24.2.2.2.2.2.2.2.2.2.1)
  (case xf28 => exact e24.2.2.2.2.2.2.2.2.2.2.1)
  (case yC28 => exact yC28)
  (case yb28 => exact yb28)
  (case ysa28 => exact e24.2.2.2.2.2.2.2.2.2.2.2.1)
  (case yi28 => exact e24.2.2.2.2.2.2.2.2.2.2.2.2.1)
  (case yt28 => exact e24.2.2.2.2.2.2.2.2.2.2.2.2.2.1)
  (case yl28 => exact Hq.fn_lc (d := D_BrokenInit) (c.def_ 12) rfl e29.2.2.2.2.1 e29.2.2.2.2.2.1)
  (case yc28 => exact e24.2.2.2.2.2.2.2.2.2.2.2.2.2.2.1)
  (case yd28 => exact Hq.fl_ok e29.2.2.2.2.2.2.2.1)
  (case ye28 => exact Hq.ce_ok e29.2.2.2.2.2.2.2.2.1)
  (case yv28 => exact e24.2.2.2.2.2.2.2.2.2.2.2.2.2.2.2.1)
  (case yfi28 => exact e24.2.2.2.2.2.2.2.2.2.2.2.2.2.2.2.2.1)
  (case ysu28 => exact e24.2.2.2.2.2.2.2.2.2.2.2.2.2.2.2.2.2.1)
  (case ysv28 => exact e24.2.2.2.2.2.2.2.2.2.2.2.2.2.2.2.2.2.2.1)
  (case xb28 => exact e24.2.2.2.2.2.2.2.2.2.2.2.2.2.2.2.2.2.2.2.1)
  (case xg28 => exact e24.2.2.2.2.2.2.2.2.2.2.2.2.2.2.2.2.2.2.2.2.1)
  (case xh28 => exact e24.2.2.2.2.2.2.2.2.2.2.2.2.2.2.2.2.2.2.2.2.2.1)
  (case xd28 => exact e24.2.2.2.2.2.2.2.2.2.2.2.2.2.2.2.2.2.2.2.2.2.2.1)
  (case xc28 => exact e24.2.2.2.2.2.2.2.2.2.2.2.2.2.2.2.2.2.2.2.2.2.2.2)
  (case xo28 => exact e25.1)
  (case xv28 => exact e25.2.1)
  (case xm28_10 => exact e25.2.2.1)
  (case xm28_11 => exact e25.2.2.2.1)
  (case xm28_12 => exact e25.2.2.2.2.1)
  (case xm28_13 => exact e25.2.2.2.2.2.1)
  (case xm28_14 => exact e25.2.2.2.2.2.2.1)
  (case xm28_15 => exact e25.2.2.2.2.2.2.2.1)
  (case xm28_16 => exact e25.2.2.2.2.2.2.2.2.1)
  (case xm28_17 => exact e25.2.2.2.2.2.2.2.2.2.1)
  (case xm28_18 => exact e25.2.2.2.2.2.2.2.2.2.2.1)
  (case xm28_19 => exact e25.2.2.2.2.2.2.2.2.2.2.2.1)
  (case xm28_20 => exact e25.2.2.2.2.2.2.2.2.2.2.2.2.1)
  (case xm28_21 => exact e25.2.2.2.2.2.2.2.2.2.2.2.2.2.1)
  (case xm28_22 => exact e25.2.2.2.2.2.2.2.2.2.2.2.2.2.2.1)
  (case xm28_23 => exact e25.2.2.2.2.2.2.2.2.2.2.2.2.2.2.2.1)
  (case xm28_24 => exact e25.2.2.2.2.2.2.2.2.2.2.2.2.2.2.2.2.1)
  (case xm28_25 => exact e25.2.2.2.2.2.2.2.2.2.2.2.2.2.2.2.2.2.1)
  (case xm28_26 => exact e25.2.2.2.2.2.2.2.2.2.2.2.2.2.2.2.2.2.2.1)
  (case xm28_27 => exact e25.2.2.2.2.2.2.2.2.2.2.2.2.2.2.2.2.2.2.2.1)
  (case zlen => exact e25.2.2.2.2.2.2.2.2.2.2.2.2.2.2.2.2.2.2.2.2.1)
  (case zrange => exact e25.2.2.2.2.2.2.2.2.2.2.2.2.2.2.2.2.2.2.2.2.2.1)
  (case zisinstance => exact e25.2.2.2.2.2.2.2.2.2.2.2.2.2.2.2.2.2.2.2.2.2.2.1)
  (case ztuple => exact e25.2.2.2.2.2.2.2.2.2.2.2.2.2.2.2.2.2.2.2.2.2.2.2)
  (case zlist => exact e26.1)
  (case zall => exact e26.2.1)
  (case zany => exact e26.2.2.1)
  (case zmax => exact e26.2.2.2.1)
  (case zmin => exact e26.2.2.2.2.1)
  (case zset => exact e26.2.2.2.2.2.1)
  (case zsorted => exact e26.2.2.2.2.2.2.1)
  (case zenumerate => exact e26.2.2.2.2.2.2.2.1)
  (case zzip => exact e26.2.2.2.2.2.2.2.2.1)
  (case zrepr => exact e26.2.2.2.2.2.2.2.2.2.1)
  (case zstr => exact e26.2.2.2.2.2.2.2.2.2.2.1)
  (case zint => exact e26.2.2.2.2.2.2.2.2.2.2.2.1)
  (case zsum => exact e26.2.2.2.2.2.2.2.2.2.2.2.2.1)
  (case zdict => exact e26.2.2.2.2.2.2.2.2.2.2.2.2.2.1)
  (case zbool => exact e26.2.2.2.2.2.2.2.2.2.2.2.2.2.2.1)
  (case vG_FEWEST_VALUES => exact e26.2.2.2.2.2.2.2.2.2.2.2.2.2.2.2.1)
  (case vG_MOST_VALUES => exact e26.2.2.2.2.2.2.2.2.2.2.2.2.2.2.2.2.1)
  (case vG_MOST_BITS => exact e26.2.2.2.2.2.2.2.2.2.2.2.2.2.2.2.2.2.1)
  (case a_law_pen => exact e26.2.2.2.2.2.2.2.2.2.2.2.2.2.2.2.2.2.2.1)
  (case l_law_pen => exact Hq.fn_l (d := D__law_pen) (c.def_ 0) rfl e28.2.2.2.2.2.2.2.2.2.2.2.2.1)
  (case c_law_pen => exact e26.2.2.2.2.2.2.2.2.2.2.2.2.2.2.2.2.2.2.2.1)
  (case k_law_pen => exact e26.2.2.2.2.2.2.2.2.2.2.2.2.2.2.2.2.2.2.2.2.1)
  (case a_law_draw => exact e26.2.2.2.2.2.2.2.2.2.2.2.2.2.2.2.2.2.2.2.2.2.1)
  (case l_law_draw => exact Hq.fn_l (d := D__law_draw) (c.def_ 1) rfl e28.2.2.2.2.2.2.2.2.2.2.2.2.2.1)
  (case c_law_draw => exact e26.2.2.2.2.2.2.2.2.2.2.2.2.2.2.2.2.2.2.2.2.2.2.1)
  (case k_law_draw => exact e26.2.2.2.2.2.2.2.2.2.2.2.2.2.2.2.2.2.2.2.2.2.2.2)
  (case a_law_pick => exact e27.1)
  (case l_law_pick => exact Hq.fn_l (d := D__law_pick) (c.def_ 2) rfl e28.2.2.2.2.2.2.2.2.2.2.2.2.2.2.1)
  (case c_law_pick => exact e27.2.1)
  (case k_law_pick => exact e27.2.2.1)
  (case a_law_cell_at => exact e27.2.2.2.1)
  (case l_law_cell_at => exact Hq.fn_l (d := D__law_cell_at) (c.def_ 3) rfl e28.2.2.2.2.2.2.2.2.2.2.2.2.2.2.2.1)
  (case c_law_cell_at => exact e27.2.2.2.2.1)
  (case k_law_cell_at => exact e27.2.2.2.2.2.1)
  (case a_law_word => exact e27.2.2.2.2.2.2.1)
  (case l_law_word => exact Hq.fn_l (d := D__law_word) (c.def_ 4) rfl e28.2.2.2.2.2.2.2.2.2.2.2.2.2.2.2.2.1)
  (case c_law_word => exact e27.2.2.2.2.2.2.2.1)
  (case k_law_word => exact e27.2.2.2.2.2.2.2.2.1)
  (case ais_between => exact e27.2.2.2.2.2.2.2.2.2.1)
  (case lis_between => exact Hq.fn_l (d := D_is_between) (c.def_ 5) rfl e28.2.2.2.2.2.2.2.2.2.2.2.2.2.2.2.2.2.1)
  (case cis_between => exact e27.2.2.2.2.2.2.2.2.2.2.1)
  (case kis_between => exact e27.2.2.2.2.2.2.2.2.2.2.2.1)
  (case aare_bits => exact e27.2.2.2.2.2.2.2.2.2.2.2.2.1)
  (case lare_bits => exact Hq.fn_l (d := D_are_bits) (c.def_ 6) rfl e28.2.2.2.2.2.2.2.2.2.2.2.2.2.2.2.2.2.2.1)
  (case care_bits => exact e27.2.2.2.2.2.2.2.2.2.2.2.2.2.1)
  (case kare_bits => exact e27.2.2.2.2.2.2.2.2.2.2.2.2.2.2.1)
  (case aare_words => exact e27.2.2.2.2.2.2.2.2.2.2.2.2.2.2.2.1)
  (case lare_words => exact Hq.fn_l (d := D_are_words) (c.def_ 7) rfl e28.2.2.2.2.2.2.2.2.2.2.2.2.2.2.2.2.2.2.2.1)
  (case care_words => exact e27.2.2.2.2.2.2.2.2.2.2.2.2.2.2.2.2.1)
  (case kare_words => exact e27.2.2.2.2.2.2.2.2.2.2.2.2.2.2.2.2.2.1)
  (case aCodeX_initX => exact e27.2.2.2.2.2.2.2.2.2.2.2.2.2.2.2.2.2.2.1)
  (case iCodeX_initX => exact e27.2.2.2.2.2.2.2.2.2.2.2.2.2.2.2.2.2.2.2.1)
  (case lCodeX_initX => exact Hq.fn_l (d := D_CodeX_initX) (c.def_ 8) rfl e28.2.2.2.2.2.2.2.2.2.2.2.2.2.2.2.2.2.2.2.2.1)
  (case cCodeX_initX => exact e27.2.2.2.2.2.2.2.2.2.2.2.2.2.2.2.2.2.2.2.2.1)
  (case kCodeX_initX => exact e27.2.2.2.2.2.2.2.2.2.2.2.2.2.2.2.2.2.2.2.2.2.1)
  (case alaw => exact e27.2.2.2.2.2.2.2.2.2.2.2.2.2.2.2.2.2.2.2.2.2.2.1)
  (case llaw => exact Hq.fn_l (d := D_law) (c.def_ 9) rfl e28.2.2.2.2.2.2.2.2.2.2.2.2.2.2.2.2.2.2.2.2.2.1)
  (case claw => exact e27.2.2.2.2.2.2.2.2.2.2.2.2.2.2.2.2.2.2.2.2.2.2.2)
  (case klaw => exact e28.1)
  (case a_law_said => exact e28.2.1)
  (case l_law_said => exact Hq.fn_l (d := D__law_said) (c.def_ 10) rfl e28.2.2.2.2.2.2.2.2.2.2.2.2.2.2.2.2.2.2.2.2.2.2.1)
  (case c_law_said => exact e28.2.2.1)
  (case k_law_said => exact e28.2.2.2.1)
  (case elaw => exact e28.2.2.2.2.1)
  (case ylaw => exact Hq.flc_ok e29.2.2.2.2.2.2.2.2.2.1 e29.2.2.2.2.2.2.2.2.2.2.1)
  (case yplaw => exact e28.2.2.2.2.2.1)
  (case yqlaw => exact e28.2.2.2.2.2.2.1)
  (case yrlaw => exact e28.2.2.2.2.2.2.2.1)
  (case yslaw => exact e28.2.2.2.2.2.2.2.2.1)
  (case yulaw => exact e28.2.2.2.2.2.2.2.2.2.1)
  (case ywlaw => exact e28.2.2.2.2.2.2.2.2.2.2.1)
  (case ynlaw => exact e28.2.2.2.2.2.2.2.2.2.2.2.1)
  (case yklaw => exact Hq.no_ok e29.2.2.2.2.2.2.2.2.2.2.2)
  (case owlaw => exact c.tb _ (by simp [tpL]))
theorem walk {q : Program} {loose : List Str} {XP : (Str → Option Value) → Heap → Prop} {d : DefRec} (hdf : d.params.defaults = []) (hname : d.name = ("law" : Str))
    (law_true : ∀ ns : List Int, ns.length ≤ 63 → ∃ B, f_law [.scr (ns.map D.int)] [] = .ok (.bool true) B) : PySem.W.WalkO q loose XP (Hq.hookF stg fnL tpL exL).says PySem.Challenge.rw_halfread_k16_exceptions_made.row.toRowW d [] (fun f vs => PySem.call f vs) := by
  refine Hf.walkQ (l := PySem.Challenge.rw_halfread_k16_exceptions_made) (k := 8) (x := "_law_script") (CX := fun w => L2N.CX PySem.Challenge.rw_halfread_k16_exceptions_made.prog w) rfl hdf ⟨rfl, by decide, by decide⟩ hname (fun w mg fa h K KX c G hfa => ?_) ?_
  · obtain ⟨fd, cs, t1, t2, t3, b1, b2⟩ := facts_use (w := w) KX c G hfa
    refine ⟨fd, cs, t1, t2, t3, b1, fun base c1 c2 c3 => ?_⟩
    obtain ⟨g, hg, ht, hF⟩ := b2 base c1 c2 c3
    exact ⟨g, hg, top_promiseT ht hF law_true⟩
  · rintro w H s e s' ⟨_, _, _, _, _, _, _, _, _, _, _, _, z⟩
    exact z.elim
end Hk

set_option Elab.async false
set_option linter.all false
set_option maxRecDepth 100000
namespace Hk
open PySem PySem.Spec PyProof.Rows L2 Hf

/-! ### the pen -/
structure PenOk (B : Bs) (n : Nat) : Prop where
  at_ : ∃ a b c : Int, B[n]? = some (.lst [.int a, .int b, .int c]) ∧ 0 ≤ b ∧ b < 2 ^ 31
structure PenStep (n : Nat) (B B' : Bs) : Prop where
  ok : PenOk B' n
  len : B'.length = B.length
  oth : ∀ m, m ≠ n → B'[m]? = B[m]?
theorem pen_set {B : Bs} {n : Nat} {a b c : Int} {d : D} (h : B[n]? = some d) (h0 : 0 ≤ b) (h1 : b < 2 ^ 31) : PenStep n B (B.set n (.lst [.int a, .int b, .int c])) := by
  have hn : n < B.length := (List.getElem?_eq_some_iff.mp h).1
  refine ⟨⟨a, b, c, by simp [hn], h0, h1⟩, by simp, fun m hm => ?_⟩
  rw [List.getElem?_set_ne (by omega)]
theorem law_draw_ok {B : Bs} {n : Nat} {k : Int} (P : PenOk B n) (h0 : 0 < k) (h1 : k < 1073741824) :
    ∃ (v : Int) (B' : Bs), f__law_draw [.box n, .int k] B = .ok (.int v) B' ∧ 0 ≤ v ∧ v < k ∧ PenStep n B B' := by
  obtain ⟨⟨a, b, c, hB, hb0, hb1⟩⟩ := P
  have hn : n < B.length := (List.getElem?_eq_some_iff.mp hB).1
  by_cases ha : 0 < a
  · refine ⟨a % k, _, ?_, Int.emod_nonneg _ (by omega), Int.emod_lt_of_pos _ h0, pen_set (a := a / k) (b := b) (c := c) hB hb0 hb1⟩
    simp [f__law_draw, m__law_draw, fIx, hB, atI, ha, z_fMod _ _ _ h0, z_fDiv _ _ _ h0 h1, mSetIx, ixN]
  · have e1 : ∀ x : Int, 0 ≤ x % 2147483647 ∧ x % 2147483647 < 2147483647 := fun x => ⟨Int.emod_nonneg _ (by decide), Int.emod_lt_of_pos _ (by decide)⟩
    have e2 : ∀ x : Int, 0 ≤ x % 2147483629 ∧ x % 2147483629 < 2147483629 := fun x => ⟨Int.emod_nonneg _ (by decide), Int.emod_lt_of_pos _ (by decide)⟩
    have w1 : wideB b = true := wide_of (by omega) (by omega)
    have w2 : ∀ x : Int, wideB (x % 2147483647) = true := fun x => wide_of (by have := e1 x; omega) (by have := e1 x; omega)
    have w3 : ∀ x : Int, wideB (x % 2147483629) = true := fun x => wide_of (by have := e2 x; omega) (by have := e2 x; omega)
    have w4 : wideB 1009 = true := by decide
    have w5 : wideB 69621 = true := by decide
    have w6 : wideB 40014 = true := by decide
    obtain ⟨r, hr⟩ : ∃ r, r = (b * 48271 + 1009 * (c + 1) + 7) % 2147483647 := ⟨_, rfl⟩
    obtain ⟨p, hp⟩ : ∃ p, p = (r * r + 69621 * r + 11) % 2147483629 := ⟨_, rfl⟩
    have wr : wideB r = true := hr ▸ w2 _
    have wp : wideB p = true := hp ▸ w3 _
    refine ⟨(p * p + 40014 * p) % 2147483587 / 16 % k, B.set n (.lst [.int a, .int r, .int (c + 1)]), ?_, Int.emod_nonneg _ (by omega), Int.emod_lt_of_pos _ h0, pen_set hB (hr ▸ (e1 _).1) (by have := e1 (b * 48271 + 1009 * (c + 1) + 7); omega)⟩
    have hs : ∀ x, (B.set n x)[n]? = some x := fun x => by simp [hn]
    clear hn
    simp [f__law_draw, m__law_draw, fIx, hB, atI, ha, mSetIx, ixN, hs, z_fMulI, w1, w4, w5, w6, ← hr, wr, ← hp, wp, z_fMod, z_fDiv, h0]
end Hk

set_option Elab.async false
set_option linter.all false
set_option maxRecDepth 100000
namespace Hk
open PySem PySem.Spec PyProof.Rows L2 Hf

@[simp] theorem sz0 : 0 ≤ sizeLine := by decide
@[simp] theorem sz1 : 1 ≤ sizeLine := by decide
@[simp] theorem sz2 : 2 ≤ sizeLine := by decide
@[simp] theorem sz3 : 3 ≤ sizeLine := by decide
@[simp] theorem sz4 : 4 ≤ sizeLine := by decide
/-! ### what is the same of all laws: cells, a pen for each -/
theorem pen_made_ok (c : Int) (B : Bs) : ∃ B', f__law_pen [.int c] B = .ok (.box B.length) B' ∧ PenOk B' B.length := by
  have h0 := Int.emod_nonneg c (show (2147483629 : Int) ≠ 0 by decide)
  have h1 := Int.emod_lt_of_pos c (show (0 : Int) < 2147483629 by decide)
  refine ⟨B ++ [.lst [.int (if c - 10 ^ 18 > 0 then c - 10 ^ 18 else 0), .int (c % 2147483629 + 1), .int 0]], ?_, ⟨(if c - 10 ^ 18 > 0 then c - 10 ^ 18 else 0), c % 2147483629 + 1, 0, by simp, by omega, by omega⟩⟩
  have e : fPow (.int 10) (.int 18) B = .ok (.int (10 ^ 18)) B := rfl
  simp [f__law_pen, m__law_pen, e, mBox, szL, z_fMod]
theorem cell_at_ok (ns : List Int) (k : Nat) (B : Bs) : ∃ c, f__law_cell_at [.scr (ns.map D.int), .int k] B = .ok (.int c) B := by
  by_cases h : k < ns.length
  · refine ⟨ns[k], ?_⟩
    have : (k : Int) < (ns.length : Int) := by omega
    simp [f__law_cell_at, m__law_cell_at, fIx, atI, ixN, h]
  · refine ⟨0, ?_⟩
    have : ¬ (k : Int) < (ns.length : Int) := by omega
    simp [f__law_cell_at, m__law_cell_at, h]
theorem law_outer (inner : Ms) (c N : Nat) (hc : 1 ≤ c ∧ c ≤ 100) (ns : List Int)
    (h : ∀ (n k : Nat) (B : Bs) (r : Sl), r.length = N → PenOk B n → ∃ r' B', r'.length = N ∧ inner (some (false, .scr (ns.map D.int)) :: some (false, .int k) :: some (false, .box n) :: r) B = .next (some (false, .scr (ns.map D.int)) :: some (false, .int k) :: some (false, .box n) :: r') B') (r : Sl) (hr : r.length = N) (B : Bs) :
    ∃ B', (mSeq (mFor (gN 1) (mRng1 (mBin fMax2 (mC (.int 1)) (mBin fMin2 (m1 fLen (mVar 0)) (mC (.int c))))) (mSeq (mSet 2 (mCall f__law_pen [] (mCons (mCall f__law_cell_at [] (mCons (mVar 0) (mCons (mVar 1) mNil))) mNil))) inner)) (mRet (mC (.bool true)))
      (some (false, .scr (ns.map D.int)) :: none :: none :: r) B) = .ret (.bool true) B' := by
  obtain ⟨K, hK⟩ : ∃ K : Nat, (if (if (c : Int) < (ns.length : Int) then (c : Int) else (ns.length : Int)) > 1 then (if (c : Int) < (ns.length : Int) then (c : Int) else (ns.length : Int)) else 1) = (K : Int) ∧ K ≤ 100 :=
    ⟨(if (if (c : Int) < (ns.length : Int) then (c : Int) else (ns.length : Int)) > 1 then (if (c : Int) < (ns.length : Int) then (c : Int) else (ns.length : Int)) else 1).toNat, by split <;> split <;> omega, by split <;> split <;> omega⟩
  obtain ⟨σ', B', e, a, b, r', _, rfl⟩ := forL_inv (t := gN 1) (b := mSeq (mSet 2 (mCall f__law_pen [] (mCons (mCall f__law_cell_at [] (mCons (mVar 0) (mCons (mVar 1) mNil))) mNil))) inner)
    (fun _ σ _ => ∃ a b r, r.length = N ∧ σ = some (false, .scr (ns.map D.int)) :: a :: b :: r) (rngD 0 K) 0 (some (false, .scr (ns.map D.int)) :: none :: none :: r) B (by
      rintro i d σ B hd ⟨a, b, r, hr, rfl⟩
      obtain ⟨rfl, _⟩ := rngD_get hd
      obtain ⟨x, e1⟩ := cell_at_ok ns i B
      obtain ⟨B1, e2, P1⟩ := pen_made_ok x B
      obtain ⟨r', B2, hr', e3⟩ := h B.length i B1 r hr P1
      refine ⟨_, rfl, some (false, .scr (ns.map D.int)) :: some (false, .int i) :: some (false, .box B.length) :: r', B2, ?_, _, _, r', hr', rfl⟩
      simp [e1, e2]
      exact e3) ⟨none, none, r, hr, rfl⟩
  have r4 : rngB (K : Int) = true := by simp [rngB]; omega
  refine ⟨B', ?_⟩
  have s1 : mRng1 (mBin fMax2 (mC (.int 1)) (mBin fMin2 (m1 fLen (mVar 0)) (mC (.int c)))) (some (false, .scr (ns.map D.int)) :: none :: none :: r) B = .ok (rngD 0 K) B := by
    have l : ((ns.map D.int).length : Int) = (ns.length : Int) := by simp
    simp only [z_mRng1, z_mBin, z_mC, z_m1, z_mVar, List.getElem?_cons_zero, z_bind_ok, z_lenS, z_fMin2, z_fMax2, z_asI, l, hK.1, r4, if_true, Int.toNat_natCast]
  simp only [z_mSeq, mFor, s1, z_st_ok, e, z_seq_next, z_mRet, z_mC]
end Hk

set_option Elab.async false
set_option linter.all false
set_option maxRecDepth 100000
set_option maxHeartbeats 8000000
namespace Hk
open PySem PySem.Spec PyProof.Rows L2 Hf
/-! ### k16: exceptions made -/
theorem pick16 {B : Bs} {n : Nat} (P : PenOk B n) {L : List D} (h0 : 0 < L.length) (hl : L.length ≤ 1000) : ∃ d B', f__law_pick [.box n, .lst L] B = .ok d B' ∧ d ∈ L ∧ PenOk B' n := by
  obtain ⟨v, B', e1, v0, v1, S⟩ := law_draw_ok (k := (L.length : Int)) P (by omega) (by omega)
  obtain ⟨j, rfl⟩ : ∃ j : Nat, v = j := ⟨v.toNat, by omega⟩
  have hj : j < L.length := by omega
  have x : fIx (.lst L) (.int j) B' = .ok L[j] B' := by simp [fIx, atI, ixN, hj, okIf]
  have lx : fLen (.lst L) B = .ok (.int (L.length : Nat)) B := by simp
  refine ⟨L[j], B', ?_, List.getElem_mem _, S.ok⟩
  have e0 : f__law_pick [.box n, .lst L] B = (m__law_pick [some (false, .box n), some (false, .lst L)] B).fin := rfl
  rw [e0, m__law_pick]
  generalize D.lst L = l at x lx ⊢
  simp [lx, e1, x]
theorem short16 {m : Int} (h : 0 ≤ m ∧ m < 9000) : (PyData.shown (.int m)).length ≤ 13 := by
  have z : (PyData.int m).intsShort 13 = true := by
    have := intsShortAll_ints2 [m] (fun n hn => by simp at hn; omega)
    simpa [PyData.intsShortAll] using this
  simpa [PyData.intsShort] using z
theorem okS16 (m : Int) : PyData.strOk (PyData.shown (.int m)) = true := by
  unfold PyData.strOk
  rw [Array.all_eq_true_iff_forall_mem]
  intro k hk
  by_cases h : k < 0x110000
  · simpa using h
  · exact absurd (by simpa using hk) (shown_int_free' (k := k) (by omega) m)
theorem strOk_app {a b : Str} (ha : PyData.strOk a = true) (hb : PyData.strOk b = true) : PyData.strOk (a ++ b) = true := by
  unfold PyData.strOk at ha hb ⊢
  show (a.cps ++ b.cps).all _ = true
  rw [Array.all_append, ha, hb]; rfl
theorem eqD_self16 {d : D} (h : (toPy d).canLay0 = true) : eqD d d = true := by
  unfold eqD
  exact PySem.SeqAt.eqv_refl _ h
theorem fNe_self16 {d : D} (h : (toPy d).canLay0 = true) (hs : shp d = true) (B : Bs) : fNe d d B = .ok (.bool false) B := by
  simp [fNe, hs, eqD_self16 h]
abbrev w1 : Ms := (mSet 1 (mLst (mCons (mIsX (fun c => c == 11) (mVar 0)) (mCons (mIsX (fun c => c == 12) (mVar 0)) (mCons (mIsX (fun c => c == 13) (mVar 0)) (mCons (mIsX (fun c => c == 14) (mVar 0)) mNil))))))
abbrev w2 : Ms := (mSet 1 (mBin fAdd (mVar 1) (mLst (mCons (mIsX (fun c => c == 15) (mVar 0)) (mCons (mIsX (fun c => c == 16) (mVar 0)) (mCons (mIsX (fun c => c == 17) (mVar 0)) (mCons (mIsX (fun c => c == 18) (mVar 0)) mNil)))))))
abbrev w3 : Ms := (mSet 1 (mBin fAdd (mVar 1) (mLst (mCons (mIsX (fun c => c == 19) (mVar 0)) (mCons (mIsX (fun c => c == 20) (mVar 0)) (mCons (mIsX (fun c => c == 21) (mVar 0)) (mCons (mIsX (fun c => c == 22) (mVar 0)) mNil)))))))
abbrev w4 : Ms := (mSet 1 (mBin fAdd (mVar 1) (mLst (mCons (mIsX (fun c => c == 23) (mVar 0)) (mCons (mIsX (fun c => c == 24) (mVar 0)) (mCons (mIsX (fun c => c == 25) (mVar 0)) (mCons (mIsX (fun c => c == 26) (mVar 0)) mNil)))))))
abbrev w5 : Ms := (mSet 1 (mBin fAdd (mVar 1) (mLst (mCons (mIsX (fun c => c == 27) (mVar 0)) (mCons (mIsX (fun c => c == 28) (mVar 0)) mNil)))))
abbrev w6 : Ms := (mIf (mOrT (mCmpT fNe (mCntL (mVar 1) (mC (.bool true))) (mC (.int 1))) (mNotT (mT (mIsX (fun _ => true) (mVar 0))))) (mRet (mC (.str (Str.ofString "other")))) mSkip)
abbrev w10 : Ms := (mRet (mIte (mT (mIsX (fun c => c == 28) (mVar 0))) (mBin fAdd (mC (.str (Str.ofString "Broken "))) (m1 fRepr (mXn 28 (mVar 0)))) (mBin fIx (mVar 2) (mIdxL (mVar 1) (mC (.bool true))))))
abbrev v1i : Ei := (mRng1 (mBin fMax2 (mC (.int 1)) (mBin fMin2 (m1 fLen (mVar 0)) (mC (.int 3)))))
abbrev v1b1 : Ms := (mSet 2 (mCall f__law_pen [] (mCons (mCall f__law_cell_at [] (mCons (mVar 0) (mCons (mVar 1) mNil))) mNil)))
abbrev v1b2 : Ms := (mAsg (gT (gsC (gN 7) (gsC (gN 8) gs0))) (mTup (mCons (mCall f__law_pick [] (mCons (mVar 2) (mCons (mLst (mCons (mC (.str (Str.ofString ""))) (mCons (mC (.str (Str.ofString "x"))) (mCons (mC (.str (Str.ofString "no code"))) mNil)))) mNil))) (mCons (mCall f__law_draw [] (mCons (mVar 2) (mCons (mC (.int 9000)) mNil))) mNil))))
abbrev v1b3 : Ms := (mSet 3 (mCall f__law_pick [] (mCons (mVar 2) (mCons (mLst (mCons (mC (.str (Str.ofString "full"))) (mCons (mC (.str (Str.ofString "empty"))) mNil))) mNil))))
abbrev v1b4 : Ms := (mSet 4 (mLst (mCons (mC (.exn 11 [])) (mCons (mC (.exn 12 [])) (mCons (mC (.exn 13 [])) (mCons (mC (.exn 14 [])) (mCons (mC (.exn 15 [])) (mCons (mC (.exn 16 [])) (mCons (mC (.exn 17 [])) (mCons (mC (.exn 18 [])) (mCons (mC (.exn 19 [])) mNil)))))))))))
abbrev v1b5 : Ms := (mSet 4 (mBin fAdd (mVar 4) (mLst (mCons (mC (.exn 20 [])) (mCons (mC (.exn 21 [])) (mCons (mC (.exn 22 [])) (mCons (mC (.exn 23 [])) (mCons (mC (.exn 24 [])) (mCons (mC (.exn 25 [])) (mCons (mC (.exn 26 [])) mNil))))))))))
abbrev v1b6 : Ms := (mSet 4 (mBin fAdd (mVar 4) (mLst (mCons (mExn1 11 (mVar 7)) (mCons (mExn1 12 (mVar 7)) (mCons (mExn1 13 (mVar 7)) (mCons (mExn1 14 (mVar 7)) (mCons (mExn1 15 (mVar 7)) (mCons (mExn1 16 (mVar 7)) mNil)))))))))
abbrev v1b7 : Ms := (mSet 4 (mBin fAdd (mVar 4) (mLst (mCons (mExn1 17 (mVar 7)) (mCons (mExn1 18 (mVar 7)) (mCons (mExn1 19 (mVar 7)) (mCons (mExn1 20 (mVar 7)) (mCons (mExn1 21 (mVar 7)) (mCons (mExn1 22 (mVar 7)) mNil)))))))))
abbrev v1b8 : Ms := (mSet 4 (mBin fAdd (mVar 4) (mLst (mCons (mExn1 23 (mVar 7)) (mCons (mExn1 24 (mVar 7)) (mCons (mExn1 25 (mVar 7)) (mCons (mExn1 26 (mVar 7)) mNil)))))))
abbrev v1b9 : Ms := (mSet 5 (mLst (mCons (mC (.str (Str.ofString "NoWords"))) (mCons (mC (.str (Str.ofString "NoCode"))) (mCons (mC (.str (Str.ofString "NoValue"))) (mCons (mC (.str (Str.ofString "NoWord"))) (mCons (mC (.str (Str.ofString "NoOrder"))) (mCons (mC (.str (Str.ofString "NoPlaces"))) (mCons (mC (.str (Str.ofString "NoText"))) (mCons (mC (.str (Str.ofString "NoSpan"))) (mCons (mC (.str (Str.ofString "NoNumber"))) mNil)))))))))))
abbrev v1b10 : Ms := (mSet 5 (mBin fAdd (mVar 5) (mLst (mCons (mC (.str (Str.ofString "NoBridge"))) (mCons (mC (.str (Str.ofString "NoState"))) (mCons (mC (.str (Str.ofString "NoBeat"))) (mCons (mC (.str (Str.ofString "NoLap"))) (mCons (mC (.str (Str.ofString "NoLook"))) (mCons (mC (.str (Str.ofString "NothingDone"))) (mCons (mC (.str (Str.ofString "TooMuch"))) mNil))))))))))
abbrev v1b11 : Ms := (mIf (mOrT (mCmpT fNe (mLc [9] (gN 9) (mItems (mVar 4)) mYes (mCall f__law_word [] (mCons (mVar 9) mNil))) (mBin fMul (mVar 5) (mC (.int 2)))) (mNotT (mT (m1 fAll (mLc [9] (gN 9) (mItems (mVar 4)) mYes (mIsX (fun _ => true) (mVar 9))))))) (mRet (mC (.bool false))) mSkip)
abbrev v1b12 : Ms := (mSetO 6 (mLst (mCons (mCall f__law_word [] (mCons (mExnF 27 (mVar 8)) mNil)) (mCons (mCall f__law_word [] (mCons (mExnF 27 (mVar 8)) mNil)) (mCons (mCall f__law_word [] (mCons (mExnF 28 (mVar 3)) mNil)) mNil)))))
abbrev v1b13 : Ms := (mApp 6 (mCall f__law_word [] (mCons (mExnF 28 (mVar 3)) mNil)))
abbrev v1b14 : Ms := (mIf (mCmpT fNe (mBor 6) (mBin fAdd (mBin fMul (mLst (mCons (mBin fAdd (mC (.str (Str.ofString "TooMany "))) (m1 fRepr (mVar 8))) mNil)) (mC (.int 2))) (mBin fMul (mLst (mCons (mBin fAdd (mC (.str (Str.ofString "Broken "))) (m1 fRepr (mVar 3))) mNil)) (mC (.int 2))))) (mRet (mC (.bool false))) mSkip)
abbrev v1b15 : Ms := (mIf (mOrT (mNotT (mT (mIsX (fun _ => true) (mExnF 28 (mVar 3))))) (mNotT (mT (mIsX (fun _ => true) (mExnF 27 (mVar 8)))))) (mRet (mC (.bool false))) mSkip)
abbrev v1b16 : Ms := (mSetO 6 (mLst (mCons (mSaid RX (mMake f_CodeX_initX (mCons (mVar 7) mNil))) mNil)))
abbrev v1b17 : Ms := (mApp 6 (mSaid RX (mMake f_CodeX_initX (mCons (mVar 7) (mCons (mVar 7) mNil)))))
abbrev v1b18 : Ms := (mIf (mCmpT fNe (mBor 6) (mBin fMul (mLst (mCons (mC (.str (Str.ofString "! NoWords"))) mNil)) (mC (.int 2)))) (mRet (mC (.bool false))) mSkip)
abbrev v1 : Ms := (mFor (gN 1) v1i (mSeq v1b1 (mSeq v1b2 (mSeq v1b3 (mSeq v1b4 (mSeq v1b5 (mSeq v1b6 (mSeq v1b7 (mSeq v1b8 (mSeq v1b9 (mSeq v1b10 (mSeq v1b11 (mSeq v1b12 (mSeq v1b13 (mSeq v1b14 (mSeq v1b15 (mSeq v1b16 (mSeq v1b17 v1b18))))))))))))))))))
abbrev v2 : Ms := (mRet (mC (.bool true)))
theorem veq : m_law = (mSeq v1 v2) := rfl

theorem log16 {m : Int} (h : 0 ≤ m ∧ m < 9000) : m.natAbs.log2 < 1920 := by
  rcases Nat.eq_zero_or_pos m.natAbs with q | q
  · rw [q]; decide
  · exact Nat.lt_trans ((Nat.log2_lt (by omega)).mpr (show m.natAbs < 2 ^ 14 by omega)) (by decide)
theorem rep16 {m : Int} (h : 0 ≤ m ∧ m < 9000) (B : Bs) : fRepr (.int m) B = .ok (.str (PyData.shown (.int m))) B := by
  simp [fRepr, log16 h]
abbrev t27 (m : Int) : Str := Str.ofString "TooMany " ++ PyData.shown (.int m)
abbrev t28 (s : Str) : Str := Str.ofString "Broken " ++ PyData.shown (.str s)
theorem add27 {m : Int} (h : 0 ≤ m ∧ m < 9000) (B : Bs) : fAdd (.str (Str.ofString "TooMany ")) (.str (PyData.shown (.int m))) B = .ok (.str (t27 m)) B := by
  have l1 := short16 h
  have l2 : (Str.ofString "TooMany ").length = 8 := by decide
  have z := sizeLine_eq
  unfold fAdd
  simp only
  rw [if_pos (by omega)]
theorem word27 {m : Int} (h : 0 ≤ m ∧ m < 9000) (B : Bs) : f__law_word [.exn 27 [.int m]] B = .ok (.str (t27 m)) B := by
  have e : f__law_word [.exn 27 [.int m]] B = ((mRet (mBin fAdd (mC (.str (Str.ofString "TooMany "))) (m1 fRepr (mC (.int m)))) [] B).seq w10).fin := by kernel_rfl
  rw [e]
  have x : mBin fAdd (mC (.str (Str.ofString "TooMany "))) (m1 fRepr (mC (.int m))) [] B = .ok (.str (t27 m)) B := by
    show (fRepr (.int m) B).bind _ = _
    rw [rep16 h]
    exact add27 h B
  show ((Rs.st (mBin fAdd (mC (.str (Str.ofString "TooMany "))) (m1 fRepr (mC (.int m))) [] B) _).seq _).fin = _
  rw [x]
  rfl
theorem word28 {s : Str} (hs : s = Str.ofString "full" ∨ s = Str.ofString "empty") (B : Bs) : f__law_word [.exn 28 [.str s]] B = .ok (.str (t28 s)) B := by
  rcases hs with rfl | rfl <;> kernel_rfl
theorem rep28 {s : Str} (hs : s = Str.ofString "full" ∨ s = Str.ofString "empty") (B : Bs) : fRepr (.str s) B = .ok (.str (PyData.shown (.str s))) B := by
  rcases hs with rfl | rfl <;> kernel_rfl
theorem cat28 {s : Str} (hs : s = Str.ofString "full" ∨ s = Str.ofString "empty") (B : Bs) : fAdd (.str (Str.ofString "Broken ")) (.str (PyData.shown (.str s))) B = .ok (.str (t28 s)) B := by
  rcases hs with rfl | rfl <;> kernel_rfl
theorem ok28 {s : Str} (hs : s = Str.ofString "full" ∨ s = Str.ofString "empty") : PyData.strOk (t28 s) = true := by
  rcases hs with rfl | rfl <;> kernel_rfl
theorem ok27 (m : Int) : PyData.strOk (t27 m) = true := strOk_app (by kernel_rfl) (okS16 m)
/-! the loop's body -/
abbrev exs16 : List D := [.exn 11 [], .exn 12 [], .exn 13 [], .exn 14 [], .exn 15 [], .exn 16 [], .exn 17 [], .exn 18 [], .exn 19 [], .exn 20 [], .exn 21 [], .exn 22 [], .exn 23 [], .exn 24 [], .exn 25 [], .exn 26 [], .exn 11 [], .exn 12 [], .exn 13 [], .exn 14 [], .exn 15 [], .exn 16 [], .exn 17 [], .exn 18 [], .exn 19 [], .exn 20 [], .exn 21 [], .exn 22 [], .exn 23 [], .exn 24 [], .exn 25 [], .exn 26 []]
abbrev nms16 : List D := [.str (Str.ofString "NoWords"), .str (Str.ofString "NoCode"), .str (Str.ofString "NoValue"), .str (Str.ofString "NoWord"), .str (Str.ofString "NoOrder"), .str (Str.ofString "NoPlaces"), .str (Str.ofString "NoText"), .str (Str.ofString "NoSpan"), .str (Str.ofString "NoNumber"), .str (Str.ofString "NoBridge"), .str (Str.ofString "NoState"), .str (Str.ofString "NoBeat"), .str (Str.ofString "NoLap"), .str (Str.ofString "NoLook"), .str (Str.ofString "NothingDone"), .str (Str.ofString "TooMuch")]
theorem mid16 (a b c d e f g i j : Option (Bool × D)) (w : Str) (k : Ms) (B : Bs) : mSeq v1b4 (mSeq v1b5 (mSeq v1b6 (mSeq v1b7 (mSeq v1b8 (mSeq v1b9 (mSeq v1b10 k)))))) [a, b, c, d, e, f, g, some (false, .str w), i, j] B =
    k [a, b, c, d, some (false, .lst exs16), some (false, .lst nms16), g, some (false, .str w), i, j] B := by kernel_rfl
theorem b11_16 (a b c d g h i j : Option (Bool × D)) (B : Bs) : v1b11 [a, b, c, d, some (false, .lst exs16), some (false, .lst nms16), g, h, i, j] B = .next [a, b, c, d, some (false, .lst exs16), some (false, .lst nms16), g, h, i, j] B := by kernel_rfl
theorem said1 (a b c d e f g i j : Option (Bool × D)) {w : Str} (hw : w = Str.ofString "" ∨ w = Str.ofString "x" ∨ w = Str.ofString "no code") (B : Bs) : v1b16 [a, b, c, d, e, f, g, some (false, .str w), i, j] B = .next [a, b, c, d, e, f, some (true, .lst [.str (Str.ofString "! NoWords")]), some (false, .str w), i, j] B := by
  rcases hw with rfl | rfl | rfl <;> kernel_rfl
theorem said2 (a b c d e f i j : Option (Bool × D)) {w : Str} (hw : w = Str.ofString "" ∨ w = Str.ofString "x" ∨ w = Str.ofString "no code") (B : Bs) : v1b17 [a, b, c, d, e, f, some (true, .lst [.str (Str.ofString "! NoWords")]), some (false, .str w), i, j] B = .next [a, b, c, d, e, f, some (true, .lst [.str (Str.ofString "! NoWords"), .str (Str.ofString "! NoWords")]), some (false, .str w), i, j] B := by
  rcases hw with rfl | rfl | rfl <;> kernel_rfl
theorem b18_16 (a b c d e f h i j : Option (Bool × D)) (B : Bs) : v1b18 [a, b, c, d, e, f, some (true, .lst [.str (Str.ofString "! NoWords"), .str (Str.ofString "! NoWords")]), h, i, j] B = .next [a, b, c, d, e, f, some (true, .lst [.str (Str.ofString "! NoWords"), .str (Str.ofString "! NoWords")]), h, i, j] B := by kernel_rfl
theorem b15_16 (a b c e f g h j : Option (Bool × D)) (m : Int) (s : Str) (B : Bs) : v1b15 [a, b, c, some (false, .str s), e, f, g, h, some (false, .int m), j] B = .next [a, b, c, some (false, .str s), e, f, g, h, some (false, .int m), j] B := by kernel_rfl
end Hk

set_option Elab.async false
set_option linter.all false
set_option maxRecDepth 100000
set_option maxHeartbeats 8000000
namespace Hk
open PySem PySem.Spec PyProof.Rows L2 Hf
theorem b2_16 {n : Nat} {w : Str} {m : Int} {B B1 B2 : Bs} (a b d e f g h i j : Option (Bool × D)) (e1 : f__law_pick [.box n, .lst [.str (Str.ofString ""), .str (Str.ofString "x"), .str (Str.ofString "no code")]] B = .ok (.str w) B1)
    (e2 : f__law_draw [.box n, .int 9000] B1 = .ok (.int m) B2) : v1b2 [a, b, some (false, .box n), d, e, f, g, h, i, j] B = .next [a, b, some (false, .box n), d, e, f, g, some (false, .str w), some (false, .int m), j] B2 := by
  simp [v1b2, mAsg, szL, e1, e2]
theorem b3_16 {n : Nat} {s : Str} {B B1 : Bs} (a b d e f g h i j : Option (Bool × D)) (e1 : f__law_pick [.box n, .lst [.str (Str.ofString "full"), .str (Str.ofString "empty")]] B = .ok (.str s) B1) :
    v1b3 [a, b, some (false, .box n), d, e, f, g, h, i, j] B = .next [a, b, some (false, .box n), some (false, .str s), e, f, g, h, i, j] B1 := by
  simp [v1b3, szL, e1]
theorem b12_16 {m : Int} {s : Str} (hm : 0 ≤ m ∧ m < 9000) (hs : s = Str.ofString "full" ∨ s = Str.ofString "empty") (a b c e f g h j : Option (Bool × D)) (B : Bs) :
    v1b12 [a, b, c, some (false, .str s), e, f, g, h, some (false, .int m), j] B = .next [a, b, c, some (false, .str s), e, f, some (true, .lst [.str (t27 m), .str (t27 m), .str (t28 s)]), h, some (false, .int m), j] B := by
  simp [v1b12, mExnF, szL, word27 hm, word28 hs]
theorem b13_16 {m : Int} {s : Str} (hs : s = Str.ofString "full" ∨ s = Str.ofString "empty") (a b c e f h i j : Option (Bool × D)) (B : Bs) :
    v1b13 [a, b, c, some (false, .str s), e, f, some (true, .lst [.str (t27 m), .str (t27 m), .str (t28 s)]), h, i, j] B = .next [a, b, c, some (false, .str s), e, f, some (true, .lst [.str (t27 m), .str (t27 m), .str (t28 s), .str (t28 s)]), h, i, j] B := by
  have z : 3 < sizeLine := by decide
  simp [v1b13, mApp, upO, mExnF, szL, word28 hs, z]
theorem told16 (x y : Str) (hx : PyData.strOk x = true) (hy : PyData.strOk y = true) (B : Bs) : fNe (.lst [.str x, .str x, .str y, .str y]) (.lst [.str x, .str x, .str y, .str y]) B = .ok (.bool false) B :=
  fNe_self16 (by simp [toPy, toPys, PyData.canLay0, PyData.canLayAll0, hx, hy]) (by simp [shp, SeqAt.shaped, toPy, toPys, PyData.canLay0, PyData.canLayAll0, PyData.depth, PyData.depthAll, hx, hy]) B
theorem b14_16 {m : Int} {s : Str} (hm : 0 ≤ m ∧ m < 9000) (hs : s = Str.ofString "full" ∨ s = Str.ofString "empty") (a b c e f h j : Option (Bool × D)) (B : Bs) :
    v1b14 [a, b, c, some (false, .str s), e, f, some (true, .lst [.str (t27 m), .str (t27 m), .str (t28 s), .str (t28 s)]), h, some (false, .int m), j] B =
      .next [a, b, c, some (false, .str s), e, f, some (true, .lst [.str (t27 m), .str (t27 m), .str (t28 s), .str (t28 s)]), h, some (false, .int m), j] B := by
  have r1 := rep16 hm B
  have r2 := add27 hm B
  have r3 := rep28 hs B
  have r4 := cat28 hs B
  have o1 := ok27 m
  have o2 := ok28 hs
  generalize t27 m = x at *
  generalize t28 s = y at *
  have m1 : ∀ z : Str, fMul (.lst [.str z]) (.int 2) B = .ok (.lst [.str z, .str z]) B := fun z => rfl
  have m2 : fAdd (.lst [.str x, .str x]) (.lst [.str y, .str y]) B = .ok (.lst [.str x, .str x, .str y, .str y]) B := by kernel_rfl
  have t := told16 x y o1 o2 B
  simp [-z_fReprI, v1b14, mBor, szL, r1, r2, r3, r4, m1, m2, t]
theorem word3 {d : D} (h : d ∈ ([.str (Str.ofString ""), .str (Str.ofString "x"), .str (Str.ofString "no code")] : List D)) : ∃ w : Str, d = .str w ∧ (w = Str.ofString "" ∨ w = Str.ofString "x" ∨ w = Str.ofString "no code") := by
  simp only [List.mem_cons, List.not_mem_nil, or_false] at h
  rcases h with rfl | rfl | rfl
  · exact ⟨_, rfl, .inl rfl⟩
  · exact ⟨_, rfl, .inr (.inl rfl)⟩
  · exact ⟨_, rfl, .inr (.inr rfl)⟩
theorem sort2 {d : D} (h : d ∈ ([.str (Str.ofString "full"), .str (Str.ofString "empty")] : List D)) : ∃ s : Str, d = .str s ∧ (s = Str.ofString "full" ∨ s = Str.ofString "empty") := by
  simp only [List.mem_cons, List.not_mem_nil, or_false] at h
  rcases h with rfl | rfl
  · exact ⟨_, rfl, .inl rfl⟩
  · exact ⟨_, rfl, .inr rfl⟩
theorem nx {m1 m2 : Ms} {σ σ' : Sl} {B B' : Bs} (h : m1 σ B = .next σ' B') : mSeq m1 m2 σ B = m2 σ' B' := by
  show (m1 σ B).seq m2 = _
  rw [h]
  rfl
abbrev tl16 : Ms := mSeq v1b11 (mSeq v1b12 (mSeq v1b13 (mSeq v1b14 (mSeq v1b15 (mSeq v1b16 (mSeq v1b17 v1b18))))))
theorem inner16 (ns : List Int) (n k : Nat) (B : Bs) (r : Sl) (hr : r.length = 7) (P : PenOk B n) :
    ∃ r' B', r'.length = 7 ∧ (mSeq v1b2 (mSeq v1b3 (mSeq v1b4 (mSeq v1b5 (mSeq v1b6 (mSeq v1b7 (mSeq v1b8 (mSeq v1b9 (mSeq v1b10 tl16))))))))) (some (false, .scr (ns.map D.int)) :: some (false, .int k) :: some (false, .box n) :: r) B =
      .next (some (false, .scr (ns.map D.int)) :: some (false, .int k) :: some (false, .box n) :: r') B' := by
  match r, hr with
  | [a3, a4, a5, a6, a7, a8, a9], _ =>
    obtain ⟨d, B1, e1, hd, P1⟩ := pick16 P (L := [.str (Str.ofString ""), .str (Str.ofString "x"), .str (Str.ofString "no code")]) (by decide) (by decide)
    obtain ⟨w, rfl, hw⟩ := word3 hd
    obtain ⟨m, B2, e2, m0, m1, S2⟩ := law_draw_ok (k := 9000) P1 (by decide) (by decide)
    obtain ⟨d, B3, e3, hd, P3⟩ := pick16 S2.ok (L := [.str (Str.ofString "full"), .str (Str.ofString "empty")]) (by decide) (by decide)
    obtain ⟨s, rfl, hs⟩ := sort2 hd
    refine ⟨[some (false, .str s), some (false, .lst exs16), some (false, .lst nms16), some (true, .lst [.str (Str.ofString "! NoWords"), .str (Str.ofString "! NoWords")]), some (false, .str w), some (false, .int m), a9], B3, rfl, ?_⟩
    rw [nx (b2_16 _ _ _ _ _ _ _ _ _ e1 e2), nx (b3_16 _ _ _ _ _ _ _ _ _ e3), mid16, tl16, nx (b11_16 _ _ _ _ _ _ _ _ _), nx (b12_16 ⟨m0, m1⟩ hs _ _ _ _ _ _ _ _ _), nx (b13_16 hs _ _ _ _ _ _ _ _ _), nx (b14_16 ⟨m0, m1⟩ hs _ _ _ _ _ _ _ _), nx (b15_16 _ _ _ _ _ _ _ _ _ _ _), nx (said1 _ _ _ _ _ _ _ _ _ hw _), nx (said2 _ _ _ _ _ _ _ _ hw _), b18_16]
theorem law_true (ns : List Int) (hl : ns.length ≤ 63) : ∃ B, f_law [.scr (ns.map D.int)] [] = .ok (.bool true) B := by
  obtain ⟨B', e⟩ := law_outer (c := 3) (N := 7) (hc := by decide) (ns := ns) (inner := _) (h := fun n k B r hr P => inner16 ns n k B r hr P) (List.replicate 7 none) rfl []
  refine ⟨B', ?_⟩
  have e2 : f_law [.scr (ns.map D.int)] [] = (m_law (some (false, .scr (ns.map D.int)) :: none :: none :: List.replicate 7 none) []).fin := rfl
  rw [e2, veq]
  exact congrArg Ss.fin e
end Hk

open PySem PySem.W PyProof.Rows
set_option maxRecDepth 100000 in
set_option maxHeartbeats 0 in
theorem PySem.Challenge.cw_halfread_k16_exceptions_made_holds : PySem.Challenge.rw_halfread_k16_exceptions_made.Holds := by
  w_on; o_law
  refine HandSHeadRun.head_any (r := PySem.W.OpenLaw.row PySem.Challenge.rw_halfread_k16_exceptions_made) (q := Hk.qv) (H := Hk.hk) (ob := Hk.ob) (M := 12000) (loose := Hk.names) (d := HandSHeadRun.topDef (PySem.W.OpenLaw.row PySem.Challenge.rw_halfread_k16_exceptions_made).prog 42) (kwd := []) Hq.obF_eq
    (by kernel_rfl) (fun s => by kernel_rfl) Hk.run (by kernel_rfl) (by kernel_rfl) (by kernel_rfl) (by rfl) (by first | assumption | decide +kernel) (by decide +kernel) ⟨rfl, rfl, rfl, rfl, rfl, by decide +kernel⟩ ?hw ?hc
  case hw => w_witness2
  case hc => exact Hk.walk (by kernel_rfl) (by kernel_rfl) Hk.law_true


