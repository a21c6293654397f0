import PyProof.Rows.All
import KE.KDictKeyed
import HandS.ForMost
import HandS.WordsExc
import HandS.Lambda
import HandS.HotCalls
import HandS.Star
import HandS.TupAny
import HandS.TupMul
import HandS.Deep
import HandS.Flow
import HandS.IsInst
import KE.GoesNew
import HandS.Property
import HandS.ClsMeth
import HandS.TupSets
import PyProof.WalksMore
import PyProof.TupleIter
import HandS.SortInts
import HandS.Text
import HandS.Strs
import HandS.Conv
import HandS.Style
import PyProof.TupleOfSeq
import PyProof.Rows.StrStep
import PyProof.SliceStr2
import HandS.DictComp
import KE.KOpsOwn
import OpenK.KMeth
import PyProof.ReprRoads
import HandS.EndBits
import HandS.Defaults
import HandS.MakeKwOnly
import HandS.MakeKw
import KE.SortData
import KE.KTupSum
import HandS.ExcIs
import HandS.ExcCtx
import HandS.EndOwn
import HandS.FStr
import PyProof.NeKinds
import HandS.OwnEq
import PyProof.P3Eq
import HandS.StrMore
import HandS.SetTxt0
import HandS.ExcValue
import PySem.Challenge.RW_halfread_k30_single_codes_made
set_option Elab.async false
set_option linter.all false
set_option maxRecDepth 100000
set_option maxHeartbeats 4000000
namespace Hf
open PySem L2

/-- pure data -/
inductive D where
  | none | bool (b : Bool) | int (i : Int) | str (s : Str)
  | tup (ds : List D) | lst (ds : List D) | scr (ds : List D) | prs (ds : List D) | dct (ks vs : List D) | inst (c : Nat) (ds : List D) | box (n : Nat) | cls (c : Nat)
  /-- a bare address: an exception that is handled -/
  | ptr (a : Addr)
  /-- a dict of one entry, numbers -/
  | kd (k x : Int)
  /-- a lambda of the text that captures nothing -/
  | fnT (k : Nat)
  deriving Inhabited

abbrev Sl := List (Option (Bool × D))
abbrev Bs := List D

inductive Rs (α : Type) where
  | ok (a : α) (B : Bs) | exc (c : Nat) (x : Option D) (B : Bs) | bad
def Rs.bind {α β : Type} (m : Rs α) (f : α → Bs → Rs β) : Rs β := match m with
  | .ok a B => f a B
  | .exc c x B => .exc c x B
  | .bad => .bad
abbrev Ev := Sl → Bs → Rs D
abbrev Evs := Sl → Bs → Rs (List D)
abbrev Fn := List D → Bs → Rs D

/-- the names of the fields of the classes -/
def fldN : Nat → List Str
  | 0 => ["row", "known"]
  | 1 => ["own", "seen"]
  | 2 => ["own_bridge", "past"]
  | 3 => ["own_bridge", "past", "limit"]
  | 4 => ["own_bridge", "past"]
  | 5 => ["own_bridge", "past", "limit"]
  | _ => []
/-- the name of the one field of an exception -/
def excF : Nat → Str
  | 27 => "limit"
  | _ => "kind"

/-- a lambda of the text -/
structure LamI where
  q : Str
  prm : Arguments
  bd : Expr
  sc : Scope
/-- one object, as it is -/
def ObE (a : Addr) (o : Obj) : HO := .ext fun h => h.get? a = some o
structure Gs where
  prog : Program
  w : World
  base : Heap
  K : PySem.W.Frag
  mg : Str → Option Value
  cl : Nat → Addr
  has : Nat → Bool
  /-- the tables of the defs that hold lambdas -/
  tabs : List (Addr × Str) := []
  /-- the lambdas that are values -/
  lam : Nat → LamI
structure Wd where
  P : Hp
  io : Nat → Option Addr
  /-- in an __init__: where the instance stands that is being made -/
  me : Option Addr := Option.none

/-! data as a key -/
mutual
def nkD : D → Option NestedKey
  | .none => some .none
  | .bool b => some (.num (if b = true then 1 else 0))
  | .int i => some (.num i)
  | .str x => some (.text x)
  | .tup ds => (nksD ds).map .tup
  | _ => Option.none
def nksD : List D → Option (List NestedKey)
  | [] => some []
  | d :: ds => match nkD d, nksD ds with
    | some k, some ks => some (k :: ks)
    | _, _ => Option.none
end
/-- a dict's object: its keys with their addresses and values -/
def dctO (g : Gs) (a : Addr) (xs : List (NestedKey × Addr × V)) : HO := .ext fun h => (a == sysModules) = false ∧ xs.length ≤ sizeLine ∧ (∀ p ∈ xs, p.1.depth ≤ 8) ∧ (xs.map (·.1)).Nodup ∧
  ∃ ys : List (NestedKey × Addr × Value), Paired (fun p q => p.1 = q.1 ∧ p.2.1 = q.2.1 ∧ RelV p.2.2 q.2.2) xs ys ∧ ∃ o es ep, h.get? a = some o ∧ o.ExactDict ∧ o.data = .dict es ep ∧ es.toList = ys.map (entryOfKey (nestedKind g.prog g.w))

/-- a tuple of which no dict is known to hang -/
def SqN (K : PySem.W.Frag) (H : Hp) (a : Addr) (xs : List V) : Prop :=
  (∃ o : Obj, H a = some (.frz o (.tup xs)) ∧ o.dict = Option.none) ∨
    ∃ (o : Obj) (us : Array Value) (j : Nat), K.lookup a = some o ∧ o.cls = .type "tuple" ∧ o.dict = Option.none ∧ o.data = .seq us j ∧ us.size ≤ sizeLine ∧ Vals xs us.toList
theorem SqN.T {K : PySem.W.Frag} {H : Hp} {a : Addr} {xs : List V} (h : SqN K H a xs) : SqT K H a xs := by
  rcases h with ⟨o, h, _⟩ | ⟨o, us, j, h1, h2, _, h4⟩
  · exact .inl (.inr ⟨o, h⟩)
  · exact .inr ⟨o, us, j, h1, h2, h4⟩
mutual
def Rep (g : Gs) (w : Wd) : D → V → Prop
  | .none, v => v = .non
  | .bool b, v => v = .bl b
  | .int i, v => v = .int i
  | .str s, v => v = .str s
  | .tup ds, v => ∃ a vs, v = .ref a ∧ SqN g.K w.P a vs ∧ Reps g w ds vs
  | .prs ds, v => ∃ a vs, v = .ref a ∧ SqT g.K w.P a vs ∧ Reps g w ds vs
  | .lst ds, v => ∃ a vs, v = .ref a ∧ w.P a = some (.lst vs) ∧ Reps g w ds vs
  | .scr ds, v => ∃ a vs, v = .ref a ∧ SqL g.K w.P a vs ∧ Reps g w ds vs
  | .dct ks ds, v => ∃ a xs, v = .ref a ∧ w.P a = some (dctO g a xs) ∧ ks.map nkD = xs.map (fun p => some p.1) ∧ Reps g w ks (xs.map fun p => V.ref p.2.1) ∧ Reps g w ds (xs.map fun p => p.2.2)
  | .inst c ds, v => ∃ a dx vs, v = .ref a ∧ w.P a = some (.ins (g.cl c) dx ((fldN c).zip vs)) ∧ ds.length = (fldN c).length ∧ g.has c = true ∧ Reps g w ds vs
  | .box n, v => ∃ a, v = .ref a ∧ w.io n = some a
  | .cls c, v => v = .ref (g.cl c) ∧ g.has c = true
  | .ptr a, v => v = .ref a
  | .kd k x, v => ∃ a, v = .ref a ∧ w.P a = some (.dK [(.inl k, .int x)])
  | .fnT k, v => ∃ (a c' : Addr) (pm ct : Value), v = .ref a ∧ w.P a = some (ObE a (PySem.W.kla_obj "<lambda>" (g.lam k).q (g.lam k).prm (g.lam k).bd (g.lam k).sc [] pm c' ct)) ∧ w.P c' = some (LamX.CodeO c' (g.lam k).q)
def Reps (g : Gs) (w : Wd) : List D → List V → Prop
  | [], vs => vs = []
  | d :: ds, vs => ∃ v us, vs = v :: us ∧ Rep g w d v ∧ Reps g w ds us
end

/-- what stands at the address of a container -/
def Cont (g : Gs) (w : Wd) : D → Addr → HO → Prop
  | .lst ds, _, o => ∃ vs, o = .lst vs ∧ Reps g w ds vs
  | .dct ks ds, a, o => ∃ xs, o = dctO g a xs ∧ ks.map nkD = xs.map (fun p => some p.1) ∧ Reps g w ks (xs.map fun p => V.ref p.2.1) ∧ Reps g w ds (xs.map fun p => p.2.2)
  | .inst c ds, _, o => ∃ dx vs, o = .ins (g.cl c) dx ((fldN c).zip vs) ∧ ds.length ≤ (fldN c).length ∧ g.has c = true ∧ Reps g w ds vs
  | _, _, _ => False

/-- no table, no code object -/
structure Nt (o : HO) : Prop where
  t : ∀ ps, o ≠ .tbl ps
  c : ∀ a q, o ≠ LamX.CodeO a q
def filO (c : Addr) (o1 o2 : Obj) : Heap := ⟨(Array.replicate c o1).push o2, {}⟩
theorem filO_at (c : Addr) (vs ws : Array Value) (a : Addr) (o : Obj) (h : (filO c { cls := .none, data := .fields vs } { cls := .none, data := .fields ws }).get? a = some o) : ∃ us, o.data = .fields us := by
  have hx : ∀ x, ((Array.replicate c ({ cls := .none, data := .fields vs } : Obj)).push { cls := .none, data := .fields ws })[a]? = some x → ∃ us, x.data = .fields us := fun x hx => by
    simp only [Array.getElem?_push, Array.size_replicate, Array.getElem?_replicate] at hx
    split at hx
    · cases hx; exact ⟨_, rfl⟩
    · split at hx
      · cases hx; exact ⟨_, rfl⟩
      · cases hx
  unfold filO Heap.get? at h
  simp only at h
  revert h
  cases e : ((Array.replicate c ({ cls := .none, data := .fields vs } : Obj)).push { cls := .none, data := .fields ws })[a]? with
  | none => intro h; cases h
  | some x =>
    obtain ⟨us, hu⟩ := hx x e
    obtain ⟨c1, d1, da, sl⟩ := x
    simp only at hu
    subst hu
    intro h
    cases h
    exact ⟨us, rfl⟩
theorem filO_c (c : Addr) (vs ws : Array Value) : (filO c { cls := .none, data := .fields vs } { cls := .none, data := .fields ws }).get? c = some { cls := .none, data := .fields ws } := by
  simp only [filO, Heap.get?, Array.getElem?_push, Array.size_replicate, if_true]
theorem codeO_dct (g : Gs) (a c : Addr) (xs : List (NestedKey × Addr × V)) (q : Str) : dctO g a xs ≠ LamX.CodeO c q := fun e => by
  unfold dctO LamX.CodeO at e
  have e := HO.ext.inj e
  have h1 := congrFun e (filO c { cls := .none, data := .fields #[] } { cls := .none, data := .fields #[.none, .str q default] })
  have h2 := h1.symm.mp ⟨_, _, default, filO_c c _ _, rfl, rfl⟩
  obtain ⟨_, _, _, _, ys, _, o, es, ep, hg, _, hd, _⟩ := h2
  obtain ⟨us, hu⟩ := filO_at _ _ _ _ _ hg
  rw [hu] at hd
  cases hd
theorem nt_lst (xs : List V) : Nt (.lst xs) := ⟨fun ps e => (nomatch e), fun a q e => by unfold LamX.CodeO at e; cases e⟩
theorem nt_ins (C dx : Addr) (xs : List (Str × V)) : Nt (.ins C dx xs) := ⟨fun ps e => (nomatch e), fun a q e => by unfold LamX.CodeO at e; cases e⟩
theorem nt_dct (g : Gs) (a : Addr) (xs : List (NestedKey × Addr × V)) : Nt (dctO g a xs) := ⟨fun ps e => (by unfold dctO at e; cases e), fun c q => codeO_dct g a c xs q⟩
theorem Cont.nt {g : Gs} {w : Wd} : ∀ {d : D} {a : Addr} {o : HO}, Cont g w d a o → Nt o := by
  intro d a o h
  cases d <;> simp only [Cont] at h
  · obtain ⟨vs, rfl, _⟩ := h; exact nt_lst vs
  · obtain ⟨xs, rfl, _⟩ := h; exact nt_dct g a xs
  · obtain ⟨dx, vs, rfl, _⟩ := h; exact nt_ins _ _ _
/-- what is no table and no code object may change -/
theorem tabs_upd {T : List (Addr × Str)} {H : Hp} {a : Addr} {o : HO} (t : LamX.Tabs T H) (h : ∀ u, H a = some u → Nt u) : LamX.Tabs T (upd H a o) := fun p hp => by
  obtain ⟨ps, h1, h2, h3⟩ := t p hp
  have na : ∀ b u, H b = some u → ¬ Nt u → b ≠ a := fun b u e n z => n (h u (z ▸ e))
  refine ⟨ps, by rw [upd_ne (na _ _ h1 fun z => z.t ps rfl)]; exact h1, h2, fun pos cv hc => ?_⟩
  obtain ⟨c, e1, e2⟩ := h3 pos cv hc
  exact ⟨c, e1, by rw [upd_ne (na _ _ e2 fun z => z.c _ _ rfl)]; exact e2⟩
structure Le (w w' : Wd) : Prop where
  P : Same w.P w'.P
  io : ∀ n a, w.io n = some a → w'.io n = some a
theorem Le.refl (w : Wd) : Le w w := ⟨Same.refl _, fun _ _ h => h⟩
theorem Le.trans {a b c : Wd} (x : Le a b) (y : Le b c) : Le a c := ⟨x.P.trans y.P, fun n p h => y.io n p (x.io n p h)⟩

theorem sqT_mono {K : PySem.W.Frag} {H H' : Hp} {a : Addr} {vs : List V} (e : Same H H') (h : SqT K H a vs) : SqT K H' a vs := by
  rcases h with (h | ⟨o, h⟩) | h
  · exact .inl (.inl (e _ _ h))
  · exact .inl (.inr ⟨o, e _ _ h⟩)
  · exact .inr h

theorem sqN_mono {K : PySem.W.Frag} {H H' : Hp} {a : Addr} {vs : List V} (e : Same H H') (h : SqN K H a vs) : SqN K H' a vs := by
  rcases h with ⟨o, h, hd⟩ | h
  · exact .inl ⟨o, e _ _ h, hd⟩
  · exact .inr h
mutual
theorem Rep.mono {g : Gs} {w w' : Wd} (l : Le w w') : ∀ (d : D) (v : V), Rep g w d v → Rep g w' d v
  | .none, v, h => by simpa only [Rep] using h
  | .bool b, v, h => by simpa only [Rep] using h
  | .int b, v, h => by simpa only [Rep] using h
  | .str b, v, h => by simpa only [Rep] using h
  | .tup ds, v, h => by
    simp only [Rep] at h ⊢
    obtain ⟨a, vs, e, q, r⟩ := h
    exact ⟨a, vs, e, sqN_mono l.P q, Reps.mono l ds vs r⟩
  | .prs ds, v, h => by
    simp only [Rep] at h ⊢
    obtain ⟨a, vs, e, q, r⟩ := h
    exact ⟨a, vs, e, sqT_mono l.P q, Reps.mono l ds vs r⟩
  | .lst ds, v, h => by
    simp only [Rep] at h ⊢
    obtain ⟨a, vs, e, q, r⟩ := h
    exact ⟨a, vs, e, l.P _ _ q, Reps.mono l ds vs r⟩
  | .scr ds, v, h => by
    simp only [Rep] at h ⊢
    obtain ⟨a, vs, e, q, r⟩ := h
    exact ⟨a, vs, e, l.P.seq q, Reps.mono l ds vs r⟩
  | .dct ks ds, v, h => by
    simp only [Rep] at h ⊢
    obtain ⟨a, xs, e, q, q2, r1, r⟩ := h
    exact ⟨a, xs, e, l.P _ _ q, q2, Reps.mono l ks _ r1, Reps.mono l ds _ r⟩
  | .inst c ds, v, h => by
    simp only [Rep] at h ⊢
    obtain ⟨a, dx, vs, e, q, q1, q2, r⟩ := h
    exact ⟨a, dx, vs, e, l.P _ _ q, q1, q2, Reps.mono l ds vs r⟩
  | .box n, v, h => by
    simp only [Rep] at h ⊢
    obtain ⟨a, e, q⟩ := h
    exact ⟨a, e, l.io _ _ q⟩
  | .cls c, v, h => by simpa only [Rep] using h
  | .ptr c, v, h => by simpa only [Rep] using h
  | .kd k x, v, h => by
    simp only [Rep] at h ⊢
    obtain ⟨a, e, q⟩ := h
    exact ⟨a, e, l.P _ _ q⟩
  | .fnT k, v, h => by
    simp only [Rep] at h ⊢
    obtain ⟨a, c', pm, ct, e, q, q2⟩ := h
    exact ⟨a, c', pm, ct, e, l.P _ _ q, l.P _ _ q2⟩
theorem Reps.mono {g : Gs} {w w' : Wd} (l : Le w w') : ∀ (ds : List D) (vs : List V), Reps g w ds vs → Reps g w' ds vs
  | [], vs, h => by simpa only [Reps] using h
  | d :: ds, vs, h => by
    simp only [Reps] at h ⊢
    obtain ⟨v, us, e, r, rs⟩ := h
    exact ⟨v, us, e, Rep.mono l d v r, Reps.mono l ds us rs⟩
end
theorem Cont.mono {g : Gs} {w w' : Wd} (l : Le w w') : ∀ {d : D} {a : Addr} {o : HO}, Cont g w d a o → Cont g w' d a o := by
  intro d a o h
  cases d <;> simp only [Cont] at h ⊢
  · obtain ⟨vs, e, r⟩ := h; exact ⟨vs, e, Reps.mono l _ _ r⟩
  · obtain ⟨xs, e, q2, r1, r⟩ := h; exact ⟨xs, e, q2, Reps.mono l _ _ r1, Reps.mono l _ _ r⟩
  · obtain ⟨dx, vs, e, q, q2, r⟩ := h; exact ⟨dx, vs, e, q, q2, Reps.mono l _ _ r⟩

structure RB (g : Gs) (w : Wd) (B : Bs) (H : Hp) : Prop where
  sub : Same w.P H
  get : ∀ n b, B[n]? = some b → ∃ a o, w.io n = some a ∧ H a = some o ∧ Cont g w b a o
  inj : ∀ n m a, w.io n = some a → w.io m = some a → n = m
  np : ∀ n a, w.io n = some a → w.P a = Option.none
  dom : ∀ n a, w.io n = some a → n < B.length
  tb : LamX.Tabs g.tabs H
  nt : ∀ b ps, w.P b ≠ some (.tbl ps)
structure Ext (w : Wd) (H : Hp) (w' : Wd) (H' : Hp) : Prop where
  le : Le w w'
  keep : ∀ b o, H b = some o → (∀ n, w.io n ≠ some b) → (∀ ps, o ≠ .tbl ps) → H' b = some o
  pf : ∀ b o, w'.P b = some o → w.P b = some o ∨ H b = Option.none ∨ ∃ q, o = LamX.CodeO b q
  iof : ∀ n a, w'.io n = some a → w.io n = some a ∨ H a = Option.none
  there : ∀ b, H b ≠ Option.none → H' b ≠ Option.none
  me : w'.me = w.me
theorem Ext.refl (w : Wd) (H : Hp) : Ext w H w H := ⟨Le.refl _, fun _ _ h _ _ => h, fun _ _ h => .inl h, fun _ _ h => .inl h, fun _ h => h, rfl⟩
theorem Ext.trans {a b c : Wd} {H H1 H2 : Hp} (x : Ext a H b H1) (y : Ext b H1 c H2) : Ext a H c H2 where
  le := x.le.trans y.le
  keep := fun p o h hn ht => y.keep p o (x.keep p o h hn ht) (fun n e => by
    rcases x.iof n p e with z | z
    · exact hn n z
    · rw [h] at z; cases z) ht
  pf := fun p o h => by
    rcases y.pf p o h with z | z | z
    · exact x.pf p o z
    · refine .inr (.inl (Classical.byContradiction fun q => x.there p q z))
    · exact .inr (.inr z)
  iof := fun n p h => by
    rcases y.iof n p h with z | z
    · exact x.iof n p z
    · refine .inr (Classical.byContradiction fun q => x.there p q z)
  there := fun p h => y.there p (x.there p h)
  me := y.me.trans x.me

structure S0 (g : Gs) (H0 : Hp) (w : Wd) (σI : Sl) (B : Bs) (σ : L2.St) (H : Hp) : Prop where
  rb : RB g w B H
  len : σI.length = σ.length
  sl : ∀ (i : Nat) (d : D), σI[i]? = some (some (false, d)) → ∃ v, σ[i]? = some (some v) ∧ Rep g w d v
  ow : ∀ (i : Nat) (d : D), σI[i]? = some (some (true, d)) → ∃ a o, σ[i]? = some (some (.ref a)) ∧ H a = some o ∧ Cont g w d a o ∧ w.P a = Option.none ∧ (∀ n, w.io n ≠ some a) ∧ H0 a = Option.none
  oi : ∀ (i j : Nat) (d e : D) (a : Addr), σI[i]? = some (some (true, d)) → σI[j]? = some (some (true, e)) → σ[i]? = some (some (.ref a)) → σ[j]? = some (some (.ref a)) → i = j
  me : ∀ (i c : Nat) (ds : List D) (a : Addr), σI[i]? = some (some (true, .inst c ds)) → σ[i]? = some (some (.ref a)) → w.me = some a
theorem S0.step {g : Gs} {H0 : Hp} {w w' : Wd} {σI : Sl} {B B' : Bs} {σ : L2.St} {H H' : Hp} (s : S0 g H0 w σI B σ H) (x : Ext w H w' H') (rb : RB g w' B' H') : S0 g H0 w' σI B' σ H' where
  rb := rb
  len := s.len
  sl := fun (i : Nat) d h => by
    obtain ⟨v, e, r⟩ := s.sl i d h
    exact ⟨v, e, Rep.mono x.le d v r⟩
  ow := fun (i : Nat) d h => by
    obtain ⟨a, o, e, ha, c, np, nb, n0⟩ := s.ow i d h
    have hk := x.keep a o ha nb c.nt.t
    refine ⟨a, o, e, hk, Cont.mono x.le c, ?_, fun n z => ?_, n0⟩
    · cases q : w'.P a with
      | none => rfl
      | some u =>
        rcases x.pf a u q with z | z | ⟨qq, z⟩
        · rw [np] at z; cases z
        · rw [ha] at z; cases z
        · have y := rb.sub a u q
          rw [hk] at y; cases y
          exact (c.nt.c _ _ z).elim
    · rcases x.iof n a z with z | z
      · exact nb n z
      · rw [ha] at z; cases z
  oi := s.oi
  me := fun i c ds a h1 h2 => x.me.trans (s.me i c ds a h1 h2)

def RepO (g : Gs) (w : Wd) (σI : Sl) (σ : L2.St) (d : D) (v : V) : Prop := Rep g w d v ∨ ∃ i : Nat, σI[i]? = some (some (true, d)) ∧ σ[i]? = some (some v)
theorem RepO.mono {g : Gs} {w w' : Wd} {σI : Sl} {σ : L2.St} {d : D} {v : V} (l : Le w w') (h : RepO g w σI σ d v) : RepO g w' σI σ d v := by
  rcases h with h | h
  · exact .inl (Rep.mono l d v h)
  · exact .inr h

def ExcR (g : Gs) (w : Wd) (c : Nat) (x : Option D) (cls : Value) (dd : Option Addr) (H : Hp) : Prop :=
  cls = .ref (g.cl c) ∧ match x with
    | Option.none => dd = Option.none
    | some d => ∃ a v, dd = some a ∧ H a = some (.xd [(excF c, v)]) ∧ Rep g w d v

/-- a value; bo: or a name's own container, to be read at once -/
def RepB (g : Gs) (w : Wd) (σI : Sl) (σ : L2.St) : Bool → D → V → Prop
  | false, d, v => Rep g w d v
  | true, d, v => RepO g w σI σ d v
theorem RepB.up {g : Gs} {w : Wd} {σI : Sl} {σ : L2.St} {d : D} {v : V} : ∀ {bo : Bool}, RepB g w σI σ bo d v → RepO g w σI σ d v
  | false, h => .inl h
  | true, h => h
/-- what is wanted of an expression's end -/
def PostE (g : Gs) (E : XK) (w : Wd) (H : Hp) (σI : Sl) (σ : L2.St) (bo : Bool) (Q : VK) : Rs D → Prop
  | .ok d B' => ∀ w' v H', Ext w H w' H' → RB g w' B' H' → RepB g w' σI σ bo d v → Q v H'
  | .exc c x B' => ∀ w' cls dd H', Ext w H w' H' → RB g w' B' H' → ExcR g w' c x cls dd H' → E cls dd H'
  | .bad => False
/-- the same of several values -/
def PostEs (g : Gs) (E : XK) (w : Wd) (H : Hp) (Q : List V → Hp → Prop) : Rs (List D) → Prop
  | .ok ds B' => ∀ w' vs H', Ext w H w' H' → RB g w' B' H' → Reps g w' ds vs → Q vs H'
  | .exc c x B' => ∀ w' cls dd H', Ext w H w' H' → RB g w' B' H' → ExcR g w' c x cls dd H' → E cls dd H'
  | .bad => False
/-- of a test -/
def PostT (g : Gs) (E : XK) (w : Wd) (H : Hp) (Q : Bool → Hp → Prop) : Rs Bool → Prop
  | .ok b B' => ∀ w' H', Ext w H w' H' → RB g w' B' H' → Q b H'
  | .exc c x B' => ∀ w' cls dd H', Ext w H w' H' → RB g w' B' H' → ExcR g w' c x cls dd H' → E cls dd H'
  | .bad => False
abbrev Et := Sl → Bs → Rs Bool
def tI (g : Gs) (E : XK) (H0 : Hp) (bo : Bool) (m : Ev) : TE := fun σ H Q => ∃ w σI B, S0 g H0 w σI B σ H ∧ PostE g E w H σI σ bo Q (m σI B)
def tIs (g : Gs) (E : XK) (H0 : Hp) (m : Evs) : TA := fun σ H Q => ∃ w σI B, S0 g H0 w σI B σ H ∧ PostEs g E w H Q (m σI B)
def tIt (g : Gs) (E : XK) (H0 : Hp) (m : Et) : TT := fun σ H Q => ∃ w σI B, S0 g H0 w σI B σ H ∧ PostT g E w H Q (m σI B)
/-- the expression's meaning is m -/
abbrev Snd (g : Gs) (E : XK) (H0 : Hp) (X : Cx) (bo : Bool) (e : Expr) (m : Ev) : Prop := PE X e (tI g E H0 bo m)
abbrev Snds (g : Gs) (E : XK) (H0 : Hp) (X : Cx) (es : List Expr) (m : Evs) : Prop := PA X es (tIs g E H0 m)
abbrev SndT (g : Gs) (E : XK) (H0 : Hp) (X : Cx) (e : Expr) (m : Et) : Prop := PT X e (tIt g E H0 m)
abbrev SndW (g : Gs) (E : XK) (H0 : Hp) (X : Cx) (e : Expr) (m : Et) : Prop := PW X e (tIt g E H0 m)

theorem weak {X : Cx} {e : Expr} {t t' : TE} (h : PE X e t) (k : ∀ σ H Q, t' σ H Q → t σ H Q) : PE X e t' := ⟨fun pins s σ H Q I q => h.run pins s σ H Q I (k σ H Q q)⟩
theorem weakA {X : Cx} {es : List Expr} {t t' : TA} (h : PA X es t) (k : ∀ σ H Q, t' σ H Q → t σ H Q) : PA X es t' := ⟨fun pos pins s σ H Q I q => h.run pos pins s σ H Q I (k σ H Q q)⟩
theorem weakT {X : Cx} {e : Expr} {t t' : TT} (h : PT X e t) (k : ∀ σ H Q, t' σ H Q → t σ H Q) : PT X e t' := ⟨fun pins s σ H Q I q => h.run pins s σ H Q I (k σ H Q q)⟩
theorem weakW {X : Cx} {e : Expr} {t t' : TT} (h : PW X e t) (k : ∀ σ H Q, t' σ H Q → t σ H Q) : PW X e t' := ⟨fun wh pins s σ H Q I q => h.run wh pins s σ H Q I (k σ H Q q)⟩

section
variable {g : Gs} {E : XK} {H0 : Hp} {w w1 : Wd} {H H1 : Hp} {σI : Sl} {σ : L2.St} {bo bo1 : Bool} {Q : VK}
/-- an end is wanted of a later state -/
theorem PostE.ext (x : Ext w H w1 H1) : ∀ {m : Rs D}, PostE g E w H σI σ bo Q m → PostE g E w1 H1 σI σ bo Q m
  | .ok _ _, h => fun w2 v2 H2 x2 rb2 r2 => h w2 v2 H2 (x.trans x2) rb2 r2
  | .exc _ _ _, h => fun w2 cls dd H2 x2 rb2 r2 => h w2 cls dd H2 (x.trans x2) rb2 r2
  | .bad, h => h
theorem PostEs.ext {Q : List V → Hp → Prop} (x : Ext w H w1 H1) : ∀ {m : Rs (List D)}, PostEs g E w H Q m → PostEs g E w1 H1 Q m
  | .ok _ _, h => fun w2 v2 H2 x2 rb2 r2 => h w2 v2 H2 (x.trans x2) rb2 r2
  | .exc _ _ _, h => fun w2 cls dd H2 x2 rb2 r2 => h w2 cls dd H2 (x.trans x2) rb2 r2
  | .bad, h => h
theorem PostT.ext {Q : Bool → Hp → Prop} (x : Ext w H w1 H1) : ∀ {m : Rs Bool}, PostT g E w H Q m → PostT g E w1 H1 Q m
  | .ok _ _, h => fun w2 H2 x2 rb2 => h w2 H2 (x.trans x2) rb2
  | .exc _ _ _, h => fun w2 cls dd H2 x2 rb2 r2 => h w2 cls dd H2 (x.trans x2) rb2 r2
  | .bad, h => h

/-- THE STEP: a part's reading from what is wanted of the whole -/
theorem tI_go {m : Ev} {B : Bs} {Q1 : VK} (s : S0 g H0 w σI B σ H) (he : ∀ c x B1, m σI B = .exc c x B1 → ∀ w' cls dd H', Ext w H w' H' → RB g w' B1 H' → ExcR g w' c x cls dd H' → E cls dd H') (hb : m σI B ≠ .bad)
    (ho : ∀ d B1, m σI B = .ok d B1 → ∀ w1 v H1, Ext w H w1 H1 → S0 g H0 w1 σI B1 σ H1 → RepB g w1 σI σ bo d v → Q1 v H1) : tI g E H0 bo m σ H Q1 := by
  refine ⟨w, σI, B, s, ?_⟩
  cases q : m σI B with
  | ok d B1 => exact fun w1 v H1 x rb r => ho d B1 q w1 v H1 x (s.step x rb) r
  | exc c x B1 => exact he c x B1 q
  | bad => exact hb q
theorem tI_bind {m : Ev} {f : D → Bs → Rs D} {B : Bs} {Q1 : VK} (s : S0 g H0 w σI B σ H) (p : PostE g E w H σI σ bo1 Q ((m σI B).bind f))
    (ho : ∀ d B1 w1 v H1, Ext w H w1 H1 → S0 g H0 w1 σI B1 σ H1 → RepB g w1 σI σ bo d v → PostE g E w1 H1 σI σ bo1 Q (f d B1) → Q1 v H1) : tI g E H0 bo m σ H Q1 := by
  refine tI_go s (fun c x B1 q => ?_) (fun q => ?_) fun d B1 q w1 v H1 x s1 r => ?_
  · rw [q] at p; exact p
  · rw [q] at p; exact p
  · rw [q] at p; exact ho d B1 w1 v H1 x s1 r (PostE.ext x p)
theorem tI_bindA {m : Ev} {f : D → Bs → Rs (List D)} {B : Bs} {Q1 : VK} {Q : List V → Hp → Prop} (s : S0 g H0 w σI B σ H) (p : PostEs g E w H Q ((m σI B).bind f))
    (ho : ∀ d B1 w1 v H1, Ext w H w1 H1 → S0 g H0 w1 σI B1 σ H1 → RepB g w1 σI σ bo d v → PostEs g E w1 H1 Q (f d B1) → Q1 v H1) : tI g E H0 bo m σ H Q1 := by
  refine tI_go s (fun c x B1 q => ?_) (fun q => ?_) fun d B1 q w1 v H1 x s1 r => ?_
  · rw [q] at p; exact p
  · rw [q] at p; exact p
  · rw [q] at p; exact ho d B1 w1 v H1 x s1 r (PostEs.ext x p)
theorem tI_bindT {m : Ev} {f : D → Bs → Rs Bool} {B : Bs} {Q1 : VK} {Q : Bool → Hp → Prop} (s : S0 g H0 w σI B σ H) (p : PostT g E w H Q ((m σI B).bind f))
    (ho : ∀ d B1 w1 v H1, Ext w H w1 H1 → S0 g H0 w1 σI B1 σ H1 → RepB g w1 σI σ bo d v → PostT g E w1 H1 Q (f d B1) → Q1 v H1) : tI g E H0 bo m σ H Q1 := by
  refine tI_go s (fun c x B1 q => ?_) (fun q => ?_) fun d B1 q w1 v H1 x s1 r => ?_
  · rw [q] at p; exact p
  · rw [q] at p; exact p
  · rw [q] at p; exact ho d B1 w1 v H1 x s1 r (PostT.ext x p)
/-- the same for an argument list -/
theorem tIs_go {m : Evs} {B : Bs} {Q1 : List V → Hp → Prop} (s : S0 g H0 w σI B σ H) (he : ∀ c x B1, m σI B = .exc c x B1 → ∀ w' cls dd H', Ext w H w' H' → RB g w' B1 H' → ExcR g w' c x cls dd H' → E cls dd H') (hb : m σI B ≠ .bad)
    (ho : ∀ d B1, m σI B = .ok d B1 → ∀ w1 v H1, Ext w H w1 H1 → S0 g H0 w1 σI B1 σ H1 → Reps g w1 d v → Q1 v H1) : tIs g E H0 m σ H Q1 := by
  refine ⟨w, σI, B, s, ?_⟩
  cases q : m σI B with
  | ok d B1 => exact fun w1 v H1 x rb r => ho d B1 q w1 v H1 x (s.step x rb) r
  | exc c x B1 => exact he c x B1 q
  | bad => exact hb q
theorem tIs_bind {m : Evs} {f : List D → Bs → Rs D} {B : Bs} {Q1 : List V → Hp → Prop} (s : S0 g H0 w σI B σ H) (p : PostE g E w H σI σ bo1 Q ((m σI B).bind f))
    (ho : ∀ d B1 w1 v H1, Ext w H w1 H1 → S0 g H0 w1 σI B1 σ H1 → Reps g w1 d v → PostE g E w1 H1 σI σ bo1 Q (f d B1) → Q1 v H1) : tIs g E H0 m σ H Q1 := by
  refine tIs_go s (fun c x B1 q => ?_) (fun q => ?_) fun d B1 q w1 v H1 x s1 r => ?_
  · rw [q] at p; exact p
  · rw [q] at p; exact p
  · rw [q] at p; exact ho d B1 w1 v H1 x s1 r (PostE.ext x p)
theorem tIs_bindA {m : Evs} {f : List D → Bs → Rs (List D)} {B : Bs} {Q1 Q : List V → Hp → Prop} (s : S0 g H0 w σI B σ H) (p : PostEs g E w H Q ((m σI B).bind f))
    (ho : ∀ d B1 w1 v H1, Ext w H w1 H1 → S0 g H0 w1 σI B1 σ H1 → Reps g w1 d v → PostEs g E w1 H1 Q (f d B1) → Q1 v H1) : tIs g E H0 m σ H Q1 := by
  refine tIs_go s (fun c x B1 q => ?_) (fun q => ?_) fun d B1 q w1 v H1 x s1 r => ?_
  · rw [q] at p; exact p
  · rw [q] at p; exact p
  · rw [q] at p; exact ho d B1 w1 v H1 x s1 r (PostEs.ext x p)
/-- for a test -/
theorem tIt_go {m : Et} {B : Bs} {Q1 : Bool → Hp → Prop} (s : S0 g H0 w σI B σ H) (he : ∀ c x B1, m σI B = .exc c x B1 → ∀ w' cls dd H', Ext w H w' H' → RB g w' B1 H' → ExcR g w' c x cls dd H' → E cls dd H') (hb : m σI B ≠ .bad)
    (ho : ∀ d B1, m σI B = .ok d B1 → ∀ w1 H1, Ext w H w1 H1 → S0 g H0 w1 σI B1 σ H1 → Q1 d H1) : tIt g E H0 m σ H Q1 := by
  refine ⟨w, σI, B, s, ?_⟩
  cases q : m σI B with
  | ok d B1 => exact fun w1 H1 x rb => ho d B1 q w1 H1 x (s.step x rb)
  | exc c x B1 => exact he c x B1 q
  | bad => exact hb q
theorem tIt_bind {m : Et} {f : Bool → Bs → Rs D} {B : Bs} {Q1 : Bool → Hp → Prop} (s : S0 g H0 w σI B σ H) (p : PostE g E w H σI σ bo1 Q ((m σI B).bind f))
    (ho : ∀ d B1 w1 H1, Ext w H w1 H1 → S0 g H0 w1 σI B1 σ H1 → PostE g E w1 H1 σI σ bo1 Q (f d B1) → Q1 d H1) : tIt g E H0 m σ H Q1 := by
  refine tIt_go s (fun c x B1 q => ?_) (fun q => ?_) fun d B1 q w1 H1 x s1 => ?_
  · rw [q] at p; exact p
  · rw [q] at p; exact p
  · rw [q] at p; exact ho d B1 w1 H1 x s1 (PostE.ext x p)
theorem tIt_bindT {m : Et} {f : Bool → Bs → Rs Bool} {B : Bs} {Q1 Q : Bool → Hp → Prop} (s : S0 g H0 w σI B σ H) (p : PostT g E w H Q ((m σI B).bind f))
    (ho : ∀ d B1 w1 H1, Ext w H w1 H1 → S0 g H0 w1 σI B1 σ H1 → PostT g E w1 H1 Q (f d B1) → Q1 d H1) : tIt g E H0 m σ H Q1 := by
  refine tIt_go s (fun c x B1 q => ?_) (fun q => ?_) fun d B1 q w1 H1 x s1 => ?_
  · rw [q] at p; exact p
  · rw [q] at p; exact p
  · rw [q] at p; exact ho d B1 w1 H1 x s1 (PostT.ext x p)
end

def mBin (f : D → D → Bs → Rs D) (a b : Ev) : Ev := fun σI B => (a σI B).bind fun x B1 => (b σI B1).bind fun y B2 => f x y B2
def OpSem (g : Gs) (E : XK) (H0 : Hp) (r : R2) (f : D → D → Bs → Rs D) : Prop := ∀ (w : Wd) (σI : Sl) (B : Bs) (σ : L2.St) (H : Hp) (Q : VK) (x y : V) (dx dy : D),
  S0 g H0 w σI B σ H → RepO g w σI σ dx x → RepO g w σI σ dy y → PostE g E w H σI σ false Q (f dx dy B) → r x y H Q
section
variable {g : Gs} {E : XK} {H0 : Hp} {X : Cx} {a b : Expr} {ma mb : Ev} {pos : Pos} {b1 b2 : Bool}
theorem tOp_of {r : R2} {f : D → D → Bs → Rs D} (h : OpSem g E H0 r f) : ∀ σ H Q, tI g E H0 false (mBin f ma mb) σ H Q → tOp r (tI g E H0 b1 ma) (tI g E H0 b2 mb) σ H Q := by
  rintro σ H Q ⟨w, σI, B, s, p⟩
  refine tI_bind s p fun d B1 w1 v H1 x1 s1 r1 p1 => ?_
  refine tI_bind s1 p1 fun d2 B2 w2 v2 H2 x2 s2 r2 p2 => ?_
  exact h w2 σI B2 σ H2 Q v v2 d d2 s2 (r1.up.mono x2.le) r2.up p2
theorem s_bin {op : Operator} {r : R2} {f : D → D → Bs → Rs D} (ho : OpR X (binaryOp op) r) (h : OpSem g E H0 r f) (ha : Snd g E H0 X b1 a ma) (hb : Snd g E H0 X b2 b mb) : Snd g E H0 X false (.BinOp a op b pos) (mBin f ma mb) :=
  weak (pe_op ho ha hb) (tOp_of h)

def mVar (i : Nat) : Ev := fun σI B => match σI[i]? with
  | some (some (false, d)) => .ok d B
  | _ => .bad
def mBor (i : Nat) : Ev := fun σI B => match σI[i]? with
  | some (some (_, d)) => .ok d B
  | _ => .bad
def mC (d : D) : Ev := fun _ B => .ok d B
theorem s_var {i : Nat} {x : Str} (hN : X.N[i]? = some x := by rfl) (hv : Vis X.env.scope x := by first | exact Or.inl rfl | exact Or.inr (Or.inl rfl) | exact Or.inr (Or.inr rfl)) (hd : (x == ("__debug__" : Str)) = false := by decide)
    (hcd : (x == ("__classdict__" : Str)) = false := by decide) : Snd g E H0 X false (.Name x pos) (mVar i) := weak (pe_var hN hv hd hcd) fun σ H Q ⟨w, σI, B, s, p⟩ => by
  unfold mVar at p
  split at p
  · rename_i d e
    obtain ⟨v, h1, h2⟩ := s.sl i d e
    exact ⟨v, h1, p w v H (Ext.refl _ _) s.rb h2⟩
  · exact p.elim
theorem s_bor {i : Nat} {x : Str} (hN : X.N[i]? = some x := by rfl) (hv : Vis X.env.scope x := by first | exact Or.inl rfl | exact Or.inr (Or.inl rfl) | exact Or.inr (Or.inr rfl)) (hd : (x == ("__debug__" : Str)) = false := by decide)
    (hcd : (x == ("__classdict__" : Str)) = false := by decide) : Snd g E H0 X true (.Name x pos) (mBor i) := weak (pe_var hN hv hd hcd) fun σ H Q ⟨w, σI, B, s, p⟩ => by
  unfold mBor at p
  split at p
  · rename_i k d e
    cases k with
    | false =>
      obtain ⟨v, h1, h2⟩ := s.sl i d e
      exact ⟨v, h1, p w v H (Ext.refl _ _) s.rb (.inl h2)⟩
    | true =>
      obtain ⟨a, o, h1, h2, _⟩ := s.ow i d e
      exact ⟨_, h1, p w _ H (Ext.refl _ _) s.rb (.inr ⟨i, e, h1⟩)⟩
  · exact p.elim
theorem s_const {e : Expr} {v : V} {d : D} (h : PE X e (tC v)) (r : ∀ w, Rep g w d v) : Snd g E H0 X false e (mC d) := weak h fun σ H Q ⟨w, σI, B, s, p⟩ => p w v H (Ext.refl _ _) s.rb (r w)
theorem s_int {i : Int} {j : Nat} : Snd g E H0 X false (.Constant (.int i) j pos) (mC (.int i)) := s_const pe_int fun w => by simp only [Rep]
theorem s_str {x : Str} {j : Nat} : Snd g E H0 X false (.Constant (.str x) j pos) (mC (.str x)) := s_const pe_str fun w => by simp only [Rep]
theorem s_bool {x : Bool} {j : Nat} : Snd g E H0 X false (.Constant (.bool x) j pos) (mC (.bool x)) := s_const pe_bl fun w => by simp only [Rep]
theorem s_none {j : Nat} : Snd g E H0 X false (.Constant .none j pos) (mC .none) := s_const pe_non fun w => by simp only [Rep]
end
/-! ### exceptions whose context is None -/
open PySem.Spec PyProof.Rows
theorem passN {X : Cx} : Passes (L2N.CX X.prog X.w) X E0 := fun _ _ _ _ _ _ _ h => by
  obtain ⟨_, _, _, _, _, _, _, _, _, _, _, _, z⟩ := h
  exact z.elim
theorem takesN0 {X : Cx} : L2N.Takes X (fun _ _ _ _ => False) := fun _ _ x => by
  obtain ⟨_, _, _, _, _, _, _, _, _, _, _, _, _, _, _, _, z⟩ := x
  exact z.elim
theorem _root_.L2.Fun.okN {P : Program} {w : World} {K : PySem.W.Frag} {mg : Str → Option Value} {base : Heap} {x qual : Str} {st : Stmt} {f : Addr} {fd : FuncData} {N ps : List Str} {k : Nat} {sp : Sp} (F : L2.Fun K x qual st f fd) (S : FnScope N ps (defScope st)) (len : ∀ vs H Q E, sp vs H Q E → vs.length = ps.length)
    (hbody : ∀ (cdv : Value) (A : Around) (outer : List Env) (s : Shared) (H : Hp) (vs : List V) (Q : VK) (E : XK), Room k (A.deeper (envOfC qual (defScope st) s.heap.objs.size f cdv)) → sp vs H Q E →
      ∃ t, PSs (cxOf (L2N.CX P w) P w K mg base N qual (defScope st) f cdv A outer s H E) (defBody st) t ∧ t { nx := fun _ H' => Q .non H', rt := Q } (L2.start N vs) H) : FnOk P w K mg base (L2N.CX P w) (k + 1) f fd ps sp := by
  obtain ⟨oc, od, kV, doc, pm, an, cdv, ct, osl, rfl, lk, hcd⟩ := F.ex
  exact fn_of lk hcd S len fun A outer s H vs Q E hr hsp => hbody cdv A outer s H vs Q E hr hsp
theorem cxUpN {P : Program} {w : World} : StX.CXUp (L2N.CX P w) := by
  rintro outer s H s2 H2 E e s' un kp ho ⟨a, B, H', cls, d, ea, fl, hok, ub, na, os, ag, he⟩
  refine ⟨a, B, H', cls, d, ea, fl, hok, ⟨fun b o q n hb => ub.keep b o (kp b o q) (un.free b o q n (by simp)) hb, fun b o q hb => ub.slot b o (kp b o q) hb, fun b o q n => ub.free b o (kp b o q) (un.free b o q n (by simp)),
    fun b o q hb => ub.there b o (kp b o q) hb, fun b xs q => ub.tups b xs (un.tups b xs q), fun b o xs q => ub.frzs b o xs (un.frzs b o xs q), fun b ps q => ?_⟩, na, os.trans ho, ag, he⟩
  obtain ⟨m1, e1⟩ := un.tbls b ps q
  obtain ⟨m2, e2⟩ := ub.tbls b _ e1
  exact ⟨m1 ++ m2, by rw [e2, Array.append_assoc]⟩
end Hf

set_option Elab.async false
set_option linter.all false
set_option maxRecDepth 100000
set_option maxHeartbeats 4000000
namespace Hf
open PySem L2

/-! ### what stands behind data -/
section
variable {g : Gs} {w : Wd} {H H0 : Hp} {σI : Sl} {σ : L2.St} {B : Bs} {x : V}
theorem Reps.len : ∀ {ds : List D} {vs : List V}, Reps g w ds vs → vs.length = ds.length
  | [], vs, h => by simp only [Reps] at h; subst h; rfl
  | d :: ds, vs, h => by
    simp only [Reps] at h
    obtain ⟨v, us, rfl, _, r⟩ := h
    simp [Reps.len r]
theorem Reps.app : ∀ {ds es : List D} {vs us : List V}, Reps g w ds vs → Reps g w es us → Reps g w (ds ++ es) (vs ++ us)
  | [], es, vs, us, h, k => by simp only [Reps] at h; subst h; exact k
  | d :: ds, es, vs, us, h, k => by
    simp only [Reps] at h
    obtain ⟨v, us', rfl, r, rs⟩ := h
    simp only [List.cons_append, Reps]
    exact ⟨v, _, rfl, r, Reps.app rs k⟩
theorem Reps.get : ∀ {ds : List D} {vs : List V} {i : Nat} {d : D}, Reps g w ds vs → ds[i]? = some d → ∃ v, vs[i]? = some v ∧ Rep g w d v
  | [], _, _, _, _, e => by simp at e
  | d :: ds, vs, i, d', h, e => by
    simp only [Reps] at h
    obtain ⟨v, us, rfl, r, rs⟩ := h
    cases i with
    | zero => simp at e; subst e; exact ⟨v, by simp, r⟩
    | succ i =>
      obtain ⟨u, h1, h2⟩ := Reps.get (i := i) rs (by simpa using e)
      exact ⟨u, by simpa using h1, h2⟩
theorem Reps.drop : ∀ {ds : List D} {vs : List V} (n : Nat), Reps g w ds vs → Reps g w (ds.drop n) (vs.drop n)
  | ds, vs, 0, h => by simpa using h
  | [], vs, n + 1, h => by simp only [Reps] at h; subst h; simp [Reps]
  | d :: ds, vs, n + 1, h => by
    simp only [Reps] at h
    obtain ⟨v, us, rfl, r, rs⟩ := h
    simpa using Reps.drop n rs
theorem Reps.take : ∀ {ds : List D} {vs : List V} (n : Nat), Reps g w ds vs → Reps g w (ds.take n) (vs.take n)
  | ds, vs, 0, h => by simp [Reps]
  | [], vs, n + 1, h => by simp only [Reps] at h; subst h; simp [Reps]
  | d :: ds, vs, n + 1, h => by
    simp only [Reps] at h
    obtain ⟨v, us, rfl, r, rs⟩ := h
    simp only [List.take_succ_cons, Reps]
    exact ⟨v, _, rfl, r, Reps.take n rs⟩
theorem Reps.set : ∀ {ds : List D} {vs : List V} (n : Nat) {d : D} {v : V}, Reps g w ds vs → Rep g w d v → Reps g w (ds.set n d) (vs.set n v)
  | [], vs, n, d, v, h, k => by simp only [Reps] at h; subst h; simp [Reps]
  | e :: ds, vs, 0, d, v, h, k => by
    simp only [Reps] at h
    obtain ⟨u, us, rfl, r, rs⟩ := h
    simp only [List.set_cons_zero, Reps]
    exact ⟨v, _, rfl, k, rs⟩
  | e :: ds, vs, n + 1, d, v, h, k => by
    simp only [Reps] at h
    obtain ⟨u, us, rfl, r, rs⟩ := h
    simp only [List.set_cons_succ, Reps]
    exact ⟨u, _, rfl, r, Reps.set n rs k⟩
theorem Reps.rev : ∀ {ds : List D} {vs : List V}, Reps g w ds vs → Reps g w ds.reverse vs.reverse
  | [], vs, h => by simp only [Reps] at h; subst h; simp [Reps]
  | d :: ds, vs, h => by
    simp only [Reps] at h
    obtain ⟨v, us, rfl, r, rs⟩ := h
    simp only [List.reverse_cons]
    exact Reps.app (Reps.rev rs) (by simp only [Reps]; exact ⟨v, [], rfl, r, rfl⟩)
theorem Reps.one {d : D} {v : V} (h : Rep g w d v) : Reps g w [d] [v] := by simp only [Reps]; exact ⟨v, [], rfl, h, rfl⟩
theorem Reps.rep {ds : List D} {vs : List V} (h : Reps g w ds vs) : ∀ k : Nat, Reps g w (List.replicate k ds).flatten (List.replicate k vs).flatten
  | 0 => by simp [Reps]
  | k + 1 => by
    simp only [List.replicate_succ, List.flatten_cons]
    exact Reps.app h (Reps.rep h k)

theorem RepO.lst {ds : List D} (s : S0 g H0 w σI B σ H) (h : RepO g w σI σ (.lst ds) x) : ∃ a vs, x = .ref a ∧ H a = some (.lst vs) ∧ Reps g w ds vs := by
  rcases h with h | ⟨i, h1, h2⟩
  · simp only [Rep] at h
    obtain ⟨a, vs, rfl, p, r⟩ := h
    exact ⟨a, vs, rfl, s.rb.sub _ _ p, r⟩
  · obtain ⟨a, o, e, ha, c, _⟩ := s.ow i _ h1
    rw [h2] at e
    cases e
    simp only [Cont] at c
    obtain ⟨vs, rfl, r⟩ := c
    exact ⟨a, vs, rfl, ha, r⟩
theorem RepO.of {d : D} (s : S0 g H0 w σI B σ H) (h : RepO g w σI σ d x) (hd : ∀ ds, d ≠ .lst ds) (hd2 : ∀ ks ds, d ≠ .dct ks ds) (hd3 : ∀ c ds, d ≠ .inst c ds) : Rep g w d x := by
  rcases h with h | ⟨i, h1, h2⟩
  · exact h
  · obtain ⟨a, o, e, ha, c, _⟩ := s.ow i _ h1
    cases d <;> simp [Cont] at c <;> first | exact (hd _ rfl).elim | exact (hd2 _ _ rfl).elim | exact (hd3 _ _ rfl).elim
theorem RepO.int {i : Int} (s : S0 g H0 w σI B σ H) (h : RepO g w σI σ (.int i) x) : x = .int i := by
  have := h.of s (by simp) (by simp) (by simp); simpa only [Rep] using this
theorem RepO.bool {i : Bool} (s : S0 g H0 w σI B σ H) (h : RepO g w σI σ (.bool i) x) : x = .bl i := by
  have := h.of s (by simp) (by simp) (by simp); simpa only [Rep] using this
theorem RepO.str {i : Str} (s : S0 g H0 w σI B σ H) (h : RepO g w σI σ (.str i) x) : x = .str i := by
  have := h.of s (by simp) (by simp) (by simp); simpa only [Rep] using this
theorem RepO.none (s : S0 g H0 w σI B σ H) (h : RepO g w σI σ .none x) : x = .non := by
  have := h.of s (by simp) (by simp) (by simp); simpa only [Rep] using this
theorem RepO.tup {ds : List D} (s : S0 g H0 w σI B σ H) (h : RepO g w σI σ (.tup ds) x) : ∃ a vs, x = .ref a ∧ SqT g.K H a vs ∧ Reps g w ds vs := by
  have := h.of s (by simp) (by simp) (by simp)
  simp only [Rep] at this
  obtain ⟨a, vs, rfl, p, r⟩ := this
  exact ⟨a, vs, rfl, sqT_mono s.rb.sub p.T, r⟩
theorem RepO.tupN {ds : List D} (s : S0 g H0 w σI B σ H) (h : RepO g w σI σ (.tup ds) x) : ∃ a vs, x = .ref a ∧ SqN g.K H a vs ∧ Reps g w ds vs := by
  have := h.of s (by simp) (by simp) (by simp)
  simp only [Rep] at this
  obtain ⟨a, vs, rfl, p, r⟩ := this
  exact ⟨a, vs, rfl, sqN_mono s.rb.sub p, r⟩
theorem RepO.prs {ds : List D} (s : S0 g H0 w σI B σ H) (h : RepO g w σI σ (.prs ds) x) : ∃ a vs, x = .ref a ∧ SqT g.K H a vs ∧ Reps g w ds vs := by
  have := h.of s (by simp) (by simp) (by simp)
  simp only [Rep] at this
  obtain ⟨a, vs, rfl, p, r⟩ := this
  exact ⟨a, vs, rfl, sqT_mono s.rb.sub p, r⟩
theorem RepO.scr {ds : List D} (s : S0 g H0 w σI B σ H) (h : RepO g w σI σ (.scr ds) x) : ∃ a vs, x = .ref a ∧ SqL g.K H a vs ∧ Reps g w ds vs := by
  have := h.of s (by simp) (by simp) (by simp)
  simp only [Rep] at this
  obtain ⟨a, vs, rfl, p, r⟩ := this
  exact ⟨a, vs, rfl, s.rb.sub.seq p, r⟩
theorem RepO.box {n : Nat} (s : S0 g H0 w σI B σ H) (h : RepO g w σI σ (.box n) x) : ∃ a, x = .ref a ∧ w.io n = some a := by
  have := h.of s (by simp) (by simp) (by simp)
  simpa only [Rep] using this
theorem RepO.dct {ks ds : List D} (s : S0 g H0 w σI B σ H) (h : RepO g w σI σ (.dct ks ds) x) : ∃ a xs, x = .ref a ∧ H a = some (dctO g a xs) ∧ ks.map nkD = xs.map (fun p => some p.1) ∧ Reps g w ks (xs.map fun p => V.ref p.2.1) ∧ Reps g w ds (xs.map fun p => p.2.2) := by
  rcases h with h | ⟨i, h1, h2⟩
  · simp only [Rep] at h
    obtain ⟨a, xs, rfl, p, q⟩ := h
    exact ⟨a, xs, rfl, s.rb.sub _ _ p, q⟩
  · obtain ⟨a, o, e, ha, c, _⟩ := s.ow i _ h1
    rw [h2] at e
    cases e
    simp only [Cont] at c
    obtain ⟨xs, rfl, q⟩ := c
    exact ⟨a, xs, rfl, ha, q⟩

/-- a new thing is laid and from then on persistent -/
def regW (w : Wd) (p : Addr) (o : HO) : Wd := { w with P := upd w.P p o }
theorem RB.fresh_io (rb : RB g w B H) {p : Addr} (hp : H p = Option.none) : ∀ n, w.io n ≠ some p := fun n e => by
  by_cases hn : n < B.length
  · obtain ⟨a, o, h1, h2, _⟩ := rb.get n B[n] (List.getElem?_eq_getElem hn)
    rw [e] at h1; cases h1; rw [hp] at h2; cases h2
  · exact hn (rb.dom n p e)
theorem RB.fresh_P (rb : RB g w B H) {p : Addr} (hp : H p = Option.none) : w.P p = Option.none := by
  cases q : w.P p with
  | none => rfl
  | some o => rw [rb.sub _ _ q] at hp; cases hp
theorem same_upd2 {P H : Hp} {p : Addr} {o : HO} (h : Same P H) : Same (upd P p o) (upd H p o) := fun b u e => by
  by_cases hb : b = p
  · subst hb; rw [upd_same] at e ⊢; exact e
  · rw [upd_ne hb] at e ⊢; exact h b u e
theorem same_upd {H : Hp} {p : Addr} {o : HO} (hp : H p = Option.none) : Same H (upd H p o) := fun b u e => by
  rw [upd_ne (ne_of_none e hp)]; exact e
theorem regLe (w : Wd) {p : Addr} {o : HO} (hp : w.P p = Option.none) : Le w (regW w p o) := ⟨same_upd hp, fun _ _ h => h⟩
/-- boxes over a heap that is kept -/
theorem nt_reg {p : Addr} {o : HO} (h : ∀ b ps, w.P b ≠ some (.tbl ps)) (ho : ∀ ps, o ≠ .tbl ps) : ∀ b ps, (regW w p o).P b ≠ some (.tbl ps) := fun b ps e => by
  have e : upd w.P p o b = some (.tbl ps) := e
  by_cases z : b = p
  · subst z; rw [upd_same] at e; exact ho ps (Option.some.inj e)
  · rw [upd_ne z] at e; exact h b ps e
theorem RB.keep {H' : Hp} {w' : Wd} (rb : RB g w B H) (l : Le w w') (hio : w'.io = w.io) (hs : Same w'.P H') (hk : Same H H') (hp : ∀ n a, w.io n = some a → w'.P a = Option.none) (hn : ∀ b ps, w'.P b ≠ some (.tbl ps)) : RB g w' B H' where
  tb := rb.tb.ext hk
  nt := hn
  sub := hs
  get := fun n b e => by
    obtain ⟨a, o, h1, h2, c⟩ := rb.get n b e
    exact ⟨a, o, by rw [hio]; exact h1, hk _ _ h2, c.mono l⟩
  inj := by rw [hio]; exact rb.inj
  np := by rw [hio]; exact hp
  dom := by rw [hio]; exact rb.dom
theorem RB.reg {p : Addr} {o : HO} (rb : RB g w B H) (hp : H p = Option.none) (ho : ∀ ps, o ≠ .tbl ps := by first | (intro ps e; cases e) | (intro ps e; unfold dctO at e; cases e)) : RB g (regW w p o) B (upd H p o) :=
  rb.keep (regLe w (rb.fresh_P hp)) rfl (same_upd2 rb.sub) (same_upd hp) (fun n a e => by
    show upd w.P p o a = Option.none
    rw [upd_ne (fun z => rb.fresh_io hp n (by rw [← z]; exact e))]
    exact rb.np n a e) (nt_reg rb.nt ho)
theorem Ext.reg {p : Addr} {o : HO} (rb : RB g w B H) (hp : H p = Option.none) : Ext w H (regW w p o) (upd H p o) where
  le := regLe w (rb.fresh_P hp)
  keep := fun b u h _ _ => same_upd hp b u h
  pf := fun b u h => by
    by_cases hb : b = p
    · subst hb; exact .inr (.inl hp)
    · refine .inl ?_
      have h : upd w.P p o b = some u := h
      rwa [upd_ne hb] at h
  iof := fun n a h => .inl h
  there := fun b h z => h (by
    by_cases hb : b = p
    · subst hb; exact hp
    · rwa [upd_ne hb] at z)
  me := rfl
/-- a thing laid, not persistent -/
theorem RB.lay {p : Addr} {o : HO} (rb : RB g w B H) (hp : H p = Option.none) : RB g w B (upd H p o) :=
  rb.keep (Le.refl w) rfl (rb.sub.trans (same_upd hp)) (same_upd hp) rb.np rb.nt
theorem Ext.lay {p : Addr} {o : HO} (hp : H p = Option.none) : Ext w H w (upd H p o) where
  le := Le.refl w
  keep := fun b u h _ _ => same_upd hp b u h
  pf := fun b u h => .inl h
  iof := fun n a h => .inl h
  there := fun b h z => h (by
    by_cases hb : b = p
    · subst hb; exact hp
    · rwa [upd_ne hb] at z)
  me := rfl
variable {E : XK} {Q : VK}
theorem PostE.nowR {d : D} {v : V} (s : S0 g H0 w σI B σ H) (h : PostE g E w H σI σ false Q (.ok d B)) (r : Rep g w d v) : Q v H := h w v H (Ext.refl _ _) s.rb r
theorem RepO.tupR {ds : List D} (s : S0 g H0 w σI B σ H) (h : RepO g w σI σ (.tup ds) x) : Rep g w (.tup ds) x := h.of s (by simp) (by simp) (by simp)
theorem PostE.newT {ds : List D} {vs : List V} {p : Addr} (s : S0 g H0 w σI B σ H) (h : PostE g E w H σI σ false Q (.ok (.tup ds) B)) {ob : Obj} (r : Reps g w ds vs) (hp : H p = Option.none) (hd : ob.dict = Option.none) : Q (.ref p) (upd H p (.frz ob (.tup vs))) :=
  h (regW w p (.frz ob (.tup vs))) _ _ (Ext.reg s.rb hp) (s.rb.reg hp) (by
    simp only [RepB, Rep]
    exact ⟨p, vs, rfl, .inl ⟨ob, upd_same, hd⟩, Reps.mono (regLe w (s.rb.fresh_P hp)) _ _ r⟩)
theorem PostE.newL {ds : List D} {vs : List V} {p : Addr} (s : S0 g H0 w σI B σ H) (h : PostE g E w H σI σ false Q (.ok (.lst ds) B)) (r : Reps g w ds vs) (hp : H p = Option.none) : Q (.ref p) (upd H p (.lst vs)) :=
  h (regW w p (.lst vs)) _ _ (Ext.reg s.rb hp) (s.rb.reg hp) (by
    simp only [RepB, Rep]
    exact ⟨p, vs, rfl, upd_same, Reps.mono (regLe w (s.rb.fresh_P hp)) _ _ r⟩)
end

/-- the built-in classes that are asked for -/
inductive Bt where
  | int | bool | tuple | str | list
  deriving DecidableEq
def Bt.nm : Bt → String
  | .int => "int" | .bool => "bool" | .tuple => "tuple" | .str => "str" | .list => "list"
/-- which class of instances is derived from which -/
def subC (c d : Nat) : Bool := c == d || (d == 2 && (c == 3 || c == 4 || c == 5)) || (c == 5 && (d == 3 || d == 4))
/-- what is known of a class of instances -/
structure ClsC (g : Gs) (c : Nat) : Prop where
  cls : L2.Cls g.K (g.cl c)
  na : ∀ f ∈ fldN c, NoAttr g.K (g.cl c) f
  nd : (fldN c).Nodup
  ha : PySem.W.findIn g.K (.ref (g.cl c)) "__class__" = some (some (.builtin "object.__class__"))
  hm : PySem.W.mroIn g.K (g.cl c) (.type "object") = some true
  isB : ∀ T : Bt, PySem.W.kitOne g.K (.ref (g.cl c)) (.type T.nm) = some false
  isO : ∀ n ∈ ["NoneType", "int", "bool", "str", "list", "tuple", "dict"], PySem.W.kitOne g.K (.type n) (.ref (g.cl c)) = some false
/-- what the top has left -/
structure Fx (g : Gs) : Prop where
  cls : ∀ c, g.has c = true → ClsC g c
  sub : ∀ c d, g.has c = true → g.has d = true → PySem.W.kitOne g.K (.ref (g.cl c)) (.ref (g.cl d)) = some (subC c d)
  hn : PySem.W.specialIn g.K (.builtin "object.__class__") "__get__" = some (some (.builtin "getset_descriptor.__get__"))
  htk : PySem.W.takesIn g.K (.builtin "object.__class__") = some true
  nb : ∀ x ∈ ["len", "range", "isinstance", "tuple", "list", "all", "any", "max", "min", "set", "sorted", "enumerate", "zip", "repr", "str", "int", "sum", "dict", "bool"], g.mg (Str.ofString x) = none
/-- what a body must know of where it stands -/
structure Ok (g : Gs) (X : Cx) : Prop where
  K : X.K = g.K
  mg : X.mg = g.mg
  calm : X.calm = true
  un : X.A.units + 100 < cLine
  prog : X.prog = g.prog
  w : X.w = g.w
  base : X.base = g.base
  fx : Fx g

/-! ### arithmetic -/
def fI2 (k : Int → Int → D) (c : Int → Int → Bool) : D → D → Bs → Rs D
  | .int i, .int j, B => if c i j then .ok (k i j) B else .bad
  | _, _, _ => .bad
theorem os_I {g : Gs} {E : XK} {H0 : Hp} {C : Int → Int → Prop} {c : Int → Int → Bool} {k : Int → Int → D} {kv : Int → Int → V} (hc : ∀ i j, c i j = true → C i j) (hk : ∀ w i j, Rep g w (k i j) (kv i j)) :
    OpSem g E H0 (rI C kv) (fI2 k c) := by
  intro w σI B σ H Q x y dx dy s rx ry p
  cases dx <;> first | exact p.elim | skip
  cases dy <;> first | exact p.elim | skip
  rename_i i j
  simp only [fI2] at p
  split at p
  · rename_i h
    exact ⟨i, j, rx.int s, ry.int s, hc _ _ h, p.nowR s (hk w i j)⟩
  · exact p.elim
theorem os_I0 {g : Gs} {E : XK} {H0 : Hp} {k : Int → Int → D} {kv : Int → Int → V} (hk : ∀ w i j, Rep g w (k i j) (kv i j)) :
    OpSem g E H0 (rI0 kv) (fI2 k fun _ _ => true) := by
  intro w σI B σ H Q x y dx dy s rx ry p
  cases dx <;> first | exact p.elim | skip
  cases dy <;> first | exact p.elim | skip
  rename_i i j
  exact ⟨i, j, rx.int s, ry.int s, PostE.nowR s p (hk w i j)⟩
theorem rep_int (g : Gs) (w : Wd) (i : Int) : Rep g w (.int i) (.int i) := by simp only [Rep]
theorem rep_bool (g : Gs) (w : Wd) (i : Bool) : Rep g w (.bool i) (.bl i) := by simp only [Rep]
theorem rep_str (g : Gs) (w : Wd) (i : Str) : Rep g w (.str i) (.str i) := by simp only [Rep]
theorem rep_none (g : Gs) (w : Wd) : Rep g w .none .non := by simp only [Rep]

def b2D (b : Bool) : Int := if b then 1 else 0
def fAdd : D → D → Bs → Rs D
  | .int i, .int j, B => .ok (.int (i + j)) B
  | .int i, .bool b, B => .ok (.int (i + b2D b)) B
  | .str a, .str b, B => if a.length + b.length ≤ sizeLine then .ok (.str (a ++ b)) B else .bad
  | .tup a, .tup b, B => if a.length + b.length ≤ sizeLine then .ok (.tup (a ++ b)) B else .bad
  | .lst a, .lst b, B => if a.length + b.length ≤ sizeLine then .ok (.lst (a ++ b)) B else .bad
  | _, _, _ => .bad
/-- a + b of tuples: what is made has no dict -/
def rCatN (K : PySem.W.Frag) : R2 := fun x y H Q => ∃ a b xs ys, x = .ref a ∧ y = .ref b ∧ SqT K H a xs ∧ SqT K H b ys ∧ xs.length + ys.length ≤ sizeLine ∧
  (xs = [] → Q (.ref b) H) ∧ (xs ≠ [] → ys = [] → Q (.ref a) H) ∧ (xs ≠ [] → ys ≠ [] → ∀ p (ob : Obj), H p = Option.none → ob.dict = Option.none → Q (.ref p) (upd H p (.frz ob (.tup (xs ++ ys)))))
theorem frz_tup {P : Program} {w : World} {H : Hp} {h : Heap} {a : Addr} {xs : List V} {us : List Value} (hz : xs.length ≤ sizeLine) (r : Vals xs us) (e : h.get? a = some { cls := .type "tuple", data := .seq us.toArray }) :
    ObjOk P w H h a (.frz { cls := .type "tuple", data := .seq us.toArray } (.tup xs)) := ⟨e, hz, us, r, _, e, rfl, _, rfl⟩
theorem op_catN {X : Cx} : OpR X (binaryOp .Add) (rCatN X.K) := by
  intro pins s σ H x y v u Q I rx ry h
  obtain ⟨a, b, xs, ys, rfl, rfl, ha, hb, hz, q0, q1, q2⟩ := h
  cases rx
  cases ry
  obtain ⟨us, ra, pa, _⟩ := I.tuple ha
  obtain ⟨ws, rb, pb, _⟩ := I.tuple hb
  by_cases hx : xs = []
  · subst hx
    cases ra
    exact cat_tup0 pa pb ⟨.ref b, H, I, rfl, q0 rfl⟩
  · have hu : us ≠ [] := fun z => hx (ra.nil_iff.mp z)
    refine HT.cat_tup pa pb hu (fun z => ⟨.ref a, H, I, rfl, q1 hx (rb.nil_iff.mp z)⟩) (fun z => ?_) (by rw [← ra.length, ← rb.length]; exact hz)
    have hp : H s.heap.objs.size = Option.none := I.hok.fresh (Nat.le_refl _)
    refine ⟨.ref s.heap.objs.size, upd H s.heap.objs.size _, I.laid (t' := s.toks) (o := .frz { cls := .type "tuple", data := .seq (us ++ ws).toArray } (.tup (xs ++ ys))) (fun c oc qc => Heap.get?_push_of_some _ qc) (Nat.le_refl _) ?_, rfl, q2 hx (fun w => z (rb.nil_iff.mpr w)) _ _ hp rfl⟩
    exact frz_tup (by rw [List.length_append]; exact hz) (ra.append rb) (Heap.get?_push_size _ rfl)
def rAdd (K : PySem.W.Frag) : R2 := fun x y H Q => (rI0 (fun i j => .int (i + j))) x y H Q ∨ (∃ i k, x = .int i ∧ y = .bl k ∧ Q (.int (i + PyProof.Rows.b2i k)) H) ∨ (∃ i j, x = .str i ∧ y = .str j ∧ i.length + j.length ≤ sizeLine ∧ Q (.str (i ++ j)) H) ∨ rCatN K x y H Q ∨ rCat x y H Q
theorem op_addA {X : Cx} : OpR X (binaryOp .Add) (rAdd X.K) := op_add.or (op_add_ib.or (op_add_str.or (op_catN.or op_cat)))
theorem os_add {g : Gs} {E : XK} {H0 : Hp} : OpSem g E H0 (rAdd g.K) fAdd := by
  intro w σI B σ H Q x y dx dy s rx ry p
  unfold fAdd at p
  split at p
  · rename_i i j
    exact .inl ⟨i, j, rx.int s, ry.int s, p.nowR s (rep_int g w _)⟩
  · rename_i i b
    exact .inr (.inl ⟨i, b, rx.int s, ry.bool s, p.nowR s (by simp only [Rep]; cases b <;> rfl)⟩)
  · rename_i a b
    split at p
    · rename_i h
      exact .inr (.inr (.inl ⟨a, b, rx.str s, ry.str s, h, p.nowR s (rep_str g w _)⟩))
    · exact p.elim
  · rename_i ds es
    split at p
    · rename_i h
      obtain ⟨a, vs, rfl, q1, r1⟩ := rx.tup s
      obtain ⟨b, us, rfl, q2, r2⟩ := ry.tup s
      refine .inr (.inr (.inr (.inl ⟨a, b, vs, us, rfl, rfl, q1, q2, by rw [r1.len, r2.len]; exact h, ?_, ?_, ?_⟩)))
      · intro e
        have hd : ds = [] := List.eq_nil_of_length_eq_zero (by rw [← r1.len, e]; rfl)
        subst hd
        exact p.nowR s (ry.tupR s)
      · intro e e2
        have hd : es = [] := List.eq_nil_of_length_eq_zero (by rw [← r2.len, e2]; rfl)
        subst hd
        rw [List.append_nil] at p
        exact p.nowR s (rx.tupR s)
      · intro _ _ q ob hq ho
        exact p.newT s (r1.app r2) hq ho
    · exact p.elim
  · rename_i ds es
    split at p
    · rename_i h
      obtain ⟨a, vs, rfl, q1, r1⟩ := rx.lst s
      obtain ⟨b, us, rfl, q2, r2⟩ := ry.lst s
      exact .inr (.inr (.inr (.inr ⟨a, b, vs, us, rfl, rfl, q1, q2, by rw [r1.len, r2.len]; exact h, fun q hq => p.newL s (r1.app r2) hq⟩)))
    · exact p.elim
  · exact p.elim
def wideB (i : Int) : Bool := decide (-(2 ^ 64) < i) && decide (i < 2 ^ 64)
theorem wideB_ok {i : Int} (h : wideB i = true) : -(2 ^ 64) < i ∧ i < 2 ^ 64 := by
  unfold wideB at h
  simp only [Bool.and_eq_true, decide_eq_true_eq] at h
  exact h
abbrev fSub := fI2 (fun i j => .int (i - j)) fun _ _ => true
abbrev fMod := fI2 (fun i j => .int (i % j)) fun _ j => decide (0 < j)
abbrev fDiv := fI2 (fun i j => .int (i / j)) fun _ j => decide (0 < j) && decide (j < 1073741824)
abbrev fPow := fI2 (fun i j => .int (i ^ j.toNat)) fun i j => decide (0 ≤ j) && decide (j ≤ 1000000) && decide (i.natAbs < 2 ^ 64)
abbrev fShl := fI2 (fun i j => .int (i * 2 ^ j.toNat)) fun i j => decide (0 ≤ j) && decide (j ≤ 1000000) && decide (i.natAbs < 2 ^ 64)
theorem os_sub {g : Gs} {E : XK} {H0 : Hp} : OpSem g E H0 (rI0 fun i j => .int (i - j)) fSub := os_I0 fun w i j => rep_int g w _
theorem os_mod {g : Gs} {E : XK} {H0 : Hp} : OpSem g E H0 (rI (fun _ j => 0 < j) fun i j => .int (i % j)) fMod := os_I (fun i j h => of_decide_eq_true h) fun w i j => rep_int g w _
theorem os_div {g : Gs} {E : XK} {H0 : Hp} : OpSem g E H0 (rI CDiv fun i j => .int (i / j)) fDiv := os_I (fun i j h => by
  simp only [Bool.and_eq_true, decide_eq_true_eq] at h; exact h) fun w i j => rep_int g w _
theorem os_pow {g : Gs} {E : XK} {H0 : Hp} : OpSem g E H0 (rI CPow fun i j => .int (i ^ j.toNat)) fPow := os_I (fun i j h => by
  simp only [Bool.and_eq_true, decide_eq_true_eq] at h; exact ⟨h.1.1, h.1.2, h.2⟩) fun w i j => rep_int g w _
theorem os_shl {g : Gs} {E : XK} {H0 : Hp} : OpSem g E H0 (rI CPow fun i j => .int (i * 2 ^ j.toNat)) fShl := os_I (fun i j h => by
  simp only [Bool.and_eq_true, decide_eq_true_eq] at h; exact ⟨h.1.1, h.1.2, h.2⟩) fun w i j => rep_int g w _

section
variable {g : Gs} {E : XK} {H0 : Hp} {X : Cx} {a b : Expr} {ma mb : Ev} {pos : Pos} {b1 b2 : Bool}
theorem s_add (c : Ok g X) (ha : Snd g E H0 X b1 a ma) (hb : Snd g E H0 X b2 b mb) : Snd g E H0 X false (.BinOp a .Add b pos) (mBin fAdd ma mb) := s_bin (c.K ▸ op_addA) os_add ha hb
theorem s_sub (ha : Snd g E H0 X b1 a ma) (hb : Snd g E H0 X b2 b mb) : Snd g E H0 X false (.BinOp a .Sub b pos) (mBin fSub ma mb) := s_bin op_sub os_sub ha hb
theorem s_mod (ha : Snd g E H0 X b1 a ma) (hb : Snd g E H0 X b2 b mb) : Snd g E H0 X false (.BinOp a .Mod b pos) (mBin fMod ma mb) := s_bin op_mod os_mod ha hb
theorem s_div (ha : Snd g E H0 X b1 a ma) (hb : Snd g E H0 X b2 b mb) : Snd g E H0 X false (.BinOp a .FloorDiv b pos) (mBin fDiv ma mb) := s_bin op_fdiv os_div ha hb
theorem s_pow (ha : Snd g E H0 X b1 a ma) (hb : Snd g E H0 X b2 b mb) : Snd g E H0 X false (.BinOp a .Pow b pos) (mBin fPow ma mb) := s_bin op_pow os_pow ha hb
theorem s_shl (ha : Snd g E H0 X b1 a ma) (hb : Snd g E H0 X b2 b mb) : Snd g E H0 X false (.BinOp a .LShift b pos) (mBin fShl ma mb) := s_bin op_shl os_shl ha hb
end


/-! ### order of whole numbers -/
abbrev fLt := fI2 (fun i j => .bool (decide (i < j))) fun _ _ => true
abbrev fLe := fI2 (fun i j => .bool (decide (i ≤ j))) fun _ _ => true
abbrev fGt := fI2 (fun i j => .bool (decide (j < i))) fun _ _ => true
abbrev fGe := fI2 (fun i j => .bool (decide (j ≤ i))) fun _ _ => true
/-- a comparison that is known -/
structure Cmp (g : Gs) (E : XK) (H0 : Hp) (X : Cx) (op : CmpOp) (f : D → D → Bs → Rs D) : Prop where
  ex : ∃ r, OpR X (compareOp op) r ∧ OpSem g E H0 r f
  bl : ∀ d e B, f d e B = .bad ∨ ∃ b B', f d e B = .ok (.bool b) B'
theorem fI2_bl (k : Int → Int → Bool) (c : Int → Int → Bool) : ∀ d e B, fI2 (fun i j => .bool (k i j)) c d e B = .bad ∨ ∃ b B', fI2 (fun i j => .bool (k i j)) c d e B = .ok (.bool b) B' := fun d e B => by
  cases d <;> first | exact .inl rfl | skip
  cases e <;> first | exact .inl rfl | skip
  rename_i i j
  simp only [fI2]
  by_cases h : c i j = true
  · rw [if_pos h]; exact .inr ⟨_, _, rfl⟩
  · rw [if_neg h]; exact .inl rfl
section
variable {g : Gs} {E : XK} {H0 : Hp} {X : Cx}
theorem c_lt : Cmp g E H0 X .Lt fLt := ⟨⟨_, op_lt, os_I0 fun w i j => rep_bool g w _⟩, fI2_bl _ _⟩
theorem c_le : Cmp g E H0 X .LtE fLe := ⟨⟨_, op_le, os_I0 fun w i j => rep_bool g w _⟩, fI2_bl _ _⟩
theorem c_gt : Cmp g E H0 X .Gt fGt := ⟨⟨_, op_gt, os_I0 fun w i j => rep_bool g w _⟩, fI2_bl _ _⟩
theorem c_ge : Cmp g E H0 X .GtE fGe := ⟨⟨_, op_ge, os_I0 fun w i j => rep_bool g w _⟩, fI2_bl _ _⟩
end
end Hf

set_option Elab.async false
set_option linter.all false
set_option maxRecDepth 100000
set_option maxHeartbeats 4000000
namespace Hf
open PySem PySem.Spec PyProof.Rows L2
theorem tuple_mulS (l : Addr) (items : Array Value) (n : Nat) (dd : Option Addr) (sl : Array (Option Value)) (x : Int) (u : Tok) (c0 : (decide (x < -(2 ^ 63)) || decide (x ≥ 2 ^ 63)) = false) (c1 : (items.isEmpty || x == 1) = true) :
    Meets (Builtin.«tuple.__mul__» ⟨[.ref l, .int x u], []⟩) (fun _ R s => s.heap.get? l = some { cls := .type "tuple", dict := dd, data := .seq items n, slots := sl } ∧ R (.ok (.ret (Value.ref l))) s) :=
  .of_wp fun prog w A R s h => by
    obtain ⟨hp, g, d, tk, os⟩ := s
    obtain ⟨hl, h⟩ := h
    have f1 := AutoSeq1.idx_int
    wp_walk using wpAny_loadPart' hl
    repeat (first
      | (refine wpAny_ite_false (decide_eq_false (by rw [c0]; exact Bool.false_ne_true)) ?_; wp_walk using wpAny_loadPart' hl)
      | (refine wpAny_ite_true (decide_eq_true c1) ?_; wp_walk using wpAny_loadPart' hl))
    exact ⟨_, rfl, h⟩
theorem tuple_mul0 (l : Addr) (items : Array Value) (n : Nat) (dd : Option Addr) (sl : Array (Option Value)) (x : Int) (u : Tok) (c0 : (decide (x < -(2 ^ 63)) || decide (x ≥ 2 ^ 63)) = false) (c1 : (items.isEmpty || x == 1) = false) (c2 : (decide (x ≤ 0) || items.isEmpty) = true) :
    Meets (Builtin.«tuple.__mul__» ⟨[.ref l, .int x u], []⟩) (fun _ R s => s.heap.get? l = some { cls := .type "tuple", dict := dd, data := .seq items n, slots := sl } ∧
      R (.ok (.ret (Value.ref s.heap.objs.size))) { s with heap := s.heap.push { cls := Value.type "tuple", data := Data.seq #[] }, toks := s.toks }) :=
  .of_wp fun prog w A R s h => by
    obtain ⟨hp, g, d, tk, os⟩ := s
    obtain ⟨hl, h⟩ := h
    have f1 := AutoSeq1.idx_int
    wp_walk using wpAny_loadPart' hl
    repeat (first
      | (refine wpAny_ite_false (decide_eq_false (by rw [c0]; exact Bool.false_ne_true)) ?_; wp_walk using wpAny_loadPart' hl)
      | (refine wpAny_ite_false (decide_eq_false (by rw [c1]; exact Bool.false_ne_true)) ?_; wp_walk using wpAny_loadPart' hl)
      | (refine wpAny_ite_true (decide_eq_true c2) ?_; wp_walk using wpAny_loadPart' hl))
    exact ⟨_, rfl, h⟩

def rRepTA (K : PySem.W.Frag) : R2 := fun x y H Q => ∃ l k xs, x = .ref l ∧ y = .int k ∧ SqT K H l xs ∧ -1000 < k ∧ k ≤ 1000 ∧ xs.length ≤ 1000 ∧
  ((xs = [] ∨ k = 1) → Q (.ref l) H) ∧ (xs ≠ [] → k ≠ 1 → ∀ p (ob : Obj), H p = none → ob.dict = none → Q (.ref p) (upd H p (.frz ob (.tup (List.replicate k.toNat xs).flatten))))
theorem op_repTA {X : Cx} : OpR X (binaryOp .Mult) (rRepTA X.K) := by
  intro pins s σ H x y v u Q I rx ry h
  obtain ⟨l, k, xs, rfl, rfl, hT, h1, h2, hz, q0, q⟩ := h
  cases rx
  obtain ⟨t, rfl⟩ := ry
  obtain ⟨its, r, ⟨⟨cls, dd, data, sl⟩, ho, hc, n, hd⟩, hs⟩ := I.tuple hT
  simp only at hc hd
  subst hc hd
  have hle : its.length = xs.length := r.length.symm
  have hfree : H s.heap.objs.size = none := I.hok.fresh (Nat.le_refl _)
  have c0 : (decide (k < -(2 ^ 63)) || decide (k ≥ 2 ^ 63)) = false := by
    rw [decide_eq_false (by omega), decide_eq_false (by omega)] <;> rfl
  by_cases hs1 : xs = [] ∨ k = 1
  · have c1 : (its.toArray.isEmpty || k == 1) = true := by
      rcases hs1 with e | e
      · subst e
        cases its with
        | nil => rfl
        | cons a b => simp at hle
      · subst e; simp
    exact wpAny_binaryOp_repeat_ref (T := "tuple") (U := "int") (by decide) ⟨_, ho, rfl⟩ (fun s' => typeIs_int s' k t) noFill_tuple_mul F.fills_int_mul F.slot_int_rmul repeat_tuple F.slot_int_index.lookup
      (call_meets F.slot_int_rmul (typeIs_int s k t) F.entry_int_rmul (F.args_int_rmul_2 _ _) (int_rmul_tuple k t l its.toArray n dd sl)
        ⟨ho, rfl, ⟨_, ho, rfl⟩, call_meets F.slot_tuple_mul ⟨_, ho, rfl⟩ F.entry_tuple_mul (F.args_tuple_mul_2 _ _) (tuple_mulS l its.toArray n dd sl k t c0 c1) ⟨ho, ⟨.ref l, H, I, rfl, q0 hs1⟩⟩⟩)
  · have hx : xs ≠ [] := fun e => hs1 (.inl e)
    have hk1 : k ≠ 1 := fun e => hs1 (.inr e)
    have hi : its.toArray.isEmpty = false := by
      cases its with
      | nil => exact absurd (List.eq_nil_of_length_eq_zero hle.symm) hx
      | cons a b => rfl
    have c1 : (its.toArray.isEmpty || k == 1) = false := by
      rw [hi, Bool.false_or]
      exact beq_eq_false_iff_ne.mpr hk1
    by_cases hk : k ≤ 0
    case neg =>
      have d2 : (decide (k ≤ 0) || its.toArray.isEmpty) = false := by
        rw [hi, Bool.or_false]; exact decide_eq_false hk
      have hm : ((its.toArray.size : Nat) : Int) * k ≤ 1000000 := by
        rw [List.size_toArray, hle]
        have := Int.mul_le_mul_of_nonneg_right (show ((xs.length : Nat) : Int) ≤ 1000 by omega) (show 0 ≤ k by omega)
        omega
      have lf : (List.replicate k.toNat its).flatten.length ≤ sizeLine := by
        rw [PyProof.Rows.lm_len_rep_flat, hle, sizeLine_eq]
        have := Nat.mul_le_mul (show k.toNat ≤ 1000 by omega) hz
        omega
      have d4 : Builtin.Tuple.tupleTooMany (((its.toArray.size : Nat) : Int) * k) = false := by
        unfold Builtin.Tuple.tupleTooMany
        rw [sizeLine_eq]; exact decide_eq_false (by omega)
      refine wpAny_binaryOp_repeat_ref (U := "int") (T := "tuple") (by decide) ⟨_, ho, rfl⟩ (fun s1 => typeIs_int s1 k t) noFill_tuple_mul F.fills_int_mul F.slot_int_rmul repeat_tuple F.slot_int_index.lookup
        (call_meets F.slot_int_rmul (typeIs_int s k t) F.entry_int_rmul (F.args_int_rmul_2 _ _) (int_rmul_tuple k t l its.toArray n dd sl)
          ⟨ho, rfl, ⟨_, ho, rfl⟩, call_meets F.slot_tuple_mul ⟨_, ho, rfl⟩ F.entry_tuple_mul (F.args_tuple_mul_2 _ _) (tuple_mulW l its.toArray n dd sl k t c0 c1 d2 (by omega) d4 (by rw [size_rep, List.size_toArray]; exact lf)) ⟨ho, ?_⟩⟩)
      rw [size_rep]
      exact ⟨.ref s.heap.objs.size, upd H s.heap.objs.size _, I.laid (t' := s.toks) (o := .frz { cls := .type "tuple", data := .seq (List.replicate k.toNat its).flatten.toArray } (.tup (List.replicate k.toNat xs).flatten)) (fun c oc qc => Heap.get?_push_of_some _ qc) (Nat.le_refl _)
        (frz_tup (by rw [← (r.rep k.toNat).length] at lf; exact lf) (r.rep k.toNat) (Heap.get?_push_size _ rfl)), rfl, q hx hk1 _ _ hfree rfl⟩
    have c2 : (decide (k ≤ 0) || its.toArray.isEmpty) = true := by rw [decide_eq_true hk]; rfl
    refine wpAny_binaryOp_repeat_ref (T := "tuple") (U := "int") (by decide) ⟨_, ho, rfl⟩ (fun s' => typeIs_int s' k t) noFill_tuple_mul F.fills_int_mul F.slot_int_rmul repeat_tuple F.slot_int_index.lookup
      (call_meets F.slot_int_rmul (typeIs_int s k t) F.entry_int_rmul (F.args_int_rmul_2 _ _) (int_rmul_tuple k t l its.toArray n dd sl)
        ⟨ho, rfl, ⟨_, ho, rfl⟩, call_meets F.slot_tuple_mul ⟨_, ho, rfl⟩ F.entry_tuple_mul (F.args_tuple_mul_2 _ _) (tuple_mul0 l its.toArray n dd sl k t c0 c1 c2) ⟨ho, ?_⟩⟩)
    have e0 : k.toNat = 0 := by omega
    rw [e0] at q
    exact ⟨.ref s.heap.objs.size, upd H s.heap.objs.size _, I.laid (t' := s.toks) (o := .frz { cls := .type "tuple", data := .seq ([] : List Value).toArray } (.tup [])) (fun c oc qc => Heap.get?_push_of_some _ qc) (Nat.le_refl _)
      (frz_tup (Nat.zero_le _) .nil (Heap.get?_push_size _ rfl)), rfl, q hx hk1 _ _ hfree rfl⟩

def fMul : D → D → Bs → Rs D
  | .int i, .int j, B => if wideB i || wideB j then .ok (.int (i * j)) B else .bad
  | .lst a, .int k, B => if decide (k < 1000) && decide (-1000 < k) && decide (a.length ≤ 1000) then .ok (.lst (List.replicate k.toNat a).flatten) B else .bad
  | .tup a, .int k, B => if decide (k < 1000) && decide (-1000 < k) && decide (a.length ≤ 1000) then .ok (.tup (List.replicate k.toNat a).flatten) B else .bad
  | _, _, _ => .bad
def rMulA (K : PySem.W.Frag) : R2 := fun x y H Q => (rI CMul fun i j => .int (i * j)) x y H Q ∨ rRep x y H Q ∨ rRepTA K x y H Q
theorem op_mulA {X : Cx} : OpR X (binaryOp .Mult) (rMulA X.K) := op_mul.or (op_rep.or op_repTA)
theorem len_rep {α : Type} (k : Nat) (xs : List α) : (List.replicate k xs).flatten.length = k * xs.length := PyProof.Rows.lm_len_rep_flat ..
theorem os_mul {g : Gs} {E : XK} {H0 : Hp} : OpSem g E H0 (rMulA g.K) fMul := by
  intro w σI B σ H Q x y dx dy s rx ry p
  unfold fMul at p
  split at p
  · rename_i i j
    split at p
    · rename_i h
      refine .inl ⟨i, j, rx.int s, ry.int s, ?_, p.nowR s (rep_int g w _)⟩
      rcases Bool.or_eq_true_iff.mp h with h | h
      · exact .inl (wideB_ok h)
      · exact .inr (wideB_ok h)
    · exact p.elim
  · rename_i ds k
    split at p
    · rename_i h
      simp only [Bool.and_eq_true, decide_eq_true_eq] at h
      obtain ⟨⟨h1, h2⟩, h3⟩ := h
      obtain ⟨a, vs, rfl, q1, r1⟩ := rx.lst s
      refine .inr (.inl ⟨a, k, vs, rfl, ry.int s, q1, by omega, by omega, ?_, fun q hq => p.newL s (r1.rep _) hq⟩)
      rw [r1.len, sizeLine_eq]
      have a1 : ds.length * k.toNat ≤ 1000 * 1000 := Nat.mul_le_mul h3 (by omega)
      omega
    · exact p.elim
  · rename_i ds k
    split at p
    · rename_i h
      simp only [Bool.and_eq_true, decide_eq_true_eq] at h
      obtain ⟨⟨h1, h2⟩, h3⟩ := h
      obtain ⟨a, vs, rfl, q1, r1⟩ := rx.tup s
      refine .inr (.inr ⟨a, k, vs, rfl, ry.int s, q1, by omega, by omega, by rw [r1.len]; exact h3, ?_, fun _ _ q ob hq ho => p.newT s (r1.rep _) hq ho⟩)
      rintro (e | e)
      · have hd : ds = [] := List.eq_nil_of_length_eq_zero (by rw [← r1.len, e]; rfl)
        subst hd
        have e : (List.replicate k.toNat ([] : List D)).flatten = [] := by simp
        rw [e] at p
        exact p.nowR s (rx.tupR s)
      · subst e
        simp at p
        exact p.nowR s (rx.tupR s)
    · exact p.elim
  · exact p.elim
section
variable {g : Gs} {E : XK} {H0 : Hp} {X : Cx} {a b : Expr} {ma mb : Ev} {pos : Pos} {b1 b2 : Bool}
theorem s_mul (c : Ok g X) (ha : Snd g E H0 X b1 a ma) (hb : Snd g E H0 X b2 b mb) : Snd g E H0 X false (.BinOp a .Mult b pos) (mBin fMul ma mb) := s_bin (c.K ▸ op_mulA) os_mul ha hb
end

/-! ### equality of data -/
mutual
def toPy : D → PyData
  | .none => .none
  | .bool b => .bool b
  | .int i => .int i
  | .str x => .str x
  | .tup ds => .tuple (toPys ds)
  | .lst ds => .list (toPys ds)
  | .kd k x => .dict [(.int k, .int x)]
  | _ => .dict []
def toPys : List D → List PyData
  | [] => []
  | d :: ds => toPy d :: toPys ds
end
mutual
theorem Rep.dp {g : Gs} {w : Wd} {H : Hp} (hs : Same w.P H) : ∀ (d : D) (v : V), Rep g w d v → (toPy d).canLay0 = true → Dp g.K H v (toPy d)
  | .none, v, h, _ => by simp only [Rep] at h; subst h; exact .non
  | .bool b, v, h, _ => by simp only [Rep] at h; subst h; exact .bl b
  | .int b, v, h, _ => by simp only [Rep] at h; subst h; exact .int b
  | .str b, v, h, _ => by simp only [Rep] at h; subst h; exact .str b
  | .tup ds, v, h, c => by
    simp only [Rep] at h
    obtain ⟨a, vs, rfl, q, r⟩ := h
    simp only [toPy, PyData.canLay0] at c ⊢
    exact .tup (sqT_mono hs q.T) (Reps.dp hs ds vs r c)
  | .lst ds, v, h, c => by
    simp only [Rep] at h
    obtain ⟨a, vs, rfl, q, r⟩ := h
    simp only [toPy, PyData.canLay0] at c ⊢
    exact .lst (.inl (.inl (hs _ _ q))) (Reps.dp hs ds vs r c)
  | .scr ds, v, h, c => by simp [toPy, PyData.canLay0] at c
  | .prs ds, v, h, c => by simp [toPy, PyData.canLay0] at c
  | .dct ks ds, v, h, c => by simp [toPy, PyData.canLay0] at c
  | .inst k ds, v, h, c => by simp [toPy, PyData.canLay0] at c
  | .box n, v, h, c => by simp [toPy, PyData.canLay0] at c
  | .cls n, v, h, c => by simp [toPy, PyData.canLay0] at c
  | .ptr n, v, h, c => by simp [toPy, PyData.canLay0] at c
  | .kd k x, v, h, c => by simp [toPy, PyData.canLay0] at c
  | .fnT k, v, h, c => by simp [toPy, PyData.canLay0] at c
theorem Reps.dp {g : Gs} {w : Wd} {H : Hp} (hs : Same w.P H) : ∀ (ds : List D) (vs : List V), Reps g w ds vs → PyData.canLayAll0 (toPys ds) = true → DpAll g.K H vs (toPys ds)
  | [], vs, h, _ => by simp only [Reps] at h; subst h; exact .nil
  | d :: ds, vs, h, c => by
    simp only [Reps] at h
    obtain ⟨v, us, rfl, r, rs⟩ := h
    simp only [toPys, PyData.canLayAll0, Bool.and_eq_true] at c ⊢
    exact .cons (Rep.dp hs d v r c.1) (Reps.dp hs ds us rs c.2)
end
theorem RepO.dp {g : Gs} {w : Wd} {H H0 : Hp} {σI : Sl} {σ : L2.St} {B : Bs} {x : V} {d : D} (s : S0 g H0 w σI B σ H) (h : RepO g w σI σ d x) (c : (toPy d).canLay0 = true) : Dp g.K H x (toPy d) := by
  rcases h with h | h
  · exact Rep.dp s.rb.sub d x h c
  · have h' : RepO g w σI σ d x := .inr h
    obtain ⟨i, h1, h2⟩ := h
    obtain ⟨a, o, e, ha, ct, _⟩ := s.ow i _ h1
    cases d <;> simp [Cont] at ct
    · obtain ⟨a, vs, rfl, q, r⟩ := h'.lst s
      simp only [toPy, PyData.canLay0] at c ⊢
      exact .lst (.inl (.inl q)) (Reps.dp s.rb.sub _ vs r c)
    · simp [toPy, PyData.canLay0] at c
    · simp [toPy, PyData.canLay0] at c
/-- plain data of some depth -/
def shp (d : D) : Bool := SeqAt.shaped (toPy d)
def eqD (d e : D) : Bool := PyData.eqv (toPy d) (toPy e)
def fEq : D → D → Bs → Rs D := fun d e B => if shp d && shp e then .ok (.bool (eqD d e)) B else .bad
def fNe : D → D → Bs → Rs D := fun d e B => if shp d && shp e then .ok (.bool (!eqD d e)) B else .bad
theorem os_eq {g : Gs} {E : XK} {H0 : Hp} : OpSem g E H0 (rEqD g.K) fEq := by
  intro w σI B σ H Q x y dx dy s rx ry p
  unfold fEq at p
  split at p
  · rename_i h
    obtain ⟨h1, h2⟩ := Bool.and_eq_true_iff.mp h
    exact ⟨_, _, rx.dp s (SeqAt.canLay_of_shaped h1), ry.dp s (SeqAt.canLay_of_shaped h2), h1, h2, p.nowR s (rep_bool g w _)⟩
  · exact p.elim
theorem os_ne {g : Gs} {E : XK} {H0 : Hp} : OpSem g E H0 (rNeD g.K) fNe := by
  intro w σI B σ H Q x y dx dy s rx ry p
  unfold fNe at p
  split at p
  · rename_i h
    obtain ⟨h1, h2⟩ := Bool.and_eq_true_iff.mp h
    exact ⟨_, _, rx.dp s (SeqAt.canLay_of_shaped h1), ry.dp s (SeqAt.canLay_of_shaped h2), h1, h2, p.nowR s (rep_bool g w _)⟩
  · exact p.elim
/-! ### in -/
def rInT (K : PySem.W.Frag) : R2 := fun x y H Q => ∃ d ds, Dp K H x d ∧ Dp K H y (.tuple ds) ∧ SeqAt.shaped d = true ∧ SeqAt.shaped (.tuple ds) = true ∧ Q (.bl (ds.any fun z => PyData.eqv z d)) H
def rNotInT (K : PySem.W.Frag) : R2 := fun x y H Q => ∃ d ds, Dp K H x d ∧ Dp K H y (.tuple ds) ∧ SeqAt.shaped d = true ∧ SeqAt.shaped (.tuple ds) = true ∧ Q (.bl (!ds.any fun z => PyData.eqv z d)) H
theorem op_inT {X : Cx} (hu : X.A.units + 65 < cLine) : OpR X (compareOp .In) (rInT X.K) := by
  intro pins s σ H x y v u Q I rx ry h
  obtain ⟨d, ds, hd, he, sd, se, q⟩ := h
  obtain ⟨as, r1⟩ := Dp.reads I d x v hd rx
  obtain ⟨bs, r2⟩ := Dp.reads I (.tuple ds) y u he ry
  exact SeqAt.in_tuple_reads r2 r1 (SeqAt.canLay_of_shaped se) (SeqAt.canLay_of_shaped sd) (room_in_shaped sd hu) ⟨.bl _, H, I, rfl, q⟩
theorem op_notInT {X : Cx} (hu : X.A.units + 65 < cLine) : OpR X (compareOp .NotIn) (rNotInT X.K) := by
  intro pins s σ H x y v u Q I rx ry h
  obtain ⟨d, ds, hd, he, sd, se, q⟩ := h
  obtain ⟨as, r1⟩ := Dp.reads I d x v hd rx
  obtain ⟨bs, r2⟩ := Dp.reads I (.tuple ds) y u he ry
  exact SeqAt.notIn_tuple_reads r2 r1 (SeqAt.canLay_of_shaped se) (SeqAt.canLay_of_shaped sd) (room_in_shaped sd hu) ⟨.bl _, H, I, rfl, q⟩
def inD (d : D) (ds : List D) : Bool := (toPys ds).any fun z => PyData.eqv z (toPy d)
def fInG (f : Bool → Bool) : D → D → Bs → Rs D
  | d, .lst ds, B => if shp d && shp (.lst ds) then .ok (.bool (f (inD d ds))) B else .bad
  | d, .tup ds, B => if shp d && shp (.tup ds) then .ok (.bool (f (inD d ds))) B else .bad
  | _, _, _ => .bad
abbrev fIn := fInG fun b => b
abbrev fNotIn := fInG fun b => !b
theorem os_in {g : Gs} {E : XK} {H0 : Hp} : OpSem g E H0 (fun x y H Q => rInD g.K x y H Q ∨ rInT g.K x y H Q) fIn := by
  intro w σI B σ H Q x y dx dy s rx ry p
  unfold fIn fInG at p
  split at p
  · split at p
    · rename_i h
      obtain ⟨h1, h2⟩ := Bool.and_eq_true_iff.mp h
      exact .inl ⟨_, _, rx.dp s (SeqAt.canLay_of_shaped h1), ry.dp s (SeqAt.canLay_of_shaped h2), h1, h2, p.nowR s (rep_bool g w _)⟩
    · exact p.elim
  · split at p
    · rename_i h
      obtain ⟨h1, h2⟩ := Bool.and_eq_true_iff.mp h
      exact .inr ⟨_, _, rx.dp s (SeqAt.canLay_of_shaped h1), ry.dp s (SeqAt.canLay_of_shaped h2), h1, h2, p.nowR s (rep_bool g w _)⟩
    · exact p.elim
  · exact p.elim
theorem os_notin {g : Gs} {E : XK} {H0 : Hp} : OpSem g E H0 (fun x y H Q => rNotInD g.K x y H Q ∨ rNotInT g.K x y H Q) fNotIn := by
  intro w σI B σ H Q x y dx dy s rx ry p
  unfold fNotIn fInG at p
  split at p
  · split at p
    · rename_i h
      obtain ⟨h1, h2⟩ := Bool.and_eq_true_iff.mp h
      exact .inl ⟨_, _, rx.dp s (SeqAt.canLay_of_shaped h1), ry.dp s (SeqAt.canLay_of_shaped h2), h1, h2, p.nowR s (rep_bool g w _)⟩
    · exact p.elim
  · split at p
    · rename_i h
      obtain ⟨h1, h2⟩ := Bool.and_eq_true_iff.mp h
      exact .inr ⟨_, _, rx.dp s (SeqAt.canLay_of_shaped h1), ry.dp s (SeqAt.canLay_of_shaped h2), h1, h2, p.nowR s (rep_bool g w _)⟩
    · exact p.elim
  · exact p.elim
section
variable {g : Gs} {E : XK} {H0 : Hp} {X : Cx} {a b c : Expr} {ma mb mc : Ev} {pos : Pos}
theorem Ok.u65 (k : Ok g X) : X.A.units + 65 < cLine := by have := k.un; omega
theorem blB (c : Bool) (b : Bool) (B : Bs) : (if c then (Rs.ok (D.bool b) B) else .bad) = Rs.bad ∨ ∃ x B', (if c then (Rs.ok (D.bool b) B) else .bad) = Rs.ok (.bool x) B' := by
  cases c
  · exact .inl rfl
  · exact .inr ⟨_, _, rfl⟩
theorem fIn_bl (f : Bool → Bool) : ∀ d e B, fInG f d e B = .bad ∨ ∃ b B', fInG f d e B = .ok (.bool b) B' := fun d e B => by
  cases e <;> first | exact .inl rfl | exact blB _ _ _
theorem c_eq (k : Ok g X) : Cmp g E H0 X .Eq fEq := ⟨⟨_, k.K ▸ op_eqD (by have := k.un; omega), os_eq⟩, fun _ _ _ => blB _ _ _⟩
theorem c_ne (k : Ok g X) : Cmp g E H0 X .NotEq fNe := ⟨⟨_, k.K ▸ op_neD (by have := k.un; omega), os_ne⟩, fun _ _ _ => blB _ _ _⟩
theorem c_in (k : Ok g X) : Cmp g E H0 X .In fIn := ⟨⟨_, k.K ▸ (op_inD k.u65).or (op_inT k.u65), os_in⟩, fIn_bl _⟩
theorem c_notin (k : Ok g X) : Cmp g E H0 X .NotIn fNotIn := ⟨⟨_, k.K ▸ (op_notInD k.u65).or (op_notInT k.u65), os_notin⟩, fIn_bl _⟩
/-! ### is None -/
def isN : D → Bool
  | .none => true
  | _ => false
def fIs : D → D → Bs → Rs D := fun d e B => if isN e then .ok (.bool (isN d)) B else .bad
def fIsNot : D → D → Bs → Rs D := fun d e B => if isN e then .ok (.bool (!isN d)) B else .bad
theorem isN_rep {w : Wd} {H : Hp} {σI : Sl} {σ : L2.St} {B : Bs} {x : V} {d : D} (s : S0 g H0 w σI B σ H) (r : RepO g w σI σ d x) : decide (x = .non) = isN d := by
  have fin : ∀ a, x = V.ref a → decide (x = V.non) = false := fun a e => by subst e; rfl
  cases d with
  | none => rw [r.none s]; rfl
  | bool b => rw [r.bool s]; rfl
  | int i => rw [r.int s]; rfl
  | str i => rw [r.str s]; rfl
  | tup ds => obtain ⟨a, _, e, _⟩ := r.tup s; exact fin a e
  | lst ds => obtain ⟨a, _, e, _⟩ := r.lst s; exact fin a e
  | scr ds => obtain ⟨a, _, e, _⟩ := r.scr s; exact fin a e
  | prs ds => obtain ⟨a, _, e, _⟩ := r.prs s; exact fin a e
  | dct ks ds => obtain ⟨a, _, e, _⟩ := r.dct s; exact fin a e
  | box n => obtain ⟨a, e, _⟩ := r.box s; exact fin a e
  | cls n =>
    have := r.of s (by simp) (by simp) (by simp)
    simp only [Rep] at this
    exact fin _ this.1
  | ptr n =>
    have := r.of s (by simp) (by simp) (by simp)
    simp only [Rep] at this
    exact fin _ this
  | kd n x =>
    have := r.of s (by simp) (by simp) (by simp)
    simp only [Rep] at this
    obtain ⟨a, e, _⟩ := this
    exact fin a e
  | fnT n =>
    have := r.of s (by simp) (by simp) (by simp)
    simp only [Rep] at this
    obtain ⟨a, _, _, _, e, _⟩ := this
    exact fin a e
  | inst c ds =>
    rcases r with r | ⟨i, h1, h2⟩
    · simp only [Rep] at r
      obtain ⟨a, _, _, e, _⟩ := r
      exact fin a e
    · obtain ⟨a, o, e, _⟩ := s.ow i _ h1
      rw [h2] at e; cases e; rfl
theorem os_is : OpSem g E H0 (fun x y H Q => y = .non ∧ Q (.bl (decide (x = .non))) H) fIs := by
  intro w σI B σ H Q x y dx dy s rx ry p
  unfold fIs at p
  split at p
  · rename_i h
    cases dy <;> first | exact absurd h Bool.false_ne_true | skip
    exact ⟨ry.none s, by rw [isN_rep s rx]; exact p.nowR s (rep_bool g w _)⟩
  · exact p.elim
theorem os_isnot : OpSem g E H0 (fun x y H Q => y = .non ∧ Q (.bl (!decide (x = .non))) H) fIsNot := by
  intro w σI B σ H Q x y dx dy s rx ry p
  unfold fIsNot at p
  split at p
  · rename_i h
    cases dy <;> first | exact absurd h Bool.false_ne_true | skip
    exact ⟨ry.none s, by rw [isN_rep s rx]; exact p.nowR s (rep_bool g w _)⟩
  · exact p.elim
theorem c_is : Cmp g E H0 X .Is fIs := ⟨⟨_, op_isN, os_is⟩, fun _ _ _ => blB _ _ _⟩
theorem c_isnot : Cmp g E H0 X .IsNot fIsNot := ⟨⟨_, op_notN, os_isnot⟩, fun _ _ _ => blB _ _ _⟩
end
end Hf

set_option Elab.async false
set_option linter.all false
set_option maxRecDepth 100000
set_option maxHeartbeats 4000000
namespace Hf
open PySem PySem.Spec PyProof.Rows L2

/-! ### comparisons -/
section
variable {g : Gs} {E : XK} {H0 : Hp} {X : Cx} {a b c : Expr} {ma mb mc : Ev} {pos : Pos} {b1 b2 b3 bo : Bool} {op op' : CmpOp} {f f' : D → D → Bs → Rs D}
theorem s_cmp (P : Cmp g E H0 X op f) (ha : Snd g E H0 X b1 a ma) (hb : Snd g E H0 X b2 b mb) (hm : behindInMarks op b = false := by rfl) : Snd g E H0 X false (.Compare a [op] [b] pos) (mBin f ma mb) := by
  obtain ⟨r, h1, h2⟩ := P.ex
  exact weak (pe_cmpR h1 ha hb hm) (tOp_of h2)
def toB (m : Rs D) : Rs Bool := m.bind fun d B => match d with
  | .bool b => .ok b B
  | _ => .bad
def mCmpT (f : D → D → Bs → Rs D) (ma mb : Ev) : Et := fun σI B => (ma σI B).bind fun x B1 => (mb σI B1).bind fun y B2 => toB (f x y B2)
theorem cmp_end (P : Cmp g E H0 X op f) {w : Wd} {H : Hp} {σI : Sl} {σ : L2.St} {B : Bs} {Q : Bool → Hp → Prop} {x y : D} (p : PostT g E w H Q (toB (f x y B))) :
    PostE g E w H σI σ false (fun x H' => ∃ k, x = .bl k ∧ Q k H') (f x y B) := by
  rcases P.bl x y B with e | ⟨b, B', e⟩
  · rw [e] at p; exact p.elim
  · rw [e] at p ⊢
    intro w' v H' x rb r
    simp only [RepB, Rep] at r
    exact ⟨b, r, p w' H' x rb⟩
theorem t_cmp (P : Cmp g E H0 X op f) (ha : Snd g E H0 X b1 a ma) (hb : Snd g E H0 X b2 b mb) (hm : behindInMarks op b = false := by rfl) : SndT g E H0 X (.Compare a [op] [b] pos) (mCmpT f ma mb) := by
  obtain ⟨r, h1, h2⟩ := id P.ex
  refine weakT (pt_cmpR h1 ha hb hm) ?_
  rintro σ H Q ⟨w, σI, B, s, p⟩
  refine tI_bindT s p fun d B1 w1 v H1 x1 s1 r1 p1 => ?_
  refine tI_bindT s1 p1 fun d2 B2 w2 v2 H2 x2 s2 r2 p2 => ?_
  exact h2 w2 σI B2 σ H2 _ v v2 d d2 s2 (r1.up.mono x2.le) r2.up (cmp_end P p2)
def mChain (f f' : D → D → Bs → Rs D) (ma mb mc : Ev) : Ev := fun σI B => (ma σI B).bind fun x B1 => (mb σI B1).bind fun y B2 => (toB (f x y B2)).bind fun k B3 =>
  if k then (mc σI B3).bind fun z B4 => f' y z B4 else .ok (.bool false) B3
theorem chain_at (P : Cmp g E H0 X op f) {w : Wd} {H : Hp} {σI : Sl} {σ : L2.St} {B : Bs} {Q : VK} {x y : D} {k : Bool → Bs → Rs D} (p : PostE g E w H σI σ false Q ((toB (f x y B)).bind k)) :
    PostE g E w H σI σ false (fun z H' => ∃ b w' B', z = .bl b ∧ Ext w H w' H' ∧ RB g w' B' H' ∧ PostE g E w' H' σI σ false Q (k b B')) (f x y B) := by
  rcases P.bl x y B with e | ⟨b, B', e⟩
  · rw [e] at p; exact p.elim
  · rw [e] at p ⊢
    intro w' v H' x rb r
    simp only [RepB, Rep] at r
    exact ⟨b, w', B', r, x, rb, PostE.ext x p⟩
theorem s_chain (P : Cmp g E H0 X op f) (P' : Cmp g E H0 X op' f') (ha : Snd g E H0 X b1 a ma) (hb : Snd g E H0 X b2 b mb) (hc : Snd g E H0 X b3 c mc) (hm : lastMarks [op, op'] [b, c] = false := by with_unfolding_all rfl) :
    Snd g E H0 X false (.Compare a [op, op'] [b, c] pos) (mChain f f' ma mb mc) := by
  obtain ⟨r, h1, h2⟩ := id P.ex
  obtain ⟨r', h1', h2'⟩ := id P'.ex
  refine weak (pe_chain h1 h1' ha hb hc hm) ?_
  rintro σ H Q ⟨w, σI, B, s, p⟩
  refine tI_bind s p fun d B1 w1 v H1 x1 s1 r1 p1 => ?_
  refine tI_bind s1 p1 fun d2 B2 w2 v2 H2 x2 s2 r2 p2 => ?_
  refine h2 w2 σI B2 σ H2 _ v v2 d d2 s2 (r1.up.mono x2.le) r2.up ?_
  have p3 := chain_at P p2
  revert p3
  generalize hm : f d d2 B2 = m
  intro p3
  cases m with
  | bad => exact p3
  | exc _ _ _ => exact p3
  | ok e B3 =>
    intro w' v' H' x rb rr
    obtain ⟨k, w3, B4, rfl, x3, rb3, p4⟩ := p3 w' v' H' x rb rr
    refine ⟨k, rfl, ?_⟩
    have s3 := s2.step x3 rb3
    cases k with
    | false => exact p4 w3 _ H' (Ext.refl _ _) rb3 (rep_bool g w3 false)
    | true =>
      refine tI_bind s3 p4 fun d5 B5 w5 v5 H5 x5 s5 r5 p5 => ?_
      exact h2' w5 σI B5 σ H5 _ v2 v5 d2 d5 s5 (r2.up.mono (x3.le.trans x5.le)) r5.up p5
def mChainT (f f' : D → D → Bs → Rs D) (ma mb mc : Ev) : Et := fun σI B => (ma σI B).bind fun x B1 => (mb σI B1).bind fun y B2 => (toB (f x y B2)).bind fun k B3 =>
  if k then (mc σI B3).bind fun z B4 => toB (f' y z B4) else .ok false B3
end
/-! ### truth -/
def fTru : D → Option Bool
  | .none => some false
  | .bool b => some b
  | .int i => some (i != 0)
  | .str x => if x.length ≤ sizeLine then some ((x.length : Int) != 0) else Option.none
  | .tup ds => some (!ds.isEmpty)
  | .lst ds => some (!ds.isEmpty)
  | .scr ds => some (!ds.isEmpty)
  | _ => Option.none
theorem isE {g : Gs} {w : Wd} {ds : List D} {vs : List V} (r : Reps g w ds vs) : (!ds.isEmpty) = !vs.isEmpty := by
  have := r.len
  cases ds <;> cases vs <;> simp_all
theorem RepO.tru {g : Gs} {w : Wd} {H H0 : Hp} {σI : Sl} {σ : L2.St} {B : Bs} {x : V} {d : D} {k : Bool} (s : S0 g H0 w σI B σ H) (r : RepO g w σI σ d x) (h : fTru d = some k) : TruV g.K x H k := by
  cases d with
  | none => rw [r.none s]; exact (Option.some.inj h).symm
  | bool b => rw [r.bool s]; exact (Option.some.inj h).symm
  | int i => rw [r.int s]; exact (Option.some.inj h).symm
  | str i =>
    rw [r.str s]
    simp only [fTru] at h
    split at h
    · rename_i hl; exact ⟨hl, (Option.some.inj h).symm⟩
    · cases h
  | tup ds => obtain ⟨a, vs, rfl, q, r⟩ := r.tup s; exact .inr (.inl ⟨vs, q, by rw [← isE r]; exact (Option.some.inj h).symm⟩)
  | lst ds => obtain ⟨a, vs, rfl, q, r⟩ := r.lst s; exact .inl ⟨vs, .inl (.inl q), by rw [← isE r]; exact (Option.some.inj h).symm⟩
  | scr ds => obtain ⟨a, vs, rfl, q, r⟩ := r.scr s; exact .inl ⟨vs, q, by rw [← isE r]; exact (Option.some.inj h).symm⟩
  | prs ds => cases h
  | dct ks ds => cases h
  | box n => cases h
  | cls n => cases h
  | ptr n => cases h
  | kd n x => cases h
  | fnT n => cases h
  | inst c ds => cases h
def tru (d : D) (B : Bs) : Rs Bool := match fTru d with
  | some b => .ok b B
  | Option.none => .bad
theorem tru_ok' {d : D} {B : Bs} {β : Type} {f : Bool → Bs → Rs β} {P : Rs β → Prop} (hp : P ((tru d B).bind f)) (hb : ¬ P .bad) : ∃ k, fTru d = some k ∧ P (f k B) := by
  unfold tru at hp
  cases h : fTru d with
  | none => rw [h] at hp; exact (hb hp).elim
  | some k => rw [h] at hp; exact ⟨k, rfl, hp⟩
def mT (m : Ev) : Et := fun σI B => (m σI B).bind fun d B1 => tru d B1
section
variable {g : Gs} {E : XK} {H0 : Hp} {X : Cx} {a b c : Expr} {ma mb mc : Ev} {ta tb tc : Et} {pos : Pos} {b1 b2 b3 bo : Bool} {rest : List Expr}
/-- an expression as a test -/
theorem t_val (k : Ok g X) (ha : Snd g E H0 X b1 a ma) (he : ∀ whole, isTrue a X.env whole = (do let v ← whole; standAt a.pos; holding [v] (truthy v)) := by intro _; rfl) : SndT g E H0 X a (mT ma) := by
  refine weakT (pt_truth ha he) ?_
  rintro σ H Q ⟨w, σI, B, s, p⟩
  refine tI_bindT s p fun d B1 w1 v H1 x1 s1 r1 p1 => ?_
  unfold tru at p1
  split at p1
  · rename_i k' e
    exact ⟨k', k.K ▸ r1.up.tru s1 e, p1 w1 H1 (Ext.refl _ _) s1.rb⟩
  · exact p1.elim
def mNotT (t : Et) : Et := fun σI B => (t σI B).bind fun k B1 => .ok (!k) B1
theorem t_not (ha : SndT g E H0 X a ta) : SndT g E H0 X (.UnaryOp .Not a pos) (mNotT ta) := by
  refine weakT (pt_not ha) ?_
  rintro σ H Q ⟨w, σI, B, s, p⟩
  exact tIt_bindT s p fun k B1 w1 H1 x1 s1 p1 => p1 w1 H1 (Ext.refl _ _) s1.rb
def mAndT (t u : Et) : Et := fun σI B => (t σI B).bind fun k B1 => if k then u σI B1 else .ok false B1
def mOrT (t u : Et) : Et := fun σI B => (t σI B).bind fun k B1 => if k then .ok true B1 else u σI B1
theorem w_and1 (ha : SndT g E H0 X a ta) : SndW g E H0 X (.BoolOp .And [a] pos) ta := pw_and1 ha
theorem w_or1 (ha : SndT g E H0 X a ta) : SndW g E H0 X (.BoolOp .Or [a] pos) ta := pw_or1 ha
theorem w_and (ha : SndT g E H0 X a ta) (hb : SndW g E H0 X (.BoolOp .And (b :: rest) pos) tb) : SndW g E H0 X (.BoolOp .And (a :: b :: rest) pos) (mAndT ta tb) := by
  refine weakW (pw_and ha hb) ?_
  rintro σ H Q ⟨w, σI, B, s, p⟩
  refine tIt_bindT s p fun k B1 w1 H1 x1 s1 p1 => ?_
  cases k with
  | true => exact ⟨w1, σI, B1, s1, p1⟩
  | false => exact p1 w1 H1 (Ext.refl _ _) s1.rb
theorem w_or (ha : SndT g E H0 X a ta) (hb : SndW g E H0 X (.BoolOp .Or (b :: rest) pos) tb) : SndW g E H0 X (.BoolOp .Or (a :: b :: rest) pos) (mOrT ta tb) := by
  refine weakW (pw_or ha hb) ?_
  rintro σ H Q ⟨w, σI, B, s, p⟩
  refine tIt_bindT s p fun k B1 w1 H1 x1 s1 p1 => ?_
  cases k with
  | false => exact ⟨w1, σI, B1, s1, p1⟩
  | true => exact p1 w1 H1 (Ext.refl _ _) s1.rb
theorem t_w (h : SndW g E H0 X a ta) : SndT g E H0 X a ta := h.pt
/-! as values -/
def mAnd (ma mb : Ev) : Ev := fun σI B => (ma σI B).bind fun d B1 => (tru d B1).bind fun k _ => if k then mb σI B1 else .ok d B1
def mOr (ma mb : Ev) : Ev := fun σI B => (ma σI B).bind fun d B1 => (tru d B1).bind fun k _ => if k then .ok d B1 else mb σI B1
def mNot (ma : Ev) : Ev := fun σI B => (ma σI B).bind fun d B1 => (tru d B1).bind fun k _ => .ok (.bool (!k)) B1
theorem s_one {o : BoolOp} (ha : Snd g E H0 X b1 a ma) : Snd g E H0 X b1 (.BoolOp o [a] pos) ma := pe_one ha
theorem s_and (k : Ok g X) (ha : Snd g E H0 X false a ma) (hb : Snd g E H0 X false (.BoolOp .And (b :: rest) pos) mb) : Snd g E H0 X false (.BoolOp .And (a :: b :: rest) pos) (mAnd ma mb) := by
  refine weak (pe_andT ha hb) ?_
  rintro σ H Q ⟨w, σI, B, s, p⟩
  refine tI_bind s p fun d B1 w1 v H1 x1 s1 r1 p1 => ?_
  obtain ⟨k', e, p2⟩ := tru_ok' (P := fun m => PostE g E w1 H1 σI σ false Q m) p1 (fun h => h)
  refine ⟨k', k.K ▸ r1.up.tru s1 e, ?_⟩
  cases k' with
  | true => exact ⟨w1, σI, B1, s1, p2⟩
  | false => exact p2 w1 v H1 (Ext.refl _ _) s1.rb r1
theorem s_or (k : Ok g X) (ha : Snd g E H0 X false a ma) (hb : Snd g E H0 X false (.BoolOp .Or (b :: rest) pos) mb) : Snd g E H0 X false (.BoolOp .Or (a :: b :: rest) pos) (mOr ma mb) := by
  refine weak (pe_orT ha hb) ?_
  rintro σ H Q ⟨w, σI, B, s, p⟩
  refine tI_bind s p fun d B1 w1 v H1 x1 s1 r1 p1 => ?_
  obtain ⟨k', e, p2⟩ := tru_ok' (P := fun m => PostE g E w1 H1 σI σ false Q m) p1 (fun h => h)
  refine ⟨k', k.K ▸ r1.up.tru s1 e, ?_⟩
  cases k' with
  | false => exact ⟨w1, σI, B1, s1, p2⟩
  | true => exact p2 w1 v H1 (Ext.refl _ _) s1.rb r1
theorem s_not (k : Ok g X) (ha : Snd g E H0 X b1 a ma) : Snd g E H0 X false (.UnaryOp .Not a pos) (mNot ma) := by
  refine weak (pe_notT ha) ?_
  rintro σ H Q ⟨w, σI, B, s, p⟩
  refine tI_bind s p fun d B1 w1 v H1 x1 s1 r1 p1 => ?_
  obtain ⟨k', e, p2⟩ := tru_ok' (P := fun m => PostE g E w1 H1 σI σ false Q m) p1 (fun h => h)
  exact ⟨k', k.K ▸ r1.up.tru s1 e, p2 w1 _ H1 (Ext.refl _ _) s1.rb (rep_bool g w1 _)⟩
def mIte (t : Et) (ma mb : Ev) : Ev := fun σI B => (t σI B).bind fun k B1 => if k then ma σI B1 else mb σI B1
theorem s_ite (hc : SndT g E H0 X c tc) (ha : Snd g E H0 X bo a ma) (hb : Snd g E H0 X bo b mb) : Snd g E H0 X bo (.IfExp c a b pos) (mIte tc ma mb) := by
  refine weak (pe_ifExp hc ha hb) ?_
  rintro σ H Q ⟨w, σI, B, s, p⟩
  refine tIt_bind s p fun k B1 w1 H1 x1 s1 p1 => ?_
  cases k with
  | true => exact ⟨w1, σI, B1, s1, p1⟩
  | false => exact ⟨w1, σI, B1, s1, p1⟩
def mNeg (ma : Ev) : Ev := fun σI B => (ma σI B).bind fun d B1 => match d with
  | .int i => .ok (.int (-i)) B1
  | _ => .bad
theorem s_neg (ha : Snd g E H0 X b1 a ma) : Snd g E H0 X false (.UnaryOp .USub a pos) (mNeg ma) := by
  refine weak (pe_un un_neg ha) ?_
  rintro σ H Q ⟨w, σI, B, s, p⟩
  refine tI_bind s p fun d B1 w1 v H1 x1 s1 r1 p1 => ?_
  cases d <;> first | exact p1.elim | skip
  rename_i i
  exact ⟨i, r1.up.int s1, p1 w1 _ H1 (Ext.refl _ _) s1.rb (rep_int g w1 _)⟩

/-! ### argument lists, displays -/
def mNil : Evs := fun _ B => .ok [] B
def mCons (m : Ev) (ms : Evs) : Evs := fun σI B => (m σI B).bind fun d B1 => (ms σI B1).bind fun ds B2 => .ok (d :: ds) B2
def seqOf : D → Option (List D)
  | .tup ds => some ds
  | .lst ds => some ds
  | _ => Option.none
def mStar (m : Ev) (ms : Evs) : Evs := fun σI B => (m σI B).bind fun d B1 => match seqOf d with
  | some ds => (ms σI B1).bind fun es B2 => .ok (ds ++ es) B2
  | Option.none => .bad
variable {e : Expr} {es : List Expr} {m : Ev} {ms : Evs}
theorem a_nil : Snds g E H0 X [] mNil := weakA pa_nil fun σ H Q ⟨w, σI, B, s, p⟩ => p w [] H (Ext.refl _ _) s.rb (by simp only [Reps])
theorem a_cons (he : Snd g E H0 X false e m) (hr : Snds g E H0 X es ms) (hs : starEach (e :: es) X.env = (false, eval e X.env) :: starEach es X.env := by rfl) : Snds g E H0 X (e :: es) (mCons m ms) := by
  refine weakA (pa_cons he hr hs) ?_
  rintro σ H Q ⟨w, σI, B, s, p⟩
  refine tI_bindA s p fun d B1 w1 v H1 x1 s1 r1 p1 => ?_
  refine tIs_bindA s1 p1 fun ds B2 w2 vs H2 x2 s2 r2 p2 => ?_
  refine p2 w2 _ H2 (Ext.refl _ _) s2.rb ?_
  simp only [Reps]
  exact ⟨v, vs, rfl, Rep.mono x2.le _ _ r1, r2⟩
theorem a_star {p1 : Pos} (k : Ok g X) (he : Snd g E H0 X false e m) (hr : Snds g E H0 X es ms) (hs : starEach (.Starred e p1 :: es) X.env = (true, eval e X.env) :: starEach es X.env := by rfl) : Snds g E H0 X (.Starred e p1 :: es) (mStar m ms) := by
  refine weakA (StX.pa_star he hr hs) ?_
  rintro σ H Q ⟨w, σI, B, s, p⟩
  refine tI_bindA s p fun d B1 w1 v H1 x1 s1 r1 p1 => ?_
  cases hd : seqOf d with
  | none => rw [hd] at p1; exact p1.elim
  | some ds =>
    rw [hd] at p1
    have hv : ∃ a vs, v = V.ref a ∧ (SqT X.K H1 a vs ∨ SqL X.K H1 a vs) ∧ Reps g w1 ds vs := by
      cases d <;> simp [seqOf] at hd
      · subst hd
        obtain ⟨a, vs, e, q, r⟩ := (RepB.up r1).tup s1
        exact ⟨a, vs, e, .inl (k.K ▸ q), r⟩
      · subst hd
        obtain ⟨a, vs, e, q, r⟩ := (RepB.up r1).lst s1
        exact ⟨a, vs, e, .inr (.inl (.inl q)), r⟩
    obtain ⟨a, vs, e, q, r⟩ := hv
    refine ⟨a, vs, e, q, ?_⟩
    refine tIs_bindA s1 p1 fun es B2 w2 us H2 x2 s2 r2 p2 => ?_
    exact p2 w2 _ H2 (Ext.refl _ _) s2.rb (Reps.app (Reps.mono x2.le _ _ r) r2)
end
end Hf

set_option Elab.async false
set_option linter.all false
set_option maxRecDepth 100000
set_option maxHeartbeats 4000000
namespace Hf
open PySem PySem.Spec PyProof.Rows L2

/-! ### fresh containers -/
def PostF (g : Gs) (E : XK) (w : Wd) (H : Hp) (Q : VK) : Rs D → Prop
  | .ok d B' => ∀ w' a o H', Ext w H w' H' → RB g w' B' H' → H' a = some o → Cont g w' d a o → H a = Option.none → w'.P a = Option.none → (∀ n, w'.io n ≠ some a) → (∀ c ds, d ≠ .inst c ds) → Q (.ref a) H'
  | .exc c x B' => ∀ w' cls dd H', Ext w H w' H' → RB g w' B' H' → ExcR g w' c x cls dd H' → E cls dd H'
  | .bad => False
def tF (g : Gs) (E : XK) (H0 : Hp) (m : Ev) : TE := fun σ H Q => ∃ w σI B, S0 g H0 w σI B σ H ∧ PostF g E w H Q (m σI B)
/-- the expression makes a new container -/
abbrev SndF (g : Gs) (E : XK) (H0 : Hp) (X : Cx) (e : Expr) (m : Ev) : Prop := PE X e (tF g E H0 m)
section
variable {g : Gs} {E : XK} {H0 : Hp} {w w1 : Wd} {H H1 : Hp} {σI : Sl} {σ : L2.St} {bo bo1 : Bool} {Q : VK}
theorem PostF.ext (x : Ext w H w1 H1) : ∀ {m : Rs D}, PostF g E w H Q m → PostF g E w1 H1 Q m
  | .ok _ _, h => fun w2 a o H2 x2 rb2 e c n p i z => h w2 a o H2 (x.trans x2) rb2 e c (Classical.byContradiction fun q => x.there a q n) p i z
  | .exc _ _ _, h => fun w2 cls dd H2 x2 rb2 r2 => h w2 cls dd H2 (x.trans x2) rb2 r2
  | .bad, h => h
theorem Cont.rep {d : D} {o : HO} {a : Addr} (c : Cont g w d a o) (hp : w.P a = some o) (z : ∀ c ds, d ≠ .inst c ds) : Rep g w d (.ref a) := by
  cases d <;> simp only [Cont] at c
  · obtain ⟨vs, rfl, r⟩ := c; simp only [Rep]; exact ⟨a, vs, rfl, hp, r⟩
  · obtain ⟨xs, rfl, q⟩ := c; simp only [Rep]; exact ⟨a, xs, rfl, hp, q⟩
  · exact (z _ _ rfl).elim
/-- from now on it is persistent -/
theorem reg_ext {w' : Wd} {H' : Hp} {a : Addr} {o : HO} {B' : Bs} (x : Ext w H w' H') (rb : RB g w' B' H') (e : H' a = some o) (n : H a = Option.none) (p : w'.P a = Option.none) (i : ∀ n, w'.io n ≠ some a) (ho : Nt o) :
    Ext w H (regW w' a o) H' ∧ RB g (regW w' a o) B' H' := by
  have l := regLe w' (o := o) p
  refine ⟨⟨x.le.trans l, x.keep, fun b u h => ?_, x.iof, x.there, x.me⟩, rb.keep l rfl (fun b u h => ?_) (Same.refl _) (fun n b h => ?_) (nt_reg rb.nt ho.t)⟩
  · by_cases hb : b = a
    · subst hb; exact .inr (.inl n)
    · have h : upd w'.P a o b = some u := h
      rw [upd_ne hb] at h
      exact x.pf b u h
  · by_cases hb : b = a
    · subst hb
      have h : upd w'.P b o b = some u := h
      rw [upd_same] at h; cases h; exact e
    · have h : upd w'.P a o b = some u := h
      rw [upd_ne hb] at h
      exact rb.sub b u h
  · show upd w'.P a o b = Option.none
    rw [upd_ne (fun z => i n (by rw [← z]; exact h))]
    exact rb.np n b h
theorem PostF.of : ∀ {m : Rs D}, PostE g E w H σI σ false Q m → PostF g E w H Q m
  | .ok d B', h => fun w' a o H' x rb e c n p i z => by
    obtain ⟨x2, rb2⟩ := reg_ext x rb e n p i c.nt
    exact h (regW w' a o) _ H' x2 rb2 ((c.mono (regLe w' p)).rep upd_same z)
  | .exc _ _ _, h => h
  | .bad, h => h
variable {X : Cx} {e : Expr} {m : Ev}
theorem f_val (h : SndF g E H0 X e m) : Snd g E H0 X false e m := weak h fun σ H Q ⟨w, σI, B, s, p⟩ => ⟨w, σI, B, s, PostF.of p⟩
theorem PostF.newL {ds : List D} {vs : List V} {p : Addr} {B : Bs} (s : S0 g H0 w σI B σ H) (h : PostF g E w H Q (.ok (.lst ds) B)) (r : Reps g w ds vs) (hp : H p = Option.none) : Q (.ref p) (upd H p (.lst vs)) :=
  h w p _ _ (Ext.lay hp) (s.rb.lay hp) upd_same (by simp only [Cont]; exact ⟨vs, rfl, r⟩) hp (s.rb.fresh_P hp) (s.rb.fresh_io hp) (by simp)
theorem tI_bindF {m : Ev} {f : D → Bs → Rs D} {B : Bs} {Q1 : VK} (s : S0 g H0 w σI B σ H) (p : PostF g E w H Q ((m σI B).bind f))
    (ho : ∀ d B1 w1 v H1, Ext w H w1 H1 → S0 g H0 w1 σI B1 σ H1 → RepB g w1 σI σ bo d v → PostF g E w1 H1 Q (f d B1) → Q1 v H1) : tI g E H0 bo m σ H Q1 := by
  refine tI_go s (fun c x B1 q => ?_) (fun q => ?_) fun d B1 q w1 v H1 x s1 r => ?_
  · rw [q] at p; exact p
  · rw [q] at p; exact p
  · rw [q] at p; exact ho d B1 w1 v H1 x s1 r (PostF.ext x p)
theorem tIs_bindF {m : Evs} {f : List D → Bs → Rs D} {B : Bs} {Q1 : List V → Hp → Prop} (s : S0 g H0 w σI B σ H) (p : PostF g E w H Q ((m σI B).bind f))
    (ho : ∀ d B1 w1 v H1, Ext w H w1 H1 → S0 g H0 w1 σI B1 σ H1 → Reps g w1 d v → PostF g E w1 H1 Q (f d B1) → Q1 v H1) : tIs g E H0 m σ H Q1 := by
  refine tIs_go s (fun c x B1 q => ?_) (fun q => ?_) fun d B1 q w1 v H1 x s1 r => ?_
  · rw [q] at p; exact p
  · rw [q] at p; exact p
  · rw [q] at p; exact ho d B1 w1 v H1 x s1 r (PostF.ext x p)
variable {es : List Expr} {ms : Evs} {pos : Pos}
def szL (ds : List D) : Bool := decide (ds.length ≤ sizeLine)
def mTup (ms : Evs) : Ev := fun σI B => (ms σI B).bind fun ds B1 => if szL ds then .ok (.tup ds) B1 else .bad
def mLst (ms : Evs) : Ev := fun σI B => (ms σI B).bind fun ds B1 => if szL ds then .ok (.lst ds) B1 else .bad
/-- (a, b, ..): what is made has no dict -/
def tTupN (t : TA) : TE := fun σ H Q => t σ H fun xs H1 => xs.length ≤ sizeLine ∧ ∀ p (ob : Obj), H1 p = Option.none → ob.dict = Option.none → Q (.ref p) (upd H1 p (.frz ob (.tup xs)))
theorem pe_tupN {t : TA} {x1} (h : PA X es t) : PE X (.Tuple es x1 pos) (tTupN t) := by
  refine ⟨fun pins s σ H Q I h0 => ?_⟩
  refine wpAny_Tuple_spliced (thn (h.run pos pins s σ H _ I h0) fun ws s1 ⟨xs, H1, I1, r, z, q⟩ => ⟨by rw [← r.length]; exact z, ?_⟩)
  exact ⟨.ref s1.heap.objs.size, upd H1 s1.heap.objs.size _, I1.laid (t' := s1.toks) (o := .frz { cls := .type "tuple", data := .seq ws.toArray } (.tup xs)) (fun c oc qc => Heap.get?_push_of_some _ qc) (Nat.le_refl _)
    (frz_tup z r (Heap.get?_push_size _ rfl)), rfl, q _ _ (I1.hok.fresh (Nat.le_refl _)) rfl⟩
theorem s_tup {x1} (h : Snds g E H0 X es ms) : Snd g E H0 X false (.Tuple es x1 pos) (mTup ms) := by
  refine weak (pe_tupN h) ?_
  rintro σ H Q ⟨w, σI, B, s, p⟩
  refine tIs_bind s p fun ds B1 w1 vs H1 x1 s1 r1 p1 => ?_
  split at p1
  · rename_i hl
    exact ⟨by rw [r1.len]; exact of_decide_eq_true hl, fun q ob hq ho => p1.newT s1 r1 hq ho⟩
  · exact p1.elim
theorem f_lst (h : Snds g E H0 X es ms) : SndF g E H0 X (.List es pos) (mLst ms) := by
  refine weak (pe_lst h) ?_
  rintro σ H Q ⟨w, σI, B, s, p⟩
  refine tIs_bindF s p fun ds B1 w1 vs H1 x1 s1 r1 p1 => ?_
  split at p1
  · rename_i hl
    exact ⟨by rw [r1.len]; exact of_decide_eq_true hl, fun q hq => p1.newL s1 r1 hq⟩
  · exact p1.elim
theorem s_lst (h : Snds g E H0 X es ms) : Snd g E H0 X false (.List es pos) (mLst ms) := f_val (f_lst h)
end

/-! ### subscripts -/
def okIf (o : Option D) (B : Bs) : Rs D := match o with
  | some d => .ok d B
  | Option.none => .bad
def fIx : D → D → Bs → Rs D
  | .lst ds, .int i, B => okIf (atI ds i) B
  | .scr ds, .int i, B => okIf (atI ds i) B
  | .tup ds, .int i, B => okIf (atI ds i) B
  | .str z, .int i, B => if z.length ≤ sizeLine then okIf ((atI z.cps.toList i).map fun c => .str ⟨#[c]⟩) B else .bad
  | .box n, .int i, B => match B[n]? with
    | some (.lst ds) => okIf (atI ds i) B
    | _ => .bad
  | _, _, _ => .bad
theorem okIf_go {g : Gs} {E : XK} {w : Wd} {H : Hp} {σI : Sl} {σ : L2.St} {Q : VK} {o : Option D} {B : Bs} (p : PostE g E w H σI σ false Q (okIf o B)) : ∃ d, o = some d ∧ PostE g E w H σI σ false Q (.ok d B) := by
  cases o with
  | none => exact p.elim
  | some d => exact ⟨d, rfl, p⟩
theorem Reps.atI {g : Gs} {w : Wd} {ds : List D} {vs : List V} {i : Int} {d : D} (r : Reps g w ds vs) (e : L2.atI ds i = some d) : ∃ v, L2.atI vs i = some v ∧ Rep g w d v := by
  unfold L2.atI at e ⊢
  rw [r.len]
  cases h : ixN ds.length i with
  | none => rw [h] at e; cases e
  | some j =>
    rw [h] at e
    exact Reps.get r e
theorem os_ix {g : Gs} {E : XK} {H0 : Hp} : OpSem g E H0 (rIx g.K) fIx := by
  intro w σI B σ H Q x y dx dy s rx ry p
  unfold fIx at p
  split at p
  · obtain ⟨d, e, p⟩ := okIf_go p
    obtain ⟨a, vs, rfl, q, r⟩ := rx.lst s
    obtain ⟨v, e2, rv⟩ := r.atI e
    exact .inl ⟨a, vs, _, v, rfl, ry.int s, .inl (.inl q), e2, p.nowR s rv⟩
  · obtain ⟨d, e, p⟩ := okIf_go p
    obtain ⟨a, vs, rfl, q, r⟩ := rx.scr s
    obtain ⟨v, e2, rv⟩ := r.atI e
    exact .inl ⟨a, vs, _, v, rfl, ry.int s, q, e2, p.nowR s rv⟩
  · obtain ⟨d, e, p⟩ := okIf_go p
    obtain ⟨a, vs, rfl, q, r⟩ := rx.tup s
    obtain ⟨v, e2, rv⟩ := r.atI e
    exact .inr (.inl ⟨a, vs, _, v, rfl, ry.int s, q, e2, p.nowR s rv⟩)
  · split at p
    · rename_i hl
      obtain ⟨d, e, p⟩ := okIf_go p
      obtain ⟨c, e1, rfl⟩ := Option.map_eq_some_iff.mp e
      exact .inr (.inr ⟨_, _, c, rx.str s, ry.int s, hl, e1, p.nowR s (rep_str g w _)⟩)
    · exact p.elim
  · split at p
    · rename_i n i ds hb
      obtain ⟨d, e, p⟩ := okIf_go p
      obtain ⟨a, rfl, ha⟩ := rx.box s
      obtain ⟨a', o, h1, h2, c⟩ := s.rb.get _ _ hb
      rw [ha] at h1; cases h1
      simp only [Cont] at c
      obtain ⟨vs, rfl, r⟩ := c
      obtain ⟨v, e2, rv⟩ := r.atI e
      exact .inl ⟨a, vs, _, v, rfl, ry.int s, .inl (.inl h2), e2, p.nowR s rv⟩
    · exact p.elim
  · exact p.elim
section
variable {g : Gs} {E : XK} {H0 : Hp} {X : Cx} {a b e : Expr} {ma mb m ml mh : Ev} {pos p2 : Pos} {b1 b2 b3 : Bool}
theorem s_ix (k : Ok g X) (ha : Snd g E H0 X b1 a ma) (hb : Snd g E H0 X b2 b mb) (hs : PlainIx b := by exact fun _ _ => rfl) : Snd g E H0 X false (.Subscript a b pos) (mBin fIx ma mb) := weak (pe_ix (k.K ▸ ix_seq) ha hb hs) (tOp_of os_ix)
/-! ### slices -/
def cut {α : Type} (xs : List α) (lo hi : Option Int) : List α := (xs.drop (HT.sIx xs.length 0 lo)).take (HT.sIx xs.length xs.length hi - HT.sIx xs.length 0 lo)
def fSl : D → Option Int → Option Int → Bs → Rs D
  | .lst ds, lo, hi, B => .ok (.lst (cut ds lo hi)) B
  | .tup ds, lo, hi, B => .ok (.tup (cut ds lo hi)) B
  | .str z, lo, hi, B => if z.length ≤ sizeLine then .ok (.str (cutS z lo hi)) B else .bad
  | .box n, lo, hi, B => match B[n]? with
    | some (.lst ds) => .ok (.lst (cut ds lo hi)) B
    | _ => .bad
  | _, _, _, _ => .bad
theorem Reps.cut {w : Wd} {ds : List D} {vs : List V} (lo hi : Option Int) (r : Reps g w ds vs) : Reps g w (cut ds lo hi) (cutV vs lo hi) := by
  unfold Hf.cut cutV
  rw [r.len]
  exact Reps.take _ (Reps.drop _ r)
/-- t[lo:hi]: the whole of it is t itself, a part has no dict -/
def rSlN (K : PySem.W.Frag) : V → Option Int → Option Int → Hp → VK → Prop := fun x lo hi H Q => ∃ a xs, x = .ref a ∧ SqT K H a xs ∧
  (HT.sIx xs.length 0 lo = 0 ∧ HT.sIx xs.length xs.length hi = xs.length → Q (.ref a) H) ∧ (¬ (HT.sIx xs.length 0 lo = 0 ∧ HT.sIx xs.length xs.length hi = xs.length) → ∀ p (ob : Obj), H p = Option.none → ob.dict = Option.none → Q (.ref p) (upd H p (.frz ob (.tup (cutV xs lo hi)))))
theorem sl_tupN : SlR X (rSlN X.K) := by
  intro pins s σ H x v vl vu lo hi sl Q I rx hs pl pu h
  obtain ⟨a, xs, rfl, hx, q1, q2⟩ := h
  cases rx
  obtain ⟨us, r, ht, hz⟩ := I.tuple hx
  have hl : us.toArray.size = xs.length := by rw [List.size_toArray, r.length]
  refine ⟨"tuple", _, PyProof.Rows.slot_tuple_getitem.lookup, ht.typeIs, ?_⟩
  by_cases hw : HT.sIx xs.length 0 lo = 0 ∧ HT.sIx xs.length xs.length hi = xs.length
  · exact getItem_tuple_whole ht hs pl pu (by rw [hl]; exact hw) ⟨.ref a, H, I, rfl, q1 hw⟩
  · refine HT.getItem_tuple_cut ht hs pl pu (by rw [hl]; exact hw) ?_ (by rw [hl]; exact hz)
    rw [hl]
    exact ⟨.ref s.heap.objs.size, upd H s.heap.objs.size _, I.laid (t' := s.toks) (o := .frz { cls := .type "tuple", data := .seq ((us.drop (HT.sIx xs.length 0 lo)).take (HT.sIx xs.length xs.length hi - HT.sIx xs.length 0 lo)).toArray } (.tup (cutV xs lo hi))) (fun c oc qc => Heap.get?_push_of_some _ qc) (Nat.le_refl _)
      (frz_tup (Nat.le_trans (cutV_length xs lo hi) hz) ((r.drop _).take _) (Heap.get?_push_size _ rfl)), rfl, q2 hw _ _ (I.hok.fresh (Nat.le_refl _)) rfl⟩
def rSlAll (K : PySem.W.Frag) : V → Option Int → Option Int → Hp → VK → Prop := fun x lo hi H Q => rSlL K x lo hi H Q ∨ rSlN K x lo hi H Q ∨ rSlS x lo hi H Q
theorem sl_all : SlR X (rSlAll X.K) := sl_list.or (sl_tupN.or sl_str)
theorem sl_sem {w : Wd} {σI : Sl} {B : Bs} {σ : L2.St} {H : Hp} {Q : VK} {x : V} {d : D} {lo hi : Option Int} (s : S0 g H0 w σI B σ H) (rx : RepO g w σI σ d x) (p : PostE g E w H σI σ false Q (fSl d lo hi B)) : rSlAll g.K x lo hi H Q := by
  unfold fSl at p
  split at p
  · obtain ⟨a, vs, rfl, q, r⟩ := rx.lst s
    exact .inl ⟨a, vs, rfl, .inl (.inl q), fun q hq => p.newL s (r.cut _ _) hq⟩
  · obtain ⟨a, vs, rfl, q, r⟩ := rx.tup s
    refine .inr (.inl ⟨a, vs, rfl, q, fun h => ?_, fun _ q ob hq ho => p.newT s (r.cut _ _) hq ho⟩)
    have r2 := rx.tupR s
    have e : ∀ ds : List D, vs.length = ds.length → cut ds lo hi = ds := fun ds e => by
      unfold cut
      rw [← e, h.1, h.2, List.drop_zero, Nat.sub_zero, e, List.take_length]
    rw [e _ r.len] at p
    exact p.nowR s r2
  · split at p
    · rename_i hl
      exact .inr (.inr ⟨_, rx.str s, hl, p.nowR s (rep_str g w _)⟩)
    · exact p.elim
  · split at p
    · rename_i n lo hi ds hb
      obtain ⟨a, rfl, ha⟩ := rx.box s
      obtain ⟨a', o, h1, h2, c⟩ := s.rb.get _ _ hb
      rw [ha] at h1; cases h1
      simp only [Cont] at c
      obtain ⟨vs, rfl, r⟩ := c
      exact .inl ⟨a, vs, rfl, .inl (.inl h2), fun q hq => p.newL s (r.cut _ _) hq⟩
    · exact p.elim
  · exact p.elim
def asI (d : D) (B : Bs) : Rs Int := match d with
  | .int i => .ok i B
  | _ => .bad
def mSl00 (m : Ev) : Ev := fun σI B => (m σI B).bind fun d B1 => fSl d none none B1
def mSl10 (m ml : Ev) : Ev := fun σI B => (m σI B).bind fun d B1 => (ml σI B1).bind fun l B2 => (asI l B2).bind fun i B3 => fSl d (some i) none B3
def mSl01 (m mh : Ev) : Ev := fun σI B => (m σI B).bind fun d B1 => (mh σI B1).bind fun l B2 => (asI l B2).bind fun i B3 => fSl d none (some i) B3
def mSl11 (m ml mh : Ev) : Ev := fun σI B => (m σI B).bind fun d B1 => (ml σI B1).bind fun l B2 => (asI l B2).bind fun i B3 => (mh σI B3).bind fun h B4 => (asI h B4).bind fun j B5 => fSl d (some i) (some j) B5
theorem asI_go {w : Wd} {σI : Sl} {B B2 : Bs} {σ : L2.St} {H : Hp} {Q : VK} {d : D} {v : V} {f : Int → Bs → Rs D} (s : S0 g H0 w σI B2 σ H) (r : RepO g w σI σ d v) (p : PostE g E w H σI σ false Q ((asI d B).bind f)) :
    ∃ i, v = .int i ∧ PostE g E w H σI σ false Q (f i B) := by
  cases d <;> first | exact p.elim | skip
  exact ⟨_, r.int s, p⟩
theorem s_sl00 (k : Ok g X) (he : Snd g E H0 X b1 e m) : Snd g E H0 X false (.Subscript e (.Slice none none none p2) pos) (mSl00 m) := by
  refine weak (pe_slice (k.K ▸ sl_all) he po_none po_none) ?_
  rintro σ H Q ⟨w, σI, B, s, p⟩
  exact tI_bind s p fun d B1 w1 v H1 x1 s1 r1 p1 => sl_sem s1 r1.up p1
theorem s_sl10 (k : Ok g X) {l : Expr} (he : Snd g E H0 X b1 e m) (hl : Snd g E H0 X b2 l ml) : Snd g E H0 X false (.Subscript e (.Slice (some l) none none p2) pos) (mSl10 m ml) := by
  refine weak (pe_slice (k.K ▸ sl_all) he (po_some hl) po_none) ?_
  rintro σ H Q ⟨w, σI, B, s, p⟩
  refine tI_bind s p fun d B1 w1 v H1 x1 s1 r1 p1 => ?_
  refine tI_bind s1 p1 fun d2 B2 w2 v2 H2 x2 s2 r2 p2 => ?_
  obtain ⟨i, rfl, p3⟩ := asI_go s2 r2.up p2
  exact ⟨i, rfl, sl_sem s2 (r1.up.mono x2.le) p3⟩
theorem s_sl01 (k : Ok g X) {h : Expr} (he : Snd g E H0 X b1 e m) (hh : Snd g E H0 X b2 h mh) : Snd g E H0 X false (.Subscript e (.Slice none (some h) none p2) pos) (mSl01 m mh) := by
  refine weak (pe_slice (k.K ▸ sl_all) he po_none (po_some hh)) ?_
  rintro σ H Q ⟨w, σI, B, s, p⟩
  refine tI_bind s p fun d B1 w1 v H1 x1 s1 r1 p1 => ?_
  refine tI_bind s1 p1 fun d2 B2 w2 v2 H2 x2 s2 r2 p2 => ?_
  obtain ⟨i, rfl, p3⟩ := asI_go s2 r2.up p2
  exact ⟨i, rfl, sl_sem s2 (r1.up.mono x2.le) p3⟩
theorem s_sl11 (k : Ok g X) {l h : Expr} (he : Snd g E H0 X b1 e m) (hl : Snd g E H0 X b2 l ml) (hh : Snd g E H0 X b3 h mh) : Snd g E H0 X false (.Subscript e (.Slice (some l) (some h) none p2) pos) (mSl11 m ml mh) := by
  refine weak (pe_slice (k.K ▸ sl_all) he (po_some hl) (po_some hh)) ?_
  rintro σ H Q ⟨w, σI, B, s, p⟩
  refine tI_bind s p fun d B1 w1 v H1 x1 s1 r1 p1 => ?_
  refine tI_bind s1 p1 fun d2 B2 w2 v2 H2 x2 s2 r2 p2 => ?_
  obtain ⟨i, rfl, p3⟩ := asI_go s2 r2.up p2
  refine ⟨i, rfl, tI_bind s2 p3 fun d3 B3 w3 v3 H3 x3 s3 r3 p4 => ?_⟩
  obtain ⟨j, rfl, p5⟩ := asI_go s3 r3.up p4
  exact ⟨j, rfl, sl_sem s3 (r1.up.mono (x2.le.trans x3.le)) p5⟩
end

/-! ### built-in functions -/
/-- a built-in by values: one argument -/
def One (g : Gs) (E : XK) (H0 : Hp) (X : Cx) (f : Value) (k : D → Bs → Rs D) : Prop := ∃ r, CallR X f r ∧ ∀ (w : Wd) (σI : Sl) (B : Bs) (σ : L2.St) (H : Hp) (Q : VK) (x : V) (d : D),
  S0 g H0 w σI B σ H → RepO g w σI σ d x → PostE g E w H σI σ false Q (k d B) → r [x] H Q
def Two (g : Gs) (E : XK) (H0 : Hp) (X : Cx) (f : Value) (k : D → D → Bs → Rs D) : Prop := ∃ r, CallR X f r ∧ ∀ (w : Wd) (σI : Sl) (B : Bs) (σ : L2.St) (H : Hp) (Q : VK) (x y : V) (d e : D),
  S0 g H0 w σI B σ H → RepO g w σI σ d x → RepO g w σI σ e y → PostE g E w H σI σ false Q (k d e B) → r [x, y] H Q
/-- .. that makes a new list -/
def OneF (g : Gs) (E : XK) (H0 : Hp) (X : Cx) (f : Value) (k : D → Bs → Rs D) : Prop := ∃ r, CallR X f r ∧ ∀ (w : Wd) (σI : Sl) (B : Bs) (σ : L2.St) (H : Hp) (Q : VK) (x : V) (d : D),
  S0 g H0 w σI B σ H → RepO g w σI σ d x → PostF g E w H Q (k d B) → r [x] H Q
section
variable {g : Gs} {E : XK} {H0 : Hp} {X : Cx} {a b e : Expr} {ma mb m : Ev} {pos p1 : Pos} {b1 b2 : Bool} {x : Str} {id T : String} {k : D → Bs → Rs D} {k2 : D → D → Bs → Rs D}
def m1 (k : D → Bs → Rs D) (m : Ev) : Ev := fun σI B => (m σI B).bind k
theorem one_go {r : List V → Hp → VK → Prop} (hr : ∀ (w : Wd) (σI : Sl) (B : Bs) (σ : L2.St) (H : Hp) (Q : VK) (x : V) (d : D), S0 g H0 w σI B σ H → RepO g w σI σ d x → PostE g E w H σI σ false Q (k d B) → r [x] H Q) :
    ∀ σ H Q, tI g E H0 false (m1 k m) σ H Q → tCB r (tCons (tI g E H0 b1 m) tNil) σ H Q := by
  rintro σ H Q ⟨w, σI, B, s, p⟩
  exact tI_bind s p fun d B1 w1 v H1 x1 s1 r1 p1 => hr w1 σI B1 σ H1 Q v d s1 r1.up p1
theorem s_b1 (h : One g E H0 X (.builtin id) k) (hv : bootBuiltins x = some (.builtin id)) (hm : X.mg x = none) (he : Snd g E H0 X b1 e m) (hg : Gl X x := by rfl) (hn : x ≠ "__name__" := by decide) (hdb : (x == ("__debug__" : Str)) = false := by decide)
    (h1 : starEach (e :: []) X.env = (false, eval e X.env) :: starEach [] X.env := by rfl) : Snd g E H0 X false (.Call (.Name x p1) [e] [] pos) (m1 k m) := by
  obtain ⟨r, hc, hr⟩ := h
  exact weak (pe_callB hc hg hm hv (pa_cons he pa_nil h1) hn hdb h1 rfl) (one_go hr)
theorem s_ty1 (h : One g E H0 X (.type T) k) (hv : bootBuiltins x = some (.type T)) (hm : X.mg x = none) (he : Snd g E H0 X b1 e m) (hg : Gl X x := by rfl) (hn : x ≠ "__name__" := by decide) (hdb : (x == ("__debug__" : Str)) = false := by decide)
    (h1 : starEach (e :: []) X.env = (false, eval e X.env) :: starEach [] X.env := by rfl) : Snd g E H0 X false (.Call (.Name x p1) [e] [] pos) (m1 k m) := by
  obtain ⟨r, hc, hr⟩ := h
  exact weak (pe_callTy hc hg hm hv (pa_cons he pa_nil h1) hn hdb h1 rfl) (one_go hr)
theorem f_ty1 (h : OneF g E H0 X (.type T) k) (hv : bootBuiltins x = some (.type T)) (hm : X.mg x = none) (he : Snd g E H0 X b1 e m) (hg : Gl X x := by rfl) (hn : x ≠ "__name__" := by decide) (hdb : (x == ("__debug__" : Str)) = false := by decide)
    (h1 : starEach (e :: []) X.env = (false, eval e X.env) :: starEach [] X.env := by rfl) : SndF g E H0 X (.Call (.Name x p1) [e] [] pos) (m1 k m) := by
  obtain ⟨r, hc, hr⟩ := h
  refine weak (pe_callTy hc hg hm hv (pa_cons he pa_nil h1) hn hdb h1 rfl) ?_
  rintro σ H Q ⟨w, σI, B, s, p⟩
  exact tI_bindF s p fun d B1 w1 v H1 x1 s1 r1 p1 => hr w1 σI B1 σ H1 Q v d s1 r1.up p1
theorem f_b1 (h : OneF g E H0 X (.builtin id) k) (hv : bootBuiltins x = some (.builtin id)) (hm : X.mg x = none) (he : Snd g E H0 X b1 e m) (hg : Gl X x := by rfl) (hn : x ≠ "__name__" := by decide) (hdb : (x == ("__debug__" : Str)) = false := by decide)
    (h1 : starEach (e :: []) X.env = (false, eval e X.env) :: starEach [] X.env := by rfl) : SndF g E H0 X (.Call (.Name x p1) [e] [] pos) (m1 k m) := by
  obtain ⟨r, hc, hr⟩ := h
  refine weak (pe_callB hc hg hm hv (pa_cons he pa_nil h1) hn hdb h1 rfl) ?_
  rintro σ H Q ⟨w, σI, B, s, p⟩
  exact tI_bindF s p fun d B1 w1 v H1 x1 s1 r1 p1 => hr w1 σI B1 σ H1 Q v d s1 r1.up p1
theorem s_b2 (h : Two g E H0 X (.builtin id) k2) (hv : bootBuiltins x = some (.builtin id)) (hm : X.mg x = none) (ha : Snd g E H0 X b1 a ma) (hb : Snd g E H0 X b2 b mb) (hg : Gl X x := by rfl) (hn : x ≠ "__name__" := by decide) (hdb : (x == ("__debug__" : Str)) = false := by decide)
    (h1 : starEach (a :: [b]) X.env = (false, eval a X.env) :: starEach [b] X.env := by rfl) (h2 : starEach (b :: []) X.env = (false, eval b X.env) :: starEach [] X.env := by rfl) (hpl : (backTo pos (starEach [b] X.env)).any (·.1) = false := by rfl) :
    Snd g E H0 X false (.Call (.Name x p1) [a, b] [] pos) (mBin k2 ma mb) := by
  obtain ⟨r, hc, hr⟩ := h
  refine weak (pe_callB hc hg hm hv (pa_cons ha (pa_cons hb pa_nil h2) h1) hn hdb h1 hpl) ?_
  rintro σ H Q ⟨w, σI, B, s, p⟩
  refine tI_bind s p fun d B1 w1 v H1 x1 s1 r1 p1 => ?_
  refine tI_bind s1 p1 fun d2 B2 w2 v2 H2 x2 s2 r2 p2 => ?_
  exact hr w2 σI B2 σ H2 Q v v2 d d2 s2 (r1.up.mono x2.le) r2.up p2

def fLen : D → Bs → Rs D
  | .str z, B => if z.length ≤ sizeLine then .ok (.int z.length) B else .bad
  | .tup ds, B => .ok (.int ds.length) B
  | .lst ds, B => .ok (.int ds.length) B
  | .scr ds, B => .ok (.int ds.length) B
  | .box n, B => match B[n]? with
    | some (.lst ds) => .ok (.int ds.length) B
    | _ => .bad
  | _, _ => .bad
theorem o_len (c : Ok g X) : One g E H0 X (.builtin "len") fLen := ⟨_, call_len, fun w σI B σ H Q x d s r p => by
  unfold fLen at p
  split at p
  · split at p
    · rename_i hl
      exact ⟨x, _, rfl, by rw [r.str s]; exact ⟨hl, rfl⟩, p.nowR s (rep_int g w _)⟩
    · exact p.elim
  · obtain ⟨a, vs, rfl, q, r⟩ := r.tup s
    exact ⟨_, _, rfl, .inr ⟨vs, c.K ▸ q, rfl⟩, by rw [r.len]; exact p.nowR s (rep_int g w _)⟩
  · obtain ⟨a, vs, rfl, q, r⟩ := r.lst s
    exact ⟨_, _, rfl, .inl ⟨vs, .inl (.inl q), rfl⟩, by rw [r.len]; exact p.nowR s (rep_int g w _)⟩
  · obtain ⟨a, vs, rfl, q, r⟩ := r.scr s
    exact ⟨_, _, rfl, .inl ⟨vs, c.K ▸ q, rfl⟩, by rw [r.len]; exact p.nowR s (rep_int g w _)⟩
  · split at p
    · rename_i n ds hb
      obtain ⟨a, rfl, ha⟩ := r.box s
      obtain ⟨a', o, h1, h2, c⟩ := s.rb.get _ _ hb
      rw [ha] at h1; cases h1
      simp only [Cont] at c
      obtain ⟨vs, rfl, r⟩ := c
      exact ⟨_, _, rfl, .inl ⟨vs, .inl (.inl h2), rfl⟩, by rw [r.len]; exact p.nowR s (rep_int g w _)⟩
    · exact p.elim
  · exact p.elim⟩
def fTupO : D → Bs → Rs D
  | .tup ds, B => .ok (.tup ds) B
  | .lst ds, B => .ok (.tup ds) B
  | _, _ => .bad
/-- tuple(x): a tuple is itself, of a list a new one without a dict -/
def rTupN (K : PySem.W.Frag) : List V → Hp → VK → Prop := fun xs H Q => ∃ p ys, xs = [.ref p] ∧ ((SqL K H p ys ∧ ∀ l (ob : Obj), H l = Option.none → ob.dict = Option.none → Q (.ref l) (upd H l (.frz ob (.tup ys)))) ∨ (SqT K H p ys ∧ Q (.ref p) H))
theorem call_tupN : CallR X (.type "tuple") (rTupN X.K) := by
  intro pins s σ H xs us Q I r h
  obtain ⟨p, ys, rfl, h⟩ := h
  obtain ⟨u, rfl, rx⟩ := vals1 r
  cases rx
  rcases h with ⟨hq, q⟩ | ⟨hq, q⟩
  · obtain ⟨ws, r', pl, hz⟩ := I.list hq
    have hl := r'.length
    refine call_tuple_list pl.isList (fun h1 kp => ?_) (by simp only [List.size_toArray] <;> omega)
    have I1 : Inv X pins σ H { s with heap := h1 } := I.kept (t' := s.toks) kp
    exact ⟨.ref h1.objs.size, upd H h1.objs.size _, I1.laid (t' := s.toks) (o := .frz { cls := .type "tuple", data := .seq ws.toArray } (.tup ys)) (fun c oc qc => Heap.get?_push_of_some _ qc) (Nat.le_refl _)
      (frz_tup hz r' (Heap.get?_push_size _ rfl)), rfl, q _ _ (I1.hok.fresh (Nat.le_refl _)) rfl⟩
  · obtain ⟨ws, _, pl, _⟩ := I.tuple hq
    exact call_tuple_same pl ⟨.ref p, H, I, rfl, q⟩
theorem o_tuple (c : Ok g X) : One g E H0 X (.type "tuple") fTupO := ⟨_, call_tupN, fun w σI B σ H Q x d s r p => by
  unfold fTupO at p
  split at p
  · have r2 := r.tupR s
    obtain ⟨a, vs, rfl, q, r⟩ := r.tup s
    exact ⟨a, vs, rfl, .inr ⟨c.K ▸ q, p.nowR s r2⟩⟩
  · obtain ⟨a, vs, rfl, q, r⟩ := r.lst s
    exact ⟨a, vs, rfl, .inl ⟨.inl (.inl q), fun l ob hl ho => p.newT s r hl ho⟩⟩
  · exact p.elim⟩
def fLstO : D → Bs → Rs D
  | .tup ds, B => .ok (.lst ds) B
  | .lst ds, B => .ok (.lst ds) B
  | .box n, B => match B[n]? with
    | some (.lst ds) => .ok (.lst ds) B
    | _ => .bad
  | _, _ => .bad
theorem o_list (c : Ok g X) : OneF g E H0 X (.type "list") fLstO := ⟨_, call_list_of, fun w σI B σ H Q x d s r p => by
  unfold fLstO at p
  split at p
  · obtain ⟨a, vs, rfl, q, r⟩ := r.tup s
    exact ⟨a, vs, rfl, .inr (c.K ▸ q), fun l hl => p.newL s r hl⟩
  · obtain ⟨a, vs, rfl, q, r⟩ := r.lst s
    exact ⟨a, vs, rfl, .inl (.inl (.inl q)), fun l hl => p.newL s r hl⟩
  · split at p
    · rename_i n ds hb
      obtain ⟨a, rfl, ha⟩ := r.box s
      obtain ⟨a', o, h1, h2, c⟩ := s.rb.get _ _ hb
      rw [ha] at h1; cases h1
      simp only [Cont] at c
      obtain ⟨vs, rfl, r⟩ := c
      exact ⟨a, vs, rfl, .inl (.inl (.inl h2)), fun l hl => p.newL s r hl⟩
    · exact p.elim
  · exact p.elim⟩
def fInt : D → Bs → Rs D
  | .int i, B => .ok (.int i) B
  | .bool b, B => .ok (.int (if b then 1 else 0)) B
  | _, _ => .bad
theorem o_int : One g E H0 X (.type "int") fInt := ⟨_, call_int1, fun w σI B σ H Q x d s r p => by
  unfold fInt at p
  split at p
  · exact .inl ⟨_, by rw [r.int s], p.nowR s (rep_int g w _)⟩
  · exact .inr ⟨_, by rw [r.bool s], p.nowR s (rep_int g w _)⟩
  · exact p.elim⟩
def fStrI : D → Bs → Rs D
  | .int i, B => if i.natAbs.log2 < 1920 then .ok (.str (Str.ofString (toString i))) B else .bad
  | _, _ => .bad
theorem o_str : One g E H0 X (.type "str") fStrI := ⟨_, call_str_int, fun w σI B σ H Q x d s r p => by
  unfold fStrI at p
  split at p
  · split at p
    · rename_i hl
      exact ⟨_, by rw [r.int s], hl, p.nowR s (rep_str g w _)⟩
    · exact p.elim
  · exact p.elim⟩
abbrev fMax2 := fI2 (fun i j => .int (if j > i then j else i)) fun _ _ => true
abbrev fMin2 := fI2 (fun i j => .int (if j < i then j else i)) fun _ _ => true
theorem o_max2 (c : Ok g X) : Two g E H0 X (.builtin "max") fMax2 := ⟨_, call_max2 c.calm, fun w σI B σ H Q x y d e s r1 r2 p => by
  cases d <;> first | exact p.elim | skip
  cases e <;> first | exact p.elim | skip
  exact ⟨_, _, by rw [r1.int s, r2.int s], PostE.nowR s p (rep_int g w _)⟩⟩
theorem o_min2 (c : Ok g X) : Two g E H0 X (.builtin "min") fMin2 := ⟨_, call_min2 c.calm, fun w σI B σ H Q x y d e s r1 r2 p => by
  cases d <;> first | exact p.elim | skip
  cases e <;> first | exact p.elim | skip
  exact ⟨_, _, by rw [r1.int s, r2.int s], PostE.nowR s p (rep_int g w _)⟩⟩
end
end Hf

set_option Elab.async false
set_option linter.all false
set_option maxRecDepth 100000
set_option maxHeartbeats 4000000
namespace Hf
open PySem PySem.Spec PyProof.Rows L2

/-! ### statements -/
inductive Ss where
  | next (σ : Sl) (B : Bs) | ret (d : D) (B : Bs) | exc (c : Nat) (x : Option D) (B : Bs) | bad
abbrev Ms := Sl → Bs → Ss
def Ss.seq (m : Ss) (k : Ms) : Ss := match m with
  | .next σ B => k σ B
  | .ret d B => .ret d B
  | .exc c x B => .exc c x B
  | .bad => .bad
def Rs.st {α : Type} (m : Rs α) (k : α → Bs → Ss) : Ss := match m with
  | .ok a B => k a B
  | .exc c x B => .exc c x B
  | .bad => .bad
def PostS (g : Gs) (E : XK) (w0 : Wd) (H0 : Hp) (w : Wd) (D : Ends) : Ss → Prop
  | .next σI B => ∀ w' σ H, Le w w' → S0 g H0 w' σI B σ H → Ext w0 H0 w' H → D.nx σ H
  | .ret d B => ∀ w v H, RB g w B H → Ext w0 H0 w H → Rep g w d v → D.rt v H
  | .exc c x B => ∀ w cls dd H, RB g w B H → Ext w0 H0 w H → ExcR g w c x cls dd H → E cls dd H
  | .bad => False
def tS (g : Gs) (E : XK) (w0 : Wd) (H0 : Hp) (m : Ms) : TS := fun D σ H => ∃ w σI B, S0 g H0 w σI B σ H ∧ Ext w0 H0 w H ∧ PostS g E w0 H0 w D (m σI B)
abbrev SndS (g : Gs) (E : XK) (w0 : Wd) (H0 : Hp) (X : Cx) (st : Stmt) (m : Ms) : Prop := PS X st (tS g E w0 H0 m)
abbrev SndB (g : Gs) (E : XK) (w0 : Wd) (H0 : Hp) (X : Cx) (st : List Stmt) (m : Ms) : Prop := PSs X st (tS g E w0 H0 m)
theorem weakS {X : Cx} {e : Stmt} {t t' : TS} (h : PS X e t) (k : ∀ D σ H, t' D σ H → t D σ H) : PS X e t' := ⟨fun pins s σ H Q I q => h.run pins s σ H Q I (k Q σ H q)⟩
theorem weakB {X : Cx} {e : List Stmt} {t t' : TS} (h : PSs X e t) (k : ∀ D σ H, t' D σ H → t D σ H) : PSs X e t' := ⟨fun pins s σ H Q I q => h.run pins s σ H Q I (k Q σ H q)⟩

section
variable {g : Gs} {E : XK} {w0 w w1 : Wd} {H H0 H1 : Hp} {σI : Sl} {σ : L2.St} {B : Bs} {bo : Bool} {Q : VK} {D : Ends}
theorem PostS.le (l : Le w w1) : ∀ {m : Ss}, PostS g E w0 H0 w D m → PostS g E w0 H0 w1 D m
  | .next _ _, h => fun w' σ H l' s x => h w' σ H (l.trans l') s x
  | .ret _ _, h => h
  | .exc _ _ _, h => h
  | .bad, h => h
/-- an expression at the head of a statement -/
theorem st_go {m : Ev} {f : Hf.D → Bs → Ss} {Q1 : VK} (s : S0 g H0 w σI B σ H) (x0 : Ext w0 H0 w H) (p : PostS g E w0 H0 w D ((m σI B).st f))
    (ho : ∀ d B1 w1 v H1, Ext w0 H0 w1 H1 → Ext w H w1 H1 → S0 g H0 w1 σI B1 σ H1 → RepB g w1 σI σ bo d v → PostS g E w0 H0 w1 D (f d B1) → Q1 v H1) : tI g E H0 bo m σ H Q1 := by
  refine tI_go s (fun c x B1 q => ?_) (fun q => ?_) fun d B1 q w1 v H1 x s1 r => ?_
  · rw [q] at p; exact fun w' cls dd H' x' rb r => p w' cls dd H' rb (x0.trans x') r
  · rw [q] at p; exact p
  · rw [q] at p; exact ho d B1 w1 v H1 (x0.trans x) x s1 r (PostS.le x.le p)
theorem st_goA {m : Evs} {f : List Hf.D → Bs → Ss} {Q1 : List V → Hp → Prop} (s : S0 g H0 w σI B σ H) (x0 : Ext w0 H0 w H) (p : PostS g E w0 H0 w D ((m σI B).st f))
    (ho : ∀ d B1 w1 v H1, Ext w0 H0 w1 H1 → Ext w H w1 H1 → S0 g H0 w1 σI B1 σ H1 → Reps g w1 d v → PostS g E w0 H0 w1 D (f d B1) → Q1 v H1) : tIs g E H0 m σ H Q1 := by
  refine tIs_go s (fun c x B1 q => ?_) (fun q => ?_) fun d B1 q w1 v H1 x s1 r => ?_
  · rw [q] at p; exact fun w' cls dd H' x' rb r => p w' cls dd H' rb (x0.trans x') r
  · rw [q] at p; exact p
  · rw [q] at p; exact ho d B1 w1 v H1 (x0.trans x) x s1 r (PostS.le x.le p)
theorem st_goT {m : Et} {f : Bool → Bs → Ss} {Q1 : Bool → Hp → Prop} (s : S0 g H0 w σI B σ H) (x0 : Ext w0 H0 w H) (p : PostS g E w0 H0 w D ((m σI B).st f))
    (ho : ∀ d B1 w1 H1, Ext w0 H0 w1 H1 → S0 g H0 w1 σI B1 σ H1 → PostS g E w0 H0 w1 D (f d B1) → Q1 d H1) : tIt g E H0 m σ H Q1 := by
  refine tIt_go s (fun c x B1 q => ?_) (fun q => ?_) fun d B1 q w1 H1 x s1 => ?_
  · rw [q] at p; exact fun w' cls dd H' x' rb r => p w' cls dd H' rb (x0.trans x') r
  · rw [q] at p; exact p
  · rw [q] at p; exact ho d B1 w1 H1 (x0.trans x) s1 (PostS.le x.le p)
theorem st_goF {m : Ev} {f : Hf.D → Bs → Ss} {Q1 : VK} (s : S0 g H0 w σI B σ H) (x0 : Ext w0 H0 w H) (p : PostS g E w0 H0 w D ((m σI B).st f))
    (ho : ∀ d B1 w1 a o H1, Ext w0 H0 w1 H1 → Ext w H w1 H1 → S0 g H0 w1 σI B1 σ H1 → H1 a = some o → Cont g w1 d a o → H a = Option.none → w1.P a = Option.none → (∀ n, w1.io n ≠ some a) → (∀ c ds, d ≠ .inst c ds) → PostS g E w0 H0 w1 D (f d B1) → Q1 (.ref a) H1) : tF g E H0 m σ H Q1 := by
  refine ⟨w, σI, B, s, ?_⟩
  cases q : m σI B with
  | ok d B1 =>
    rw [q] at p
    exact fun w1 a o H1 x rb e c n pp i z => ho d B1 w1 a o H1 (x0.trans x) x (s.step x rb) e c n pp i z (PostS.le x.le p)
  | exc c x B1 =>
    rw [q] at p
    exact fun w' cls dd H' x' rb r => p w' cls dd H' rb (x0.trans x') r
  | bad => rw [q] at p; exact p

/-! slots -/
theorem get_set {α : Type} {l : List α} {i j : Nat} {a b : α} (h : (l.set i a)[j]? = some b) : (i = j ∧ a = b ∧ i < l.length) ∨ (i ≠ j ∧ l[j]? = some b) := by
  by_cases e : i = j
  · subst e
    by_cases hl : i < l.length
    · rw [List.getElem?_set_self hl] at h; exact .inl ⟨rfl, Option.some.inj h, hl⟩
    · rw [List.getElem?_eq_none (by simp; omega)] at h; cases h
  · rw [List.getElem?_set_ne e] at h; exact .inr ⟨e, h⟩
theorem S0.set {d : Hf.D} {v : V} (s : S0 g H0 w σI B σ H) (i : Nat) (r : Rep g w d v) : S0 g H0 w (σI.set i (some (false, d))) B (σ.set i (some v)) H where
  rb := s.rb
  len := by simp [s.len]
  sl := fun j e h => by
    rcases get_set h with ⟨rfl, h1, h2⟩ | ⟨h1, h2⟩
    · cases h1
      exact ⟨v, by rw [List.getElem?_set_self (by rw [← s.len]; exact h2)], r⟩
    · obtain ⟨u, e1, e2⟩ := s.sl j e h2
      exact ⟨u, by rw [List.getElem?_set_ne h1]; exact e1, e2⟩
  ow := fun j e h => by
    rcases get_set h with ⟨rfl, h1, h2⟩ | ⟨h1, h2⟩
    · cases h1
    · obtain ⟨a, o, e1, e2⟩ := s.ow j e h2
      exact ⟨a, o, by rw [List.getElem?_set_ne h1]; exact e1, e2⟩
  oi := fun j k e f a h1 h2 h3 h4 => by
    rcases get_set h1 with ⟨rfl, q, _⟩ | ⟨n1, q1⟩
    · cases q
    rcases get_set h2 with ⟨rfl, q, _⟩ | ⟨n2, q2⟩
    · cases q
    rw [List.getElem?_set_ne n1] at h3
    rw [List.getElem?_set_ne n2] at h4
    exact s.oi j k e f a q1 q2 h3 h4
  me := fun j c ds b h1 h2 => by
    rcases get_set h1 with ⟨rfl, q, _⟩ | ⟨n1, q1⟩
    · cases q
    rw [List.getElem?_set_ne n1] at h2
    exact s.me j c ds b q1 h2
theorem S0.own_ne {j : Nat} {e : Hf.D} {a : Addr} (s : S0 g H0 w σI B σ H) (h : σI[j]? = some (some (true, e))) (n : H a = Option.none) : σ[j]? ≠ some (some (.ref a)) := fun z => by
  obtain ⟨b, o, e1, e2, _⟩ := s.ow j e h
  rw [z] at e1; cases e1; rw [n] at e2; cases e2
theorem S0.setO {d : Hf.D} {a : Addr} {o : HO} (s : S0 g H0 w σI B σ H) (i : Nat) (e : H a = some o) (c : Cont g w d a o) (np : w.P a = Option.none) (nb : ∀ n, w.io n ≠ some a) (n0 : H0 a = Option.none)
    (nw : ∀ (j : Nat) (e : Hf.D), σI[j]? = some (some (true, e)) → σ[j]? ≠ some (some (V.ref a))) (z : ∀ c ds, d ≠ .inst c ds) : S0 g H0 w (σI.set i (some (true, d))) B (σ.set i (some (.ref a))) H where
  rb := s.rb
  len := by simp [s.len]
  sl := fun j f h => by
    rcases get_set h with ⟨rfl, h1, h2⟩ | ⟨h1, h2⟩
    · cases h1
    · obtain ⟨u, e1, e2⟩ := s.sl j f h2
      exact ⟨u, by rw [List.getElem?_set_ne h1]; exact e1, e2⟩
  ow := fun j f h => by
    rcases get_set h with ⟨rfl, h1, h2⟩ | ⟨h1, h2⟩
    · cases h1
      exact ⟨a, o, by rw [List.getElem?_set_self (by rw [← s.len]; exact h2)], e, c, np, nb, n0⟩
    · obtain ⟨b, u, e1, e2⟩ := s.ow j f h2
      exact ⟨b, u, by rw [List.getElem?_set_ne h1]; exact e1, e2⟩
  oi := fun j k f f' b h1 h2 h3 h4 => by
    rcases get_set h1 with ⟨rfl, q, l⟩ | ⟨n1, q1⟩
    · rcases get_set h2 with ⟨rfl, q', l'⟩ | ⟨n2, q2⟩
      · rfl
      · rw [List.getElem?_set_self (by rw [← s.len]; exact l)] at h3
        rw [List.getElem?_set_ne n2] at h4
        cases h3
        exact (nw k f' q2 h4).elim
    · rcases get_set h2 with ⟨rfl, q', l'⟩ | ⟨n2, q2⟩
      · rw [List.getElem?_set_self (by rw [← s.len]; exact l')] at h4
        rw [List.getElem?_set_ne n1] at h3
        cases h4
        exact (nw j f q1 h3).elim
      · rw [List.getElem?_set_ne n1] at h3
        rw [List.getElem?_set_ne n2] at h4
        exact s.oi j k f f' b q1 q2 h3 h4
  me := fun j c ds b h1 h2 => by
    rcases get_set h1 with ⟨rfl, q, _⟩ | ⟨n1, q1⟩
    · cases q; exact (z _ _ rfl).elim
    rw [List.getElem?_set_ne n1] at h2
    exact s.me j c ds b q1 h2
theorem set_same {l : L2.St} {i : Nat} {x : Option V} (h : l[i]? = some x) : l.set i x = l := by
  apply List.ext_getElem?
  intro j
  by_cases e : i = j
  · subst e
    rw [List.getElem?_set_self (by
      have := (List.getElem?_eq_some_iff.mp h).1
      exact this), h]
  · rw [List.getElem?_set_ne e]
/-- a name's own container is changed -/
theorem S0.mut {d d' : Hf.D} {a : Addr} {o' : HO} {i : Nat} (s : S0 g H0 w σI B σ H) (h : σI[i]? = some (some (true, d))) (hi : σ[i]? = some (some (.ref a))) (c : Cont g w d' a o') (hm : ∀ c ds, d' = .inst c ds → ∃ c' ds', d = .inst c' ds') : S0 g H0 w (σI.set i (some (true, d'))) B σ (upd H a o') := by
  obtain ⟨a', o, e1, ha, cd, np, nb, n0⟩ := s.ow i d h
  rw [hi] at e1; cases e1
  have hP : ∀ b u, w.P b = some u → b ≠ a := fun b u e z => by subst z; rw [np] at e; cases e
  refine ⟨⟨fun b u e => by rw [upd_ne (hP b u e)]; exact s.rb.sub b u e, fun n b e => ?_, s.rb.inj, s.rb.np, s.rb.dom, tabs_upd s.rb.tb fun u q => by rw [ha] at q; cases q; exact cd.nt, s.rb.nt⟩, by simp [s.len], fun j e q => ?_, fun j e q => ?_, fun j k e f b h1 h2 h3 h4 => ?_, fun j c ds b h1 h2 => ?_⟩
  · obtain ⟨b', u, h1, h2, h3⟩ := s.rb.get n b e
    exact ⟨b', u, h1, by rw [upd_ne (fun z => nb n (by rw [← z]; exact h1))]; exact h2, h3⟩
  · rcases get_set q with ⟨rfl, h1, h2⟩ | ⟨h1, h2⟩
    · cases h1
    · exact s.sl j e h2
  · rcases get_set q with ⟨rfl, h1, h2⟩ | ⟨h1, h2⟩
    · cases h1
      exact ⟨a, o', hi, upd_same, c, np, nb, n0⟩
    · obtain ⟨b, u, e1, e2, e3⟩ := s.ow j e h2
      refine ⟨b, u, e1, ?_, e3⟩
      rw [upd_ne (fun z => h1 (s.oi i j d e a h h2 hi (by rw [← z]; exact e1)))]
      exact e2
  · rcases get_set h1 with ⟨rfl, q, l⟩ | ⟨n1, q1⟩
    · rcases get_set h2 with ⟨rfl, q', l'⟩ | ⟨n2, q2⟩
      · rfl
      · exact s.oi _ _ _ _ b h q2 h3 h4
    · rcases get_set h2 with ⟨rfl, q', l'⟩ | ⟨n2, q2⟩
      · exact s.oi _ _ _ _ b q1 h h3 h4
      · exact s.oi _ _ _ _ b q1 q2 h3 h4
  · rcases get_set h1 with ⟨rfl, q, _⟩ | ⟨n1, q1⟩
    · cases q
      obtain ⟨c', ds', rfl⟩ := hm _ _ rfl
      exact s.me _ c' ds' b h h2
    · exact s.me j c ds b q1 h2
theorem Ext.mut {a : Addr} {o : HO} (x : Ext w0 H0 w H) (n0 : H0 a = Option.none) : Ext w0 H0 w (upd H a o) where
  le := x.le
  keep := fun b u h hn ht => by rw [upd_ne (ne_of_none h n0)]; exact x.keep b u h hn ht
  pf := x.pf
  iof := x.iof
  there := fun b h z => by
    by_cases e : b = a
    · subst e; exact h n0
    · rw [upd_ne e] at z; exact x.there b h z
  me := x.me
/-- .. a box -/
theorem Ext.mutB {n : Nat} {a : Addr} {o : HO} (x : Ext w0 H0 w H) (hn : w.io n = some a) : Ext w0 H0 w (upd H a o) where
  le := x.le
  keep := fun b u h hb ht => by
    have e : b ≠ a := fun z => by
      subst z
      rcases x.iof n b hn with q | q
      · exact hb n q
      · rw [h] at q; cases q
    rw [upd_ne e]; exact x.keep b u h hb ht
  pf := x.pf
  iof := x.iof
  there := fun b h z => by
    by_cases e : b = a
    · subst e; rw [upd_same] at z; cases z
    · rw [upd_ne e] at z; exact x.there b h z
  me := x.me
theorem RB.mut {n : Nat} {a : Addr} {o' : HO} {d' : Hf.D} (rb : RB g w B H) (hn : w.io n = some a) (c : Cont g w d' a o') : RB g w (B.set n d') (upd H a o') where
  sub := fun b u e => by
    rw [upd_ne (fun z => by subst z; rw [rb.np n b hn] at e; cases e)]; exact rb.sub b u e
  get := fun m b e => by
    rcases get_set e with ⟨rfl, rfl, _⟩ | ⟨h1, h2⟩
    · exact ⟨a, o', hn, upd_same, c⟩
    · obtain ⟨b', u, e1, e2, e3⟩ := rb.get m b h2
      exact ⟨b', u, e1, by rw [upd_ne (fun z => h1 (rb.inj n m a hn (by rw [← z]; exact e1)))]; exact e2, e3⟩
  inj := rb.inj
  np := rb.np
  dom := fun m b e => by rw [List.length_set]; exact rb.dom m b e
  tb := tabs_upd rb.tb fun u e => by
    obtain ⟨b, hb⟩ : ∃ b, B[n]? = some b := ⟨_, List.getElem?_eq_getElem (rb.dom n a hn)⟩
    obtain ⟨a', o, h1, h2, h3⟩ := rb.get n b hb
    rw [hn] at h1; cases h1
    rw [e] at h2; cases h2
    exact h3.nt
  nt := rb.nt
theorem S0.mutB {n : Nat} {a : Addr} {o' : HO} {d' : Hf.D} (s : S0 g H0 w σI B σ H) (hn : w.io n = some a) (c : Cont g w d' a o') : S0 g H0 w σI (B.set n d') σ (upd H a o') where
  rb := s.rb.mut hn c
  len := s.len
  sl := s.sl
  ow := fun i d h => by
    obtain ⟨b, u, e1, e2, e3, e4, e5, e6⟩ := s.ow i d h
    exact ⟨b, u, e1, by rw [upd_ne (fun z => e5 n (by rw [z]; exact hn))]; exact e2, e3, e4, e5, e6⟩
  oi := s.oi
  me := s.me
/-- a name's own container is from now on data -/
def frz (i : Nat) (σI : Sl) : Option Sl := match σI[i]? with
  | some (some (true, .inst _ _)) => Option.none
  | some (some (_, d)) => some (σI.set i (some (false, d)))
  | _ => Option.none
theorem S0.frz {i : Nat} {σI' : Sl} (s : S0 g H0 w σI B σ H) (x0 : Ext w0 H0 w H) (h : Hf.frz i σI = some σI') : ∃ w', Le w w' ∧ S0 g H0 w' σI' B σ H ∧ Ext w0 H0 w' H := by
  unfold Hf.frz at h
  split at h
  · cases h
  · rename_i k d hi hz
    cases h
    cases k with
    | false =>
      obtain ⟨v, e, r⟩ := s.sl i d hz
      refine ⟨w, Le.refl _, ?_, x0⟩
      have := s.set i r
      rw [set_same e] at this
      exact this
    | true =>
      obtain ⟨a, o, e1, ha, c, np, nb, n0⟩ := s.ow i d hz
      have l := regLe w (o := o) np
      refine ⟨regW w a o, l, ⟨s.rb.keep l rfl (fun b u h => ?_) (Same.refl _) (fun n b h => ?_) (nt_reg s.rb.nt c.nt.t), by simp [s.len], fun j e h => ?_, fun j e h => ?_, fun j k e f b h1 h2 h3 h4 => ?_, fun j c' ds' b h1 h2 => ?_⟩, ⟨x0.le.trans l, x0.keep, fun b u h => ?_, x0.iof, x0.there, x0.me⟩⟩
      · by_cases hb : b = a
        · subst hb
          have h : upd w.P b o b = some u := h
          rw [upd_same] at h; cases h; exact ha
        · have h : upd w.P a o b = some u := h
          rw [upd_ne hb] at h
          exact s.rb.sub b u h
      · show upd w.P a o b = Option.none
        rw [upd_ne (fun z => nb n (by rw [← z]; exact h))]
        exact s.rb.np n b h
      · rcases get_set h with ⟨rfl, h1, h2⟩ | ⟨h1, h2⟩
        · cases h1
          refine ⟨_, e1, (c.mono l).rep upd_same fun c ds z => ?_⟩
          subst z
          exact hi _ _ rfl rfl
        · obtain ⟨v, e2, r⟩ := s.sl j e h2
          exact ⟨v, e2, Rep.mono l _ _ r⟩
      · rcases get_set h with ⟨rfl, h1, h2⟩ | ⟨h1, h2⟩
        · cases h1
        · obtain ⟨b, u, e2, e3, e4, e5, e6, e7⟩ := s.ow j e h2
          have hb : b ≠ a := fun z => h1 (s.oi i j d e a hz h2 e1 (by rw [← z]; exact e2))
          exact ⟨b, u, e2, e3, e4.mono l, (by show upd w.P a o b = Option.none; rw [upd_ne hb]; exact e5), e6, e7⟩
      · rcases get_set h1 with ⟨rfl, q, _⟩ | ⟨n1, q1⟩
        · cases q
        rcases get_set h2 with ⟨rfl, q, _⟩ | ⟨n2, q2⟩
        · cases q
        exact s.oi j k e f b q1 q2 h3 h4
      · rcases get_set h1 with ⟨rfl, q, _⟩ | ⟨n1, q1⟩
        · cases q
        exact s.me j c' ds' b q1 h2
      · by_cases hb : b = a
        · subst hb; exact .inr (.inl n0)
        · have h : upd w.P a o b = some u := h
          rw [upd_ne hb] at h
          exact x0.pf b u h
  · cases h
theorem Ext.none0 {a : Addr} (x : Ext w0 H0 w H) (n : H a = Option.none) : H0 a = Option.none := Classical.byContradiction fun q => x.there a q n
end

section
variable {g : Gs} {E : XK} {w0 : Wd} {H0 : Hp} {X : Cx} {st : Stmt} {rest sts sts2 : List Stmt} {m m1 m2 : Ms} {e a b c : Expr} {me ma mb : Ev} {ms : Evs} {mt : Et} {pos p1 p2 : Pos} {bo b1 b2 : Bool} {x : Str} {i j : Nat}
/-! blocks -/
def mSkip : Ms := fun σ B => .next σ B
def mSeq (m1 m2 : Ms) : Ms := fun σ B => (m1 σ B).seq m2
def mFrz (i : Nat) (m : Ms) : Ms := fun σ B => match frz i σ with
  | some σ' => m σ' B
  | Option.none => .bad
theorem b_nil : SndB g E w0 H0 X [] mSkip := weakB pss_nil fun D σ H ⟨w, σI, B, s, x, p⟩ => p w σ H (Le.refl _) s x
theorem b_one (h : SndS g E w0 H0 X st m) : SndB g E w0 H0 X [st] m := pss_one h
theorem b_cons (h1 : SndS g E w0 H0 X st m1) (h2 : SndB g E w0 H0 X rest m2) : SndB g E w0 H0 X (st :: rest) (mSeq m1 m2) := by
  refine weakB (pss_cons h1 h2) ?_
  rintro D σ H ⟨w, σI, B, s, x, p⟩
  refine ⟨w, σI, B, s, x, ?_⟩
  unfold mSeq at p
  revert p
  generalize m1 σI B = q
  intro p
  cases q with
  | next σ' B' => exact fun w' σ'' H' l' s' x' => ⟨w', σ', B', s', x', PostS.le l' p⟩
  | ret d B' => exact p
  | exc c y B' => exact p
  | bad => exact p
theorem b_frz (h : SndB g E w0 H0 X sts m) : SndB g E w0 H0 X sts (mFrz i m) := weakB h fun D σ H ⟨w, σI, B, s, x, p⟩ => by
  unfold mFrz at p
  split at p
  · rename_i σI' e
    obtain ⟨w', l, s', x'⟩ := s.frz x e
    exact ⟨w', σI', B, s', x', PostS.le l p⟩
  · exact p.elim
theorem s_frz (h : SndS g E w0 H0 X st m) : SndS g E w0 H0 X st (mFrz i m) := weakS h fun D σ H ⟨w, σI, B, s, x, p⟩ => by
  unfold mFrz at p
  split at p
  · rename_i σI' e
    obtain ⟨w', l, s', x'⟩ := s.frz x e
    exact ⟨w', σI', B, s', x', PostS.le l p⟩
  · exact p.elim
/-! simple statements -/
theorem z_pass : SndS g E w0 H0 X (.Pass pos) mSkip := weakS ps_pass fun D σ H ⟨w, σI, B, s, x, p⟩ => p w σ H (Le.refl _) s x
def mRet (m : Ev) : Ms := fun σ B => (m σ B).st fun d B1 => .ret d B1
theorem z_ret (h : Snd g E H0 X false e me) : SndS g E w0 H0 X (.Return (some e) pos) (mRet me) := by
  refine weakS (ps_ret h) ?_
  rintro D σ H ⟨w, σI, B, s, x, p⟩
  exact st_go s x p fun d B1 w1 v H1 x1 _ s1 r p1 => p1 w1 v H1 s1.rb x1 r
def mRetN : Ms := fun _ B => .ret .none B
theorem z_retN : SndS g E w0 H0 X (.Return none pos) mRetN := weakS ps_retN fun D σ H ⟨w, σI, B, s, x, p⟩ => p w .non H s.rb x (rep_none g w)
def mDo (m : Ev) : Ms := fun σ B => (m σ B).st fun _ B1 => .next σ B1
theorem z_expr (h : Snd g E H0 X bo e me) (hs : swapsWith e none pos.line X.env = pure false := by rfl) : SndS g E w0 H0 X (.Expr e pos) (mDo me) := by
  refine weakS (ps_expr h hs) ?_
  rintro D σ H ⟨w, σI, B, s, x, p⟩
  exact st_go s x p fun d B1 w1 v H1 x1 _ s1 r p1 => p1 w1 σ H1 (Le.refl _) s1 x1
def mIf (t : Et) (m1 m2 : Ms) : Ms := fun σ B => (t σ B).st fun k B1 => if k then m1 σ B1 else m2 σ B1
theorem z_if (hc : SndT g E H0 X c mt) (ha : SndB g E w0 H0 X sts m1) (hb : SndB g E w0 H0 X sts2 m2) : SndS g E w0 H0 X (.If c sts sts2 pos) (mIf mt m1 m2) := by
  refine weakS (ps_if hc ha hb) ?_
  rintro D σ H ⟨w, σI, B, s, x, p⟩
  refine st_goT s x p fun k B1 w1 H1 x1 s1 p1 => ?_
  cases k with
  | true => exact ⟨w1, σI, B1, s1, x1, p1⟩
  | false => exact ⟨w1, σI, B1, s1, x1, p1⟩
/-! names stored -/
def mSet (i : Nat) (m : Ev) : Ms := fun σ B => (m σ B).st fun d B1 => .next (σ.set i (some (false, d))) B1
def mSetO (i : Nat) (m : Ev) : Ms := fun σ B => (m σ B).st fun d B1 => .next (σ.set i (some (true, d))) B1
theorem set_at {t : TE} (ht : t = tI g E H0 false me) {D : Ends} {σ : L2.St} {H : Hp} (h : tS g E w0 H0 (mSet i me) D σ H) : tAsg t (gName i) D σ H := by
  subst ht
  obtain ⟨w, σI, B, s, x, p⟩ := h
  exact st_go s x p fun d B1 w1 v H1 x1 _ s1 r p1 => p1 w1 _ H1 (Le.refl _) (s1.set i r) x1
theorem setO_at {D : Ends} {σ : L2.St} {H : Hp} (h : tS g E w0 H0 (mSetO i me) D σ H) : tAsg (tF g E H0 me) (gName i) D σ H := by
  obtain ⟨w, σI, B, s, x, p⟩ := h
  exact st_goF s x p fun d B1 w1 a o H1 x1 x2 s1 e c n pp io z p1 => p1 w1 _ H1 (Le.refl _) (s1.setO i e c pp io (x.none0 n) (fun j f hj => s.own_ne hj n) z) x1
theorem z_set (hN : X.N.Nodup) (h : Snd g E H0 X false e me) (hi : X.N[i]? = some x := by rfl) (hx : Loc X.env.scope x := by first | exact .inl rfl | exact .inr rfl) (hs : swapsWith e (some (.Name x p1)) pos.line X.env = pure false := by rfl) (hf : X.fn x = true := by rfl) :
    SndS g E w0 H0 X (.Assign [.Name x p1] e pos) (mSet i me) := weakS (ps_set hN hi hx h hs (.inl hf)) fun _ _ _ h => set_at rfl h
theorem z_setO (hN : X.N.Nodup) (h : SndF g E H0 X e me) (hi : X.N[i]? = some x := by rfl) (hx : Loc X.env.scope x := by first | exact .inl rfl | exact .inr rfl) (hs : swapsWith e (some (.Name x p1)) pos.line X.env = pure false := by rfl) (hf : X.fn x = true := by rfl) :
    SndS g E w0 H0 X (.Assign [.Name x p1] e pos) (mSetO i me) := weakS (ps_set hN hi hx h hs (.inl hf)) fun _ _ _ h => setO_at h
/-! targets -/
abbrev Tg := D → Sl → Option Sl
def tG (g : Gs) (H0 : Hp) (t : Tg) (sl : List Nat) : TG := fun v σ H Q => ∃ w d σI B σI', S0 g H0 w σI B σ H ∧ Rep g w d v ∧ t d σI = some σI' ∧ ∀ σ' : L2.St, S0 g H0 w σI' B σ' H → σ'.length = σ.length → (∀ j : Nat, j ∉ sl → σ'[j]? = σ[j]?) → Q σ' H
abbrev SndG (g : Gs) (H0 : Hp) (X : Cx) (e : Expr) (t : Tg) (sl : List Nat) : Prop := PG X e (tG g H0 t sl)
abbrev Tgs := List D → Sl → Option Sl
def tGs (g : Gs) (H0 : Hp) (t : Tgs) (sl : List Nat) : TGs := fun vs σ H Q => ∃ w ds σI B σI', S0 g H0 w σI B σ H ∧ Reps g w ds vs ∧ t ds σI = some σI' ∧ ∀ σ' : L2.St, S0 g H0 w σI' B σ' H → σ'.length = σ.length → (∀ j : Nat, j ∉ sl → σ'[j]? = σ[j]?) → Q σ' H
abbrev SndGs (g : Gs) (H0 : Hp) (X : Cx) (es : List Expr) (t : Tgs) (sl : List Nat) : Prop := PGs X es (tGs g H0 t sl)
theorem weakG {X : Cx} {e : Expr} {t t' : TG} (h : PG X e t) (k : ∀ v σ H Q, t' v σ H Q → t v σ H Q) : PG X e t' := ⟨fun pins s σ H v u Q I r q => h.run pins s σ H v u Q I r (k v σ H Q q)⟩
theorem weakGs {X : Cx} {e : List Expr} {t t' : TGs} (h : PGs X e t) (k : ∀ v σ H Q, t' v σ H Q → t v σ H Q) : PGs X e t' := ⟨fun pins s σ H v u Q I r q => h.run pins s σ H v u Q I r (k v σ H Q q)⟩
def gN (i : Nat) : Tg := fun d σ => some (σ.set i (some (false, d)))
theorem g_name (hN : X.N.Nodup) (hi : X.N[i]? = some x := by rfl) (hx : Loc X.env.scope x := by first | exact .inl rfl | exact .inr rfl) (hf : X.fn x = true ∨ X.env.scope.names.lookup x = some .local := by first | exact .inl rfl | exact .inr rfl) : SndG g H0 X (.Name x pos) (gN i) [i] :=
  weakG (pg_name hN hi hx hf) fun v σ H Q ⟨w, d, σI, B, σI', s, r, e, q⟩ => by cases e; exact q _ (s.set i r) (by simp) fun j hj => List.getElem?_set_ne (by simpa [eq_comm] using hj)
def gT (t : Tgs) : Tg := fun d σ => match d with
  | .tup ds => t ds σ
  | .prs ds => t ds σ
  | _ => Option.none
def gs0 : Tgs := fun ds σ => match ds with
  | [] => some σ
  | _ => Option.none
def gsC (t : Tg) (u : Tgs) : Tgs := fun ds σ => match ds with
  | d :: r => (t d σ).bind fun σ' => u r σ'
  | [] => Option.none
def gsN : Tgs → Nat → Prop := fun t n => ∀ ds σ σ', t ds σ = some σ' → ds.length = n
theorem gs_nil : SndGs g H0 X [] gs0 [] := weakGs pgs_nil fun vs σ H Q ⟨w, ds, σI, B, σI', s, r, e, q⟩ => by
  cases ds with
  | nil => simp only [Reps] at r; cases e; exact ⟨r, q σ s rfl fun _ _ => rfl⟩
  | cons d ds => cases e
theorem gs_cons {es : List Expr} {t : Tg} {u : Tgs} {l1 l2 : List Nat} (h1 : SndG g H0 X e t l1) (h2 : SndGs g H0 X es u l2) (hs : (assignEach (e :: es) X.env).map (·.2) = assign e X.env :: (assignEach es X.env).map (·.2) := by rfl) : SndGs g H0 X (e :: es) (gsC t u) (l1 ++ l2) :=
  weakGs (pgs_cons h1 h2 hs) fun vs σ H Q ⟨w, ds, σI, B, σI', s, r, e, q⟩ => by
  cases ds with
  | nil => cases e
  | cons d ds =>
    simp only [Reps] at r
    obtain ⟨v, us, rfl, r1, r2⟩ := r
    obtain ⟨σ1, e1, e2⟩ := Option.bind_eq_some_iff.mp e
    refine ⟨v, us, rfl, w, d, σI, B, σ1, s, r1, e1, fun σ' s' n' k' => ⟨w, ds, σ1, B, σI', s', r2, e2, fun σ2 s2 n2 k2 => q σ2 s2 (n2.trans n') fun j hj => ?_⟩⟩
    simp only [List.mem_append, not_or] at hj
    exact (k2 j hj.2).trans (k' j hj.1)
theorem n_nil : gsN gs0 0 := fun ds σ σ' h => by cases ds; rfl; cases h
theorem n_cons {t : Tg} {u : Tgs} {n : Nat} (h : gsN u n) : gsN (gsC t u) (n + 1) := fun ds σ σ' e => by
  cases ds with
  | nil => cases e
  | cons d ds =>
    obtain ⟨σ1, e1, e2⟩ := Option.bind_eq_some_iff.mp e
    simp [h _ _ _ e2]
theorem g_tup {es : List Expr} {k n : Nat} {t : Tgs} {l : List Nat} (c : Ok g X) (h : SndGs g H0 X es t l) (hn : gsN t n) (h1 : (assignEach es X.env).length = n := by rfl) (h2 : (assignEach es X.env).findIdx? (·.1) = none := by rfl) : SndG g H0 X (.Tuple es k pos) (gT t) l :=
  weakG (pg_tup c.calm h h1 h2) fun v σ H Q ⟨w, d, σI, B, σI', s, r, e, q⟩ => by
  cases d <;> first | cases e | skip
  · rename_i ds
    simp only [Rep] at r
    obtain ⟨a, vs, rfl, p, r⟩ := r
    exact ⟨a, vs, rfl, c.K ▸ sqT_mono s.rb.sub p.T, by rw [r.len]; exact hn _ _ _ e, w, ds, σI, B, σI', s, r, e, q⟩
  · rename_i ds
    simp only [Rep] at r
    obtain ⟨a, vs, rfl, p, r⟩ := r
    exact ⟨a, vs, rfl, c.K ▸ sqT_mono s.rb.sub p, by rw [r.len]; exact hn _ _ _ e, w, ds, σI, B, σI', s, r, e, q⟩
def mAsg (t : Tg) (m : Ev) : Ms := fun σ B => (m σ B).st fun d B1 => match t d σ with
  | some σ' => .next σ' B1
  | Option.none => .bad
theorem z_asg {tg : Expr} {t : Tg} {l : List Nat} (he : Snd g E H0 X false e me) (hg : SndG g H0 X tg t l) (hs : swapsWithSole [tg] e pos.line X.env = pure false := by rfl) (hw : swappedStores [tg] e X.env = pure none := by rfl)
    (h1 : (assignEach [tg] X.env).map (·.2) = [assign tg X.env] := by rfl) : SndS g E w0 H0 X (.Assign [tg] e pos) (mAsg t me) := by
  refine weakS (ps_asg he hg hs hw h1) ?_
  rintro D σ H ⟨w, σI, B, s, x, p⟩
  refine st_go s x p fun d B1 w1 v H1 x1 _ s1 r p1 => ?_
  split at p1
  · rename_i σ' e
    exact ⟨w1, d, σI, B1, σ', s1, r, e, fun σ2 s2 _ _ => p1 w1 σ2 H1 (Le.refl _) s2 x1⟩
  · exact p1.elim
end
end Hf

set_option Elab.async false
set_option linter.all false
set_option maxRecDepth 100000
set_option maxHeartbeats 4000000
namespace Hf
open PySem PySem.Spec PyProof.Rows L2

/-! ### what is walked -/
structure ItOk (g : Gs) (w : Wd) (J : It) (ds : List D) : Prop where
  go : ∀ i H, i < ds.length → Same w.P H → J.go i H
  stop : ∀ i H, i = ds.length → Same w.P H → J.stop i H
  yld : ∀ i H x H' d w1 B, ds[i]? = some d → Le w w1 → RB g w1 B H → J.yld i H x H' → ∃ w2, Ext w1 H w2 H' ∧ RB g w2 B H' ∧ Rep g w2 d x
def PostI (g : Gs) (E : XK) (w : Wd) (H : Hp) (R : It → Hp → Prop) : Rs (List D) → Prop
  | .ok ds B' => ∀ w' J H', Ext w H w' H' → RB g w' B' H' → ItOk g w' J ds → R J H'
  | .exc c x B' => ∀ w' cls dd H', Ext w H w' H' → RB g w' B' H' → ExcR g w' c x cls dd H' → E cls dd H'
  | .bad => False
abbrev Ei := Sl → Bs → Rs (List D)
def tIi (g : Gs) (E : XK) (H0 : Hp) (m : Ei) : TI := fun σ H R => ∃ w σI B, S0 g H0 w σI B σ H ∧ PostI g E w H R (m σI B)
abbrev SndI (g : Gs) (E : XK) (H0 : Hp) (X : Cx) (tg e : Expr) (m : Ei) : Prop := PI X tg e (tIi g E H0 m)
theorem weakI {X : Cx} {tg e : Expr} {t t' : TI} (h : PI X tg e t) (k : ∀ σ H R, t' σ H R → t σ H R) : PI X tg e t' := ⟨fun pins s σ H R I q => h.run pins s σ H R I (k σ H R q)⟩
section
variable {g : Gs} {E : XK} {H0 : Hp} {w w1 : Wd} {H H1 : Hp} {σI : Sl} {σ : L2.St} {bo bo1 : Bool} {B : Bs}
theorem PostI.ext {R : It → Hp → Prop} (x : Ext w H w1 H1) : ∀ {m : Rs (List D)}, PostI g E w H R m → PostI g E w1 H1 R m
  | .ok _ _, h => fun w2 v2 H2 x2 rb2 r2 => h w2 v2 H2 (x.trans x2) rb2 r2
  | .exc _ _ _, h => fun w2 cls dd H2 x2 rb2 r2 => h w2 cls dd H2 (x.trans x2) rb2 r2
  | .bad, h => h
theorem tI_bindI {m : Ev} {f : D → Bs → Rs (List D)} {Q1 : VK} {R : It → Hp → Prop} (s : S0 g H0 w σI B σ H) (p : PostI g E w H R ((m σI B).bind f))
    (ho : ∀ d B1 w1 v H1, Ext w H w1 H1 → S0 g H0 w1 σI B1 σ H1 → RepB g w1 σI σ bo d v → PostI g E w1 H1 R (f d B1) → Q1 v H1) : tI g E H0 bo m σ H Q1 := by
  refine tI_go s (fun c x B1 q => ?_) (fun q => ?_) fun d B1 q w1 v H1 x s1 r => ?_
  · rw [q] at p; exact p
  · rw [q] at p; exact p
  · rw [q] at p; exact ho d B1 w1 v H1 x s1 r (PostI.ext x p)
end
theorem Rd.uniq {H : Hp} {a : Addr} {u v : HO} (h : Rd H a u) (h' : Rd H a v) (hu : ∀ o x, u ≠ .frz o x) (hv : ∀ o x, v ≠ .frz o x) : u = v := by
  rcases h with h | ⟨o, h⟩ <;> rcases h' with h' | ⟨o', h'⟩ <;> rw [h] at h' <;> cases h'
  · rfl
  · exact (hu _ _ rfl).elim
  · exact (hv _ _ rfl).elim
  · rfl
section
variable {g : Gs} {w : Wd} {K : PySem.W.Frag}
theorem it_list {a : Addr} {vs : List V} {ds : List D} (hp : w.P a = some (.lst vs)) (r : Reps g w ds vs) : ItOk g w (Itl K a) ds where
  go := fun i H hi hs => by
    obtain ⟨v, e, _⟩ := Reps.get r (List.getElem?_eq_getElem hi)
    exact ⟨vs, v, .inl (.inl (hs _ _ hp)), e⟩
  stop := fun i H hi hs => ⟨vs, .inl (.inl (hs _ _ hp)), by rw [r.len]; exact Nat.le_of_eq hi.symm⟩
  yld := fun i H x H' d w1 B e l rb y => by
    obtain ⟨rfl, y⟩ := y
    obtain ⟨v, e2, rv⟩ := Reps.get r e
    have q := y vs (.inl (.inl (rb.sub _ _ (l.P _ _ hp))))
    rw [e2] at q; cases q
    exact ⟨w1, Ext.refl _ _, rb, Rep.mono l _ _ rv⟩
theorem it_scr {a : Addr} {vs : List V} {ds : List D} (hp : SqL K w.P a vs) (r : Reps g w ds vs) : ItOk g w (Itl K a) ds where
  go := fun i H hi hs => by
    obtain ⟨v, e, _⟩ := Reps.get r (List.getElem?_eq_getElem hi)
    exact ⟨vs, v, hs.seq hp, e⟩
  stop := fun i H hi hs => ⟨vs, hs.seq hp, by rw [r.len]; exact Nat.le_of_eq hi.symm⟩
  yld := fun i H x H' d w1 B e l rb y => by
    obtain ⟨rfl, y⟩ := y
    obtain ⟨v, e2, rv⟩ := Reps.get r e
    have q := y vs (rb.sub.seq (l.P.seq hp))
    rw [e2] at q; cases q
    exact ⟨w1, Ext.refl _ _, rb, Rep.mono l _ _ rv⟩
theorem it_tup {a : Addr} {vs : List V} {ds : List D} (hp : SqT K w.P a vs) (r : Reps g w ds vs) : ItOk g w (Itt K a) ds where
  go := fun i H hi hs => by
    obtain ⟨v, e, _⟩ := Reps.get r (List.getElem?_eq_getElem hi)
    exact ⟨vs, v, sqT_mono hs hp, e⟩
  stop := fun i H hi hs => ⟨vs, sqT_mono hs hp, by rw [r.len]; exact Nat.le_of_eq hi.symm⟩
  yld := fun i H x H' d w1 B e l rb y => by
    obtain ⟨rfl, y⟩ := y
    obtain ⟨v, e2, rv⟩ := Reps.get r e
    have q := y vs (sqT_mono rb.sub (sqT_mono l.P hp))
    rw [e2] at q; cases q
    exact ⟨w1, Ext.refl _ _, rb, Rep.mono l _ _ rv⟩
def rngD (lo : Int) (n : Nat) : List D := (List.range n).map fun i => .int (lo + (i : Nat))
theorem rngD_len (lo : Int) (n : Nat) : (rngD lo n).length = n := by simp [rngD]
theorem it_rng {lo : Int} {n : Nat} : ItOk g w (Itr lo n) (rngD lo n) where
  go := fun i H hi hs => by rw [rngD_len] at hi; exact hi
  stop := fun i H hi hs => by rw [rngD_len] at hi; exact Nat.le_of_eq hi.symm
  yld := fun i H x H' d w1 B e l rb y => by
    obtain ⟨rfl, rfl⟩ := y
    refine ⟨w1, Ext.refl _ _, rb, ?_⟩
    unfold rngD at e
    rw [List.getElem?_map] at e
    by_cases hi : i < n
    · rw [List.getElem?_range hi] at e
      cases e
      exact rep_int g w1 _
    · rw [List.getElem?_eq_none (by simp; omega)] at e; cases e
end
/-! ### sources: lists, tuples, texts -/
inductive Sk where
  | l (a : Addr) | t (a : Addr) | s (x : Str)
def Sk.v : Sk → V
  | .l a => .ref a
  | .t a => .ref a
  | .s x => .str x
def chV (x : Str) : List V := x.cps.toList.map fun c => V.str ⟨#[c]⟩
def chD (x : Str) : List D := x.cps.toList.map fun c => D.str ⟨#[c]⟩
def Sk.At (K : PySem.W.Frag) (H : Hp) : Sk → List V → Prop
  | .l a, xs => SqL K H a xs
  | .t a, xs => SqT K H a xs
  | .s x, xs => xs = chV x
def Sk.It (K : PySem.W.Frag) : Sk → L2.It
  | .l a => Itl K a
  | .t a => Itt K a
  | .s x => Its x
/-- the iterator at it stands before the item i -/
def Sk.St (it : Addr) (i : Nat) (h : Heap) : Sk → Prop
  | .l a => h.IsListIter it a i
  | .t a => h.IsTupleIter it a i
  | .s x => ∃ t, h.IsStrIter it (strIterType x) x t i
theorem Sk.St.at {it : Addr} {i : Nat} {h h' : Heap} {k : Sk} (x : k.St it i h) (e : ∀ o, h.get? it = some o → h'.get? it = some o) : k.St it i h' := by
  cases k with
  | l a => exact Heap.IsListIter.at x e
  | t a => exact Heap.IsTupleIter.at x e
  | s y =>
    obtain ⟨t, o, ho, r⟩ := x
    exact ⟨t, o, e o ho, r⟩
theorem Sk.St.obj {it : Addr} {i : Nat} {h : Heap} {k : Sk} (x : k.St it i h) : ∃ o, h.get? it = some o ∧ ∀ v, o.data ≠ .cell v := by
  cases k with
  | l a => obtain ⟨o, ho, hc, hd⟩ := x; exact ⟨o, ho, fun v z => by rw [hd] at z; cases z⟩
  | t a => obtain ⟨o, ho, hc, hd⟩ := x; exact ⟨o, ho, fun v z => by rw [hd] at z; cases z⟩
  | s y => obtain ⟨t, o, ho, hc, hd⟩ := x; exact ⟨o, ho, fun v z => by rw [hd] at z; cases z⟩
section
variable {X : Cx} {pins : List (Addr × Obj)} {σ : L2.St} {H : Hp} {s : Shared}
theorem src_ne (I : Inv X pins σ H s) {b c : Addr} (hf : FpOk X pins H c) (hb : (∃ o, H b = some o) ∨ ∃ o, X.K.lookup b = some o) : b ≠ c := fun e => by
  subst e
  obtain ⟨h1, _, _, h4, _⟩ := hf
  rcases hb with ⟨o, q⟩ | ⟨o, q⟩
  · rw [h1] at q; cases q
  · have q2 := I.ok.mod.kin _ _ q
    rcases h4 with h4 | h4
    · exact I.ok.noex _ _ q2 h4
    · exact absurd (Heap.lt_size (I.ok.bs _ _ q2).1) (Nat.not_lt_of_le h4)
/-- what the iterator of a source draws, and where it reads -/
theorem Sk.draws (I : Inv X pins σ H s) {k : Sk} {xs : List V} (hk : k.At X.K H xs) {it : Addr} {i : Nat} (hst : k.St it i s.heap) (A : Around) (hh : A.handled = none) (hf : FpOk X pins H it) :
    ∃ (fp : List Addr) (n : Nat) (P : Nat → Value → Prop) (St : Nat → Heap → Prop), Draws X.prog X.w A it (it :: fp) n P St ∧ n = xs.length ∧ St i s.heap ∧ (∀ j h, St j h → k.St it j h) ∧ (∀ j u, P j u → ∃ x, xs[j]? = some x ∧ RelV x u) ∧ ∀ b ∈ fp, (∃ o, H b = some o) ∨ ∃ o, X.K.lookup b = some o := by
  cases k with
  | l a =>
    have hk : SqL X.K H a xs := hk
    obtain ⟨its, rv, p, hz⟩ := I.list hk
    have ha : a ≠ it := by
      rcases hk with (q | ⟨o, q⟩) | ⟨o, _, _, q, _⟩
      · exact src_ne I hf (.inl ⟨_, q⟩)
      · exact src_ne I hf (.inl ⟨_, q⟩)
      · exact src_ne I hf (.inr ⟨_, q⟩)
    refine ⟨[a], _, _, _, Draws.list hh it a ha its.toArray, by simp [rv.length], ⟨hst, p.isList⟩, fun j h q => q.1, fun j u q => ?_, fun b hb => ?_⟩
    · have q : its[j]? = some u := by simpa using q
      have hj : j < its.length := (List.getElem?_eq_some_iff.mp q).1
      have hj2 : j < xs.length := by rw [rv.length]; exact hj
      obtain ⟨u', hu, ru⟩ := rv.get (List.getElem?_eq_getElem hj2)
      rw [q] at hu; cases hu
      exact ⟨_, List.getElem?_eq_getElem hj2, ru⟩
    · rw [List.mem_singleton.mp hb]
      rcases hk with (q | ⟨o, q⟩) | ⟨o, _, _, q, _⟩
      · exact .inl ⟨_, q⟩
      · exact .inl ⟨_, q⟩
      · exact .inr ⟨_, q⟩
  | t a =>
    have hk : SqT X.K H a xs := hk
    obtain ⟨its, rv, p, hz⟩ := I.tuple hk
    have ha : a ≠ it := by
      rcases hk with (q | ⟨o, q⟩) | ⟨o, _, _, q, _⟩
      · exact src_ne I hf (.inl ⟨_, q⟩)
      · exact src_ne I hf (.inl ⟨_, q⟩)
      · exact src_ne I hf (.inr ⟨_, q⟩)
    refine ⟨[a], _, _, _, Draws.tuple hh it a ha its.toArray, by simp [rv.length], ⟨hst, p⟩, fun j h q => q.1, fun j u q => ?_, fun b hb => ?_⟩
    · have q : its[j]? = some u := by simpa using q
      have hj : j < its.length := (List.getElem?_eq_some_iff.mp q).1
      have hj2 : j < xs.length := by rw [rv.length]; exact hj
      obtain ⟨u', hu, ru⟩ := rv.get (List.getElem?_eq_getElem hj2)
      rw [q] at hu; cases hu
      exact ⟨_, List.getElem?_eq_getElem hj2, ru⟩
    · rw [List.mem_singleton.mp hb]
      rcases hk with (q | ⟨o, q⟩) | ⟨o, _, _, q, _⟩
      · exact .inl ⟨_, q⟩
      · exact .inl ⟨_, q⟩
      · exact .inr ⟨_, q⟩
  | s x =>
    have hk : xs = chV x := hk
    subst hk
    obtain ⟨t, hst⟩ := hst
    refine ⟨[], _, _, _, Draws.text hh it x t, by simp [chV], hst, fun j h q => ⟨t, q⟩, fun j u q => ?_, fun b hb => nomatch hb⟩
    obtain ⟨c, u', h1, rfl⟩ := q
    exact ⟨.str ⟨#[c]⟩, by simp [chV, h1], _, rfl⟩
/-- how a source begins -/
theorem Sk.begins (I : Inv X pins σ H s) {k : Sk} {xs : List V} (hk : k.At X.K H xs) {u : Value} (ru : RelV k.v u) : ∃ (o : Obj) (HH : Heap → Prop), Begins u o HH ∧ HH s.heap ∧ ∀ (it : Addr) (h : Heap), h.get? it = some o → k.St it 0 h := by
  cases k with
  | l a =>
    cases ru
    obtain ⟨its, rv, p, hz⟩ := I.list hk
    exact ⟨_, _, begins_list a its.toArray, p.isList, fun it h e => ⟨_, e, rfl, rfl⟩⟩
  | t a =>
    cases ru
    obtain ⟨its, rv, p, hz⟩ := I.tuple hk
    exact ⟨_, _, begins_tuple a its.toArray, p, fun it h e => ⟨_, e, rfl, rfl⟩⟩
  | s x =>
    obtain ⟨t, rfl⟩ := ru
    exact ⟨_, _, begins_text x t, trivial, fun it h e => ⟨t, _, e, rfl, rfl⟩⟩
end
section
variable {g : Gs} {E : XK} {H0 : Hp} {X : Cx} {tg e a b : Expr} {m ma mb : Ev} {pos p1 : Pos} {bo b1 b2 : Bool}
/-- a list, a tuple, a text -/
def iAny (K : PySem.W.Frag) (tl : TE) : TI := fun σ H R => tl σ H fun x H1 => ∃ k xs, x = Sk.v k ∧ k.At K H1 xs ∧ R (k.It K) H1
theorem turn_any {P : Program} {w : World} {K : PySem.W.Frag} {tg : Expr} (k : Sk) (it : Addr) : Turn P w K tg (k.It K) [it] it fun i h => k.St it i h := by
  cases k with
  | l a => exact turn_list a it
  | t a => exact turn_tuple a it
  | s x =>
    have z : strIterType x = "str_ascii_iterator" ∨ strIterType x = "str_iterator" := by
      unfold strIterType
      split
      · exact .inl rfl
      · exact .inr rfl
    have T : ∀ t, Turn P w K tg (Its x) [it] it (fun i h => h.IsStrIter it (strIterType x) x t i) := fun t => turn_str it x t (strIterType x) z
    exact
      { mem := (T 0).mem
        obj := fun i h st => let ⟨t, q⟩ := st; (T t).obj i h q
        keep := fun i h h' st kk => let ⟨t, q⟩ := st; ⟨t, (T t).keep i h h' q kk⟩
        item := fun X hP hw hK hc i pins s σ H E I hf st hg => by
          obtain ⟨t, q⟩ := st
          refine wpAny_mono ((T t).item X hP hw hK hc i pins s σ H E I hf q hg) (fun r s1 h1 => ?_) fun _ _ h => h
          obtain ⟨u, e, h1⟩ := h1
          refine ⟨u, e, wpAny_mono h1 (fun _ s2 h2 => ?_) fun _ _ h => h⟩
          obtain ⟨x, H', a1, a2, a3, a4, a5⟩ := h2
          exact ⟨x, H', a1, a2, a3, ⟨t, a4⟩, a5⟩
        done := fun X hP hw hK hc i pins s σ H E I hf st hg => by
          obtain ⟨t, q⟩ := st
          exact (T t).done X hP hw hK hc i pins s σ H E I hf q hg
        self := fun A i s Q E st h => let ⟨t, q⟩ := st; (T t).self A i s Q E q h }
theorem pi_any {l : Expr} {tl : TE} (hl : PE X l tl) : PI X tg l (iAny X.K tl) := by
  refine ⟨fun pins s σ H R I h => ?_⟩
  refine thn (hl.run pins s σ H _ I h) fun v s1 ⟨x, H1, I1, r1, k, xs, ex, hk, q⟩ => ?_
  subst ex
  obtain ⟨o, HH, B, h1, hs⟩ := Sk.begins I1 hk r1
  refine B.iter _ _ _ _ _ _ h1 ?_
  refine ⟨s1.heap.objs.size, [s1.heap.objs.size], _, _, H1, rfl, I1.kept (t' := s1.toks) fun b o' e => Heap.get?_push_of_some _ e, turn_any k _, hs _ _ (Heap.get?_push_size _ B.free), fun c hc => ?_, q⟩
  rw [List.mem_singleton.mp hc]
  exact I1.fpOk (Nat.le_refl _) (I1.hok.fresh (Nat.le_refl _))
def itemsOf : D → Option (List D)
  | .tup ds => some ds
  | .lst ds => some ds
  | .scr ds => some ds
  | .str x => some (chD x)
  | _ => Option.none
def mItems (m : Ev) : Ei := fun σ B => (m σ B).bind fun d B1 => match itemsOf d with
  | some ds => .ok ds B1
  | Option.none => .bad
/-- a value as a source -/
def SkAt (g : Gs) (w : Wd) (k : Sk) (ds : List D) : Prop := ∃ vs, k.At g.K w.P vs ∧ Reps g w ds vs
theorem Sk.At.mono {K : PySem.W.Frag} {P P' : Hp} {k : Sk} {xs : List V} (hs : Same P P') (h : k.At K P xs) : k.At K P' xs := by
  cases k with
  | l a => exact hs.seq h
  | t a => exact sqT_mono hs h
  | s x => exact h
theorem reps_chs (g : Gs) (w : Wd) (x : Str) : Reps g w (chD x) (chV x) := by
  unfold chD chV
  induction x.cps.toList with
  | nil => simp only [List.map_nil, Reps]
  | cons c cs ih =>
    simp only [List.map_cons, Reps, Rep]
    exact ⟨_, _, rfl, rfl, ih⟩
theorem Rep.sk {w : Wd} {d : D} {v : V} {ds : List D} (r : Rep g w d v) (h : itemsOf d = some ds) : ∃ k, v = Sk.v k ∧ SkAt g w k ds := by
  cases d <;> simp only [itemsOf, reduceCtorEq, Option.some.injEq] at h <;> subst h <;> simp only [Rep] at r
  · subst r; exact ⟨.s _, rfl, _, rfl, reps_chs g w _⟩
  · obtain ⟨a, vs, rfl, q, r⟩ := r; exact ⟨.t a, rfl, vs, q.T, r⟩
  · obtain ⟨a, vs, rfl, q, r⟩ := r; exact ⟨.l a, rfl, vs, .inl (.inl q), r⟩
  · obtain ⟨a, vs, rfl, q, r⟩ := r; exact ⟨.l a, rfl, vs, q, r⟩
theorem it_any {w : Wd} {k : Sk} {ds : List D} (h : SkAt g w k ds) : ItOk g w (k.It g.K) ds := by
  obtain ⟨vs, hk, r⟩ := h
  cases k with
  | l a => exact it_scr hk r
  | t a => exact it_tup hk r
  | s x =>
    have hk : vs = chV x := hk
    subst hk
    have hl : x.cps.size = ds.length := by rw [← r.len]; simp [chV]
    exact
      { go := fun i H hi hs => by show i < x.cps.size; omega
        stop := fun i H hi hs => by show x.cps.size ≤ i; omega
        yld := fun i H y H' d w1 B e l rb yl => by
          obtain ⟨rfl, c, hc, rfl⟩ := yl
          obtain ⟨v, e2, rv⟩ := Reps.get r e
          have : v = .str ⟨#[c]⟩ := by
            unfold chV at e2
            rw [List.getElem?_map, Array.getElem?_toList, hc] at e2
            exact (Option.some.inj e2).symm
          subst this
          exact ⟨w1, Ext.refl _ _, rb, Rep.mono l _ _ rv⟩ }
theorem i_seq (c : Ok g X) (h : Snd g E H0 X false e m) : SndI g E H0 X tg e (mItems m) := by
  refine weakI (pi_any h) ?_
  rintro σ H R ⟨w, σI, B, s, p⟩
  refine tI_bindI s p fun d B1 w1 v H1 x1 s1 r p1 => ?_
  rw [c.K]
  cases hd : itemsOf d with
  | none => rw [hd] at p1; exact p1.elim
  | some ds =>
    rw [hd] at p1
    obtain ⟨k, rfl, hk⟩ := Rep.sk r hd
    obtain ⟨vs, hk2, _⟩ := id hk
    exact ⟨k, vs, rfl, hk2.mono s1.rb.sub, p1 w1 _ H1 (Ext.refl _ _) s1.rb (it_any hk)⟩
def rngB (i : Int) : Bool := decide (-(2 ^ 62) ≤ i) && decide (i < 2 ^ 62)
def mRng1 (m : Ev) : Ei := fun σ B => (m σ B).bind fun d B1 => (asI d B1).bind fun n B2 => if rngB n then .ok (rngD 0 n.toNat) B2 else .bad
def mRng2 (ma mb : Ev) : Ei := fun σ B => (ma σ B).bind fun d B1 => (asI d B1).bind fun i B2 => (mb σ B2).bind fun e B3 => (asI e B3).bind fun j B4 => if rngB i && rngB j then .ok (rngD i (j - i).toNat) B4 else .bad
theorem rngB_ok {i : Int} (h : rngB i = true) : -(2 ^ 62) ≤ i ∧ i < 2 ^ 62 := by
  unfold rngB at h
  simp only [Bool.and_eq_true, decide_eq_true_eq] at h
  exact h
theorem asI_goI {w : Wd} {σI : Sl} {B B2 : Bs} {σ : L2.St} {H : Hp} {R : It → Hp → Prop} {d : D} {v : V} {f : Int → Bs → Rs (List D)} (s : S0 g H0 w σI B2 σ H) (r : RepO g w σI σ d v) (p : PostI g E w H R ((asI d B).bind f)) :
    ∃ i, v = .int i ∧ PostI g E w H R (f i B) := by
  cases d <;> first | exact p.elim | skip
  exact ⟨_, r.int s, p⟩
theorem i_rng1 (c : Ok g X) (hm : g.mg "range" = none) (h : Snd g E H0 X b1 a ma) (hg : Gl X "range" := by rfl) (hs : starEach [a] X.env = [(false, eval a X.env)] := by rfl) : SndI g E H0 X tg (.Call (.Name "range" p1) [a] [] pos) (mRng1 ma) := by
  refine weakI (pi_range1 hg (c.mg ▸ hm) (pa_cons h pa_nil hs) hs) ?_
  rintro σ H R ⟨w, σI, B, s, p⟩
  refine tI_bindI s p fun d B1 w1 v H1 x1 s1 r p1 => ?_
  obtain ⟨n, rfl, p2⟩ := asI_goI s1 r.up p1
  split at p2
  · rename_i hb
    obtain ⟨h1, h2⟩ := rngB_ok hb
    exact ⟨n, rfl, h1, h2, p2 w1 _ H1 (Ext.refl _ _) s1.rb it_rng⟩
  · exact p2.elim
theorem i_rng2 (c : Ok g X) (hm : g.mg "range" = none) (h : Snd g E H0 X b1 a ma) (h' : Snd g E H0 X b2 b mb) (hg : Gl X "range" := by rfl) (hs : starEach [a, b] X.env = [(false, eval a X.env), (false, eval b X.env)] := by rfl) (hs2 : starEach [b] X.env = [(false, eval b X.env)] := by rfl) :
    SndI g E H0 X tg (.Call (.Name "range" p1) [a, b] [] pos) (mRng2 ma mb) := by
  refine weakI (pi_range2 hg (c.mg ▸ hm) (pa_cons h (pa_cons h' pa_nil hs2) (by rw [hs, hs2])) hs hs2) ?_
  rintro σ H R ⟨w, σI, B, s, p⟩
  refine tI_bindI s p fun d B1 w1 v H1 x1 s1 r p1 => ?_
  obtain ⟨i, rfl, p2⟩ := asI_goI s1 r.up p1
  refine tI_bindI s1 p2 fun e B2 w2 v2 H2 x2 s2 r2 p3 => ?_
  obtain ⟨j, rfl, p4⟩ := asI_goI s2 r2.up p3
  split at p4
  · rename_i hb
    obtain ⟨hb1, hb2⟩ := Bool.and_eq_true_iff.mp hb
    obtain ⟨h1, h2⟩ := rngB_ok hb1
    obtain ⟨h3, h4⟩ := rngB_ok hb2
    exact ⟨i, j, rfl, ⟨h1, h2, h3, h4⟩, p4 w2 _ H2 (Ext.refl _ _) s2.rb it_rng⟩
  · exact p4.elim
end

/-! ### for -/
def forL (t : Tg) (b : Ms) : List D → Sl → Bs → Ss
  | [], σ, B => .next σ B
  | d :: ds, σ, B => match t d σ with
    | some σ' => (b σ' B).seq (forL t b ds)
    | Option.none => .bad
def mFor (t : Tg) (mi : Ei) (b : Ms) : Ms := fun σ B => (mi σ B).st fun ds B1 => forL t b ds σ B1
section
variable {g : Gs} {E : XK} {w0 : Wd} {H0 : Hp} {X : Cx} {tg e c : Expr} {sts : List Stmt} {mi : Ei} {t : Tg} {b : Ms} {pos : Pos} {sl : List Nat} {mt : Et}
theorem z_for (k : Ok g X) (hp : PassesOwn (model X.prog X.w) X.A X.env X.xe) (hi : SndI g E H0 X tg e mi) (hg : SndG g H0 X tg t sl) (hb : SndB g E w0 H0 X sts b) (hs : ∀ x, foldedSetIterable e X.env x = pure x := by intro _; rfl) :
    SndS g E w0 H0 X (.For tg e sts [] pos) (mFor t mi b) := by
  refine weakS (ps_for hp k.calm hi hg hb hs) ?_
  rintro D σ H ⟨w, σI, B, s, x0, p⟩
  refine ⟨w, σI, B, s, ?_⟩
  unfold mFor at p
  revert p
  generalize mi σI B = q
  intro p
  cases q with
  | bad => exact p
  | exc cc y B1 => exact fun w' cls dd H' x' rb r => p w' cls dd H' rb (x0.trans x') r
  | ok ds B1 =>
    intro w1 J H1 x1 rb1 it
    have p : PostS g E w0 H0 w D (forL t b ds σI B1) := p
    have s1 := s.step x1 rb1
    refine ⟨fun i m σ H => m = ds.length - i ∧ i ≤ ds.length ∧ ∃ w σI B, Le w1 w ∧ S0 g H0 w σI B σ H ∧ Ext w0 H0 w H ∧ PostS g E w0 H0 w D (forL t b (ds.drop i) σI B), ⟨ds.length, by simp, Nat.zero_le _, w1, σI, B1, Le.refl _, s1, x0.trans x1, by simpa using PostS.le x1.le p⟩, ?_⟩
    rintro i m σ H ⟨rfl, hi, w, σI, B, l, s, x, p⟩
    by_cases hlt : i < ds.length
    · refine .inr ⟨it.go i H hlt (l.P.trans s.rb.sub), fun σ' H' => ∃ w σI B, Le w1 w ∧ S0 g H0 w σI B σ' H' ∧ Ext w0 H0 w H' ∧ PostS g E w0 H0 w D (forL t b (ds.drop (i + 1)) σI B), ?_, ?_⟩
      · rintro σ' H' q
        exact ⟨ds.length - (i + 1), by omega, rfl, hlt, q⟩
      · intro y H' yl
        obtain ⟨w2, x2, rb2, r2⟩ := it.yld i H y H' ds[i] w B (List.getElem?_eq_getElem hlt) l s.rb yl
        rw [List.drop_eq_getElem_cons hlt] at p
        simp only [forL] at p
        cases e : t ds[i] σI with
        | none => rw [e] at p; exact p.elim
        | some σ' =>
          rw [e] at p
          refine ⟨w2, ds[i], σI, B, σ', s.step x2 rb2, r2, e, fun σ2 s2 _ _ => ⟨w2, σ', B, s2, x.trans x2, ?_⟩⟩
          have p := PostS.le x2.le p
          revert p
          show PostS g E w0 H0 w2 D ((b σ' B).seq (forL t b (List.drop (i + 1) ds))) → _
          generalize b σ' B = q
          intro p
          cases q with
          | next σ3 B3 => exact fun w' σ'' H'' l' s' x' => ⟨w', σ3, B3, (l.trans x2.le).trans l', s', x', PostS.le l' p⟩
          | ret d B' => exact p
          | exc c y B' => exact p
          | bad => exact p
    · refine .inl ⟨it.stop i H (by omega) (l.P.trans s.rb.sub), ?_⟩
      rw [List.drop_eq_nil_of_le (by omega)] at p
      exact p w σ H (Le.refl _) s x
end
end Hf

set_option Elab.async false
set_option linter.all false
set_option maxRecDepth 100000
set_option maxHeartbeats 4000000
namespace Hf
open PySem PySem.Spec PyProof.Rows L2

/-! ### while -/
def whileL (t : Et) (b : Ms) : Nat → Sl → Bs → Ss
  | 0, _, _ => .bad
  | n + 1, σ, B => (t σ B).st fun k B1 => if k then (b σ B1).seq (whileL t b n) else .next σ B1
section
variable {g : Gs} {E : XK} {w0 : Wd} {H0 : Hp} {X : Cx} {tg e c : Expr} {sts : List Stmt} {mi : Ei} {t : Tg} {b : Ms} {pos : Pos} {sl : List Nat} {mt : Et}
theorem z_while (n : Nat) (hp : PassesOwn (model X.prog X.w) X.A X.env X.xe) (hc : SndT g E H0 X c mt) (hb : SndB g E w0 H0 X sts b) : SndS g E w0 H0 X (.While c sts [] pos) (whileL mt b n) := by
  refine weakS (ps_while hp hc hb) ?_
  rintro D σ H ⟨w, σI, B, s, x0, p⟩
  refine ⟨fun m σ H => ∃ w σI B, S0 g H0 w σI B σ H ∧ Ext w0 H0 w H ∧ PostS g E w0 H0 w D (whileL mt b m σI B), ⟨n, w, σI, B, s, x0, p⟩, ?_⟩
  rintro m σ H ⟨w, σI, B, s, x, p⟩
  cases m with
  | zero => exact p.elim
  | succ m =>
    refine st_goT s x p fun k B1 w1 H1 x1 s1 p1 => ?_
    cases k with
    | false => exact p1 w1 σ H1 (Le.refl _) s1 x1
    | true =>
      refine ⟨fun σ' H' => ∃ w σI B, S0 g H0 w σI B σ' H' ∧ Ext w0 H0 w H' ∧ PostS g E w0 H0 w D (whileL mt b m σI B), fun σ' H' q => ⟨m, Nat.lt_succ_self _, q⟩, w1, σI, B1, s1, x1, ?_⟩
      have p2 : PostS g E w0 H0 w1 D ((b σI B1).seq (whileL mt b m)) := p1
      revert p2
      generalize b σI B1 = q
      intro p2
      cases q with
      | next σ3 B3 => exact fun w' σ'' H'' l' s' x' => ⟨w', σ3, B3, s', x', PostS.le l' p2⟩
      | ret d B' => exact p2
      | exc c y B' => exact p2
      | bad => exact p2
end

/-! ### list comprehensions -/
def noX {α : Type} : Rs α → Rs α
  | .ok a B => .ok a B
  | _ => .bad
def lcL (t : Tg) (mt : Et) (me : Ev) (σ : Sl) : List D → Bs → Rs (List D)
  | [], B => .ok [] B
  | d :: ds, B => match t d σ with
    | some σ' => (mt σ' B).bind fun k B1 => if k then (me σ' B1).bind fun e B2 => (lcL t mt me σ ds B2).bind fun es B3 => .ok (e :: es) B3 else lcL t mt me σ ds B1
    | Option.none => .bad
def wipeI (σ : Sl) : List Nat → Sl
  | [] => σ
  | v :: vs => (wipeI σ vs).set v Option.none
def mLc (vs : List Nat) (t : Tg) (mi : Ei) (mt : Et) (me : Ev) : Ev := fun σ B => (mi σ B).bind fun ds B1 => (noX (lcL t mt me (wipeI σ vs) ds B1)).bind fun es B2 => if szL es then .ok (.lst es) B2 else .bad
theorem wipeI_length (σ : Sl) : ∀ vs : List Nat, (wipeI σ vs).length = σ.length
  | [] => rfl
  | v :: vs => by unfold wipeI; rw [List.length_set, wipeI_length σ vs]
theorem wipe_get (σ : L2.St) (j : Nat) : ∀ vs : List Nat, (wipe σ vs)[j]? = if j ∈ vs ∧ j < σ.length then some Option.none else σ[j]?
  | [] => by simp [wipe]
  | v :: vs => by
    unfold wipe
    by_cases e : v = j
    · subst e
      by_cases hl : v < σ.length
      · rw [List.getElem?_set_self (by rw [wipe_length]; exact hl), if_pos ⟨by simp, hl⟩]
      · rw [List.getElem?_eq_none (by rw [List.length_set, wipe_length]; omega), if_neg (fun z => hl z.2), List.getElem?_eq_none (by omega)]
    · rw [List.getElem?_set_ne e, wipe_get σ j vs]
      have : (j ∈ v :: vs) ↔ j ∈ vs := by simp [Ne.symm e]
      simp only [this]
theorem wipeI_get (σ : Sl) (j : Nat) : ∀ vs : List Nat, (wipeI σ vs)[j]? = if j ∈ vs ∧ j < σ.length then some Option.none else σ[j]?
  | [] => by simp [wipeI]
  | v :: vs => by
    unfold wipeI
    by_cases e : v = j
    · subst e
      by_cases hl : v < σ.length
      · rw [List.getElem?_set_self (by rw [wipeI_length]; exact hl), if_pos ⟨by simp, hl⟩]
      · rw [List.getElem?_eq_none (by rw [List.length_set, wipeI_length]; omega), if_neg (fun z => hl z.2), List.getElem?_eq_none (by omega)]
    · rw [List.getElem?_set_ne e, wipeI_get σ j vs]
      have : (j ∈ v :: vs) ↔ j ∈ vs := by simp [Ne.symm e]
      simp only [this]
theorem wipe_eq {σ σ2 : L2.St} {vs : List Nat} (hl : σ2.length = σ.length) (h : ∀ j : Nat, j ∉ vs → σ2[j]? = σ[j]?) : wipe σ2 vs = wipe σ vs := by
  apply List.ext_getElem?
  intro j
  rw [wipe_get, wipe_get, hl]
  by_cases hj : j ∈ vs
  · by_cases hk : j < σ.length
    · rw [if_pos ⟨hj, hk⟩, if_pos ⟨hj, hk⟩]
    · rw [if_neg (fun z => hk z.2), if_neg (fun z => hk z.2), List.getElem?_eq_none (by omega), List.getElem?_eq_none (by omega)]
  · rw [if_neg (fun z => hj z.1), if_neg (fun z => hj z.1), h j hj]
theorem wipe_wipe (σ : L2.St) (vs : List Nat) : wipe (wipe σ vs) vs = wipe σ vs := wipe_eq (wipe_length _ _) fun j hj => by rw [wipe_get, if_neg (fun z => hj z.1)]
section
variable {g : Gs} {E : XK} {w0 w w1 : Wd} {H H0 H1 : Hp} {σI : Sl} {σ : L2.St} {B : Bs} {X : Cx}
theorem S0.wipe (s : S0 g H0 w σI B σ H) (vs : List Nat) : S0 g H0 w (wipeI σI vs) B (L2.wipe σ vs) H where
  rb := s.rb
  len := by rw [wipeI_length, wipe_length]; exact s.len
  sl := fun j e h => by
    rw [wipeI_get] at h
    split at h
    · cases h
    · rename_i hj
      rw [wipe_get, if_neg (by rw [← s.len]; exact hj)]
      exact s.sl j e h
  ow := fun j e h => by
    rw [wipeI_get] at h
    split at h
    · cases h
    · rename_i hj
      rw [wipe_get, if_neg (by rw [← s.len]; exact hj)]
      exact s.ow j e h
  oi := fun i j e f a h1 h2 h3 h4 => by
    rw [wipeI_get] at h1 h2
    split at h1
    · cases h1
    split at h2
    · cases h2
    rename_i hi hj
    rw [wipe_get, if_neg (by rw [← s.len]; exact hi)] at h3
    rw [wipe_get, if_neg (by rw [← s.len]; exact hj)] at h4
    exact s.oi i j e f a h1 h2 h3 h4
  me := fun i c ds a h1 h2 => by
    rw [wipeI_get] at h1
    split at h1
    · cases h1
    rename_i hi
    rw [wipe_get, if_neg (by rw [← s.len]; exact hi)] at h2
    exact s.me i c ds a h1 h2
/-- something else is changed -/
theorem RB.other {a : Addr} {o : HO} (rb : RB g w B H) (np : w.P a = Option.none) (nb : ∀ n, w.io n ≠ some a) (nh : ∀ u, H a = some u → Nt u) : RB g w B (upd H a o) where
  tb := tabs_upd rb.tb nh
  nt := rb.nt
  sub := fun b u e => by rw [upd_ne (fun z => by subst z; rw [np] at e; cases e)]; exact rb.sub b u e
  get := fun n b e => by
    obtain ⟨c, u, h1, h2, h3⟩ := rb.get n b e
    exact ⟨c, u, h1, by rw [upd_ne (fun z => nb n (by rw [← z]; exact h1))]; exact h2, h3⟩
  inj := rb.inj
  np := rb.np
  dom := rb.dom
theorem S0.other {a : Addr} {o : HO} (s : S0 g H0 w σI B σ H) (np : w.P a = Option.none) (nb : ∀ n, w.io n ≠ some a) (nw : ∀ (j : Nat) (e : D), σI[j]? = some (some (true, e)) → σ[j]? ≠ some (some (V.ref a))) (nh : ∀ u, H a = some u → Nt u) : S0 g H0 w σI B σ (upd H a o) where
  rb := s.rb.other np nb nh
  len := s.len
  sl := s.sl
  ow := fun j e h => by
    obtain ⟨b, u, e1, e2, e3⟩ := s.ow j e h
    exact ⟨b, u, e1, by rw [upd_ne (fun z => nw j e h (by rw [← z]; exact e1))]; exact e2, e3⟩
  oi := s.oi
  me := s.me
theorem Ok.blk (k : Ok g X) (s : Shared) (H : Hp) (scope : Scope) (env : Env) (fp : List Addr) : Ok g (X.blk s H scope env fp) := ⟨k.K, k.mg, k.calm, k.un, k.prog, k.w, k.base, k.fx⟩
abbrev SndTs (g : Gs) (E : XK) (H0 : Hp) (X : Cx) (es : List Expr) (m : Et) : Prop := PTs X es (tIt g E H0 m)
def mYes : Et := fun _ B => .ok true B
theorem ts_nil : SndTs g E H0 X [] mYes := ⟨fun pins s σ H Q I q => pts_nil.run pins s σ H Q I (by
  obtain ⟨w, σI, B, s, p⟩ := q
  exact p w H (Ext.refl _ _) s.rb)⟩
theorem ts_one {c : Expr} {m : Et} (h : SndT g E H0 X c m) : SndTs g E H0 X [c] m := pts_one h
theorem lcL_cons {t : Tg} {mt : Et} {me : Ev} {σ : Sl} {d : D} {ds : List D} {B B' : Bs} {es : List D} (h : lcL t mt me σ (d :: ds) B = .ok es B') :
    ∃ σ' k B1, t d σ = some σ' ∧ mt σ' B = .ok k B1 ∧ ((k = true ∧ ∃ e B2 es', me σ' B1 = .ok e B2 ∧ lcL t mt me σ ds B2 = .ok es' B' ∧ es = e :: es') ∨ (k = false ∧ lcL t mt me σ ds B1 = .ok es B')) := by
  simp only [lcL] at h
  cases e1 : t d σ with
  | none => rw [e1] at h; cases h
  | some σ' =>
    rw [e1] at h
    simp only at h
    cases e2 : mt σ' B with
    | bad => rw [e2] at h; cases h
    | exc _ _ _ => rw [e2] at h; cases h
    | ok k B1 =>
      rw [e2] at h
      simp only [Rs.bind] at h
      refine ⟨σ', k, B1, rfl, e2, ?_⟩
      cases k with
      | false => exact .inr ⟨rfl, h⟩
      | true =>
        simp only [if_true] at h
        cases e3 : me σ' B1 with
        | bad => rw [e3] at h; cases h
        | exc _ _ _ => rw [e3] at h; cases h
        | ok e B2 =>
          rw [e3] at h
          simp only at h
          cases e4 : lcL t mt me σ ds B2 with
          | bad => rw [e4] at h; cases h
          | exc _ _ _ => rw [e4] at h; cases h
          | ok es' B3 =>
            rw [e4] at h
            cases h
            exact .inl ⟨rfl, e, B2, es', rfl, e4, rfl⟩
def LcInv (g : Gs) (H0 : Hp) (w : Wd) (H : Hp) (w1 : Wd) (σI : Sl) (σ : L2.St) (vs : List Nat) (t : Tg) (mt : Et) (me : Ev) (ds es : List D) (B' : Bs) (Da : Addr) (i : Nat) (H' : Hp) : Prop :=
  ∃ w' B2 acc es' av, Ext w H w' H' ∧ Le w1 w' ∧ S0 g H0 w' σI B2 σ H' ∧ H' Da = some (.lst av) ∧ Reps g w' acc av ∧ w'.P Da = Option.none ∧ (∀ n, w'.io n ≠ some Da) ∧ (∀ (j : Nat) (e : D), σI[j]? = some (some (true, e)) → σ[j]? ≠ some (some (V.ref Da))) ∧
    lcL t mt me (wipeI σI vs) (ds.drop i) B2 = .ok es' B' ∧ es = acc ++ es'
/-- the elements one by one: from what an element at the head means -/
theorem lc_at {t : Tg} {mt : Et} {me : Ev} {sl vs : List Nat} {mi : Ei} {wi : TI} (hwi : wi = tIi g E H0 mi) (hsl : ∀ j ∈ sl, j ∈ vs) {Q : VK} (s : S0 g H0 w σI B σ H) (p : PostF g E w H Q (mLc vs t mi mt me σI B)) :
    tLc wi (tG g H0 t sl) (tIt g E0 H0 mt) (tI g E0 H0 false me) vs σ H Q := by
  subst hwi
  refine ⟨w, σI, B, s, ?_⟩
  unfold mLc at p
  cases q : mi σI B with
  | bad => rw [q] at p; exact p
  | exc c y B1 => rw [q] at p; exact p
  | ok ds B1 =>
    rw [q] at p
    simp only [Rs.bind] at p
    intro w1 J H1 x1 rb1 it D hD
    have s1 := s.step x1 rb1
    cases q2 : lcL t mt me (wipeI σI vs) ds B1 with
    | bad => rw [q2] at p; exact p.elim
    | exc c y B1 => rw [q2] at p; exact p.elim
    | ok es B' =>
      rw [q2] at p
      simp only [noX] at p
      split at p
      · rename_i hz
        have hz : es.length ≤ sizeLine := of_decide_eq_true hz
        have nD : H D = Option.none := Classical.byContradiction fun z => x1.there D z hD
        have start : LcInv g H0 w H w1 σI σ vs t mt me ds es B' D 0 (upd H1 D (.lst [])) :=
          ⟨w1, B1, [], es, [], x1.mut nD, Le.refl _, s1.other (s1.rb.fresh_P hD) (s1.rb.fresh_io hD) (fun j e hj => s1.own_ne hj hD) (fun u q => by rw [hD] at q; cases q), upd_same, by simp only [Reps], s1.rb.fresh_P hD, s1.rb.fresh_io hD, fun j e hj => s1.own_ne hj hD, by simpa using q2, rfl⟩
        refine ⟨fun i m H' => m = ds.length - i ∧ i ≤ ds.length ∧ LcInv g H0 w H w1 σI σ vs t mt me ds es B' D i H', ⟨ds.length, by simp, Nat.zero_le _, start⟩, ?_⟩
        rintro i m H' ⟨rfl, hi, w', B2, acc, es', av, x', l', s', eD, ra, np, nb, nw, q3, hes⟩
        by_cases hlt : i < ds.length
        · refine .inr ⟨it.go i H' hlt (l'.P.trans s'.rb.sub), LcInv g H0 w H w1 σI σ vs t mt me ds es B' D (i + 1), fun H2 q => ⟨ds.length - (i + 1), by omega, rfl, hlt, q⟩, fun y H2 yl => ?_⟩
          obtain ⟨w2, x2, rb2, r2⟩ := it.yld i H' y H2 ds[i] w' B2 (List.getElem?_eq_getElem hlt) l' s'.rb yl
          have s2 := s'.step x2 rb2
          rw [List.drop_eq_getElem_cons hlt] at q3
          obtain ⟨σ', k, B3, et, em, q4⟩ := lcL_cons q3
          refine ⟨w2, ds[i], wipeI σI vs, B2, σ', s2.wipe vs, r2, et, fun σ2 s3 hl hk => ⟨(wipe_eq hl fun j hj => hk j fun z => hj (hsl j z)).trans (wipe_wipe _ _), ?_⟩⟩
          have keep : ∀ {wa wb : Wd} {Ha Hb : Hp}, Ext wa Ha wb Hb → Same wb.P Hb → Ha D = some (.lst av) → wa.P D = Option.none → (∀ n, wa.io n ≠ some D) → Hb D = some (.lst av) ∧ wb.P D = Option.none ∧ ∀ n, wb.io n ≠ some D := by
            intro wa wb Ha Hb x sb e n1 n2
            refine ⟨x.keep D _ e n2 (nt_lst _).t, ?_, fun n z => ?_⟩
            · cases q : wb.P D with
              | none => rfl
              | some u =>
                rcases x.pf D u q with z | z | ⟨qq, z⟩
                · rw [n1] at z; cases z
                · rw [e] at z; cases z
                · have y := sb D u q
                  rw [x.keep D _ e n2 (nt_lst _).t] at y; cases y
                  exact ((nt_lst _).c _ _ z).elim
            · rcases x.iof n D z with z | z
              · exact n2 n z
              · rw [e] at z; cases z
          obtain ⟨eD2, np2, nb2⟩ := keep x2 rb2.sub eD np nb
          refine tIt_go s3 (fun c x B1 q => by rw [em] at q; cases q) (by rw [em]; simp) fun k' B4 q5 w3 H3 x3 s4 => ?_
          rw [em] at q5; cases q5
          obtain ⟨eD3, np3, nb3⟩ := keep x3 s4.rb.sub eD2 np2 nb2
          have sO := (s2.step x3 s4.rb)
          rcases q4 with ⟨rfl, e, B5, es2, e1, e2, rfl⟩ | ⟨rfl, e2⟩
          · rw [if_pos rfl]
            refine tI_go s4 (fun c x B1 q => by rw [e1] at q; cases q) (by rw [e1]; simp) fun d B6 q6 w4 v H4 x4 s5 r4 => ?_
            rw [e1] at q6; cases q6
            obtain ⟨eD4, np4, nb4⟩ := keep x4 s5.rb.sub eD3 np3 nb3
            have hl : av.length = acc.length := ra.len
            refine ⟨av, eD4, ?_, w4, B5, acc ++ [e], es2, av ++ [v], (((x'.trans x2).trans x3).trans x4).mut nD, ((l'.trans x2.le).trans x3.le).trans x4.le, (sO.step x4 s5.rb).other np4 nb4 nw (fun u q => by rw [eD4] at q; cases q; exact nt_lst _), upd_same,
              Reps.app (Reps.mono ((x2.le.trans x3.le).trans x4.le) _ _ ra) (Reps.one r4), np4, nb4, nw, e2, by rw [hes]; simp⟩
            rw [hes, List.length_append, List.length_cons] at hz
            omega
          · rw [if_neg (by simp)]
            exact ⟨w3, B3, acc, es', av, (x'.trans x2).trans x3, (l'.trans x2.le).trans x3.le, sO, eD3, Reps.mono (x2.le.trans x3.le) _ _ ra, np3, nb3, nw, e2, hes⟩
        · rw [List.drop_eq_nil_of_le (by omega)] at q3
          simp only [lcL] at q3
          cases q3
          rw [List.append_nil] at hes
          subst hes
          exact .inl ⟨it.stop i H' (by omega) (l'.P.trans s'.rb.sub), p w' D _ H' x' s'.rb eD (by simp only [Cont]; exact ⟨av, rfl, ra⟩) nD np nb (by simp)⟩
      · exact p.elim
variable {elt tg iter : Expr} {ifs : List Expr} {scope : Scope} {own : List (Str × Nat)} {pos : Pos} {t : Tg} {mi : Ei} {mt : Et} {me : Ev} {sl : List Nat}
theorem f_lc (c : Ok g X) (hN : X.N.Nodup) (hi : SndI g E H0 X tg iter mi) (ok : BlkOk X.N X.env.scope scope own) (hsl : ∀ j ∈ sl, j ∈ own.map (·.2))
    (hg : ∀ (s : Shared) (H : Hp) (C : Addr) (cl : List (Str × Addr)) (fp : List Addr), SndG g H0 (X.blk s H scope (compEnvC scope cl C X.env) fp) tg t sl) (ht : ∀ (s : Shared) (H : Hp) (C : Addr) (cl : List (Str × Addr)) (fp : List Addr), SndTs g E0 H0 (X.blk s H scope (compEnvC scope cl C X.env) fp) ifs mt)
    (he : ∀ (s : Shared) (H : Hp) (C : Addr) (cl : List (Str × Addr)) (fp : List Addr), Snd g E0 H0 (X.blk s H scope (compEnvC scope cl C X.env) fp) false elt me) (hs : ∀ x, foldedSetIterable iter X.env x = pure x := by intro _; rfl) :
    SndF g E H0 X (.ListComp elt [⟨tg, iter, ifs, 0⟩] scope pos) (mLc (own.map (·.2)) t mi mt me) :=
  weak (pe_lc c.calm hN hi ok hg ht he hs) fun σ H Q ⟨w, σI, B, s, p⟩ => lc_at rfl hsl s p
/-- name = [..] on one line -/
theorem z_setLcO {i : Nat} {y : Str} {py spos : Pos} (c : Ok g X) (hN : X.N.Nodup) (hy : X.N[i]? = some y) (hyl : X.env.scope.names.lookup y = some .local) (hsw : swapsWith (.ListComp elt [⟨tg, iter, ifs, 0⟩] scope pos) (some (.Name y py)) spos.line X.env = pure true)
    (hi : SndI g E H0 X tg iter mi) (ok : BlkOk X.N X.env.scope scope own) (hsl : ∀ j ∈ sl, j ∈ own.map (·.2))
    (hg : ∀ (s : Shared) (H : Hp) (C : Addr) (cl : List (Str × Addr)) (fp : List Addr), SndG g H0 (X.blk s H scope (compEnvC scope cl C X.env) fp) tg t sl) (ht : ∀ (s : Shared) (H : Hp) (C : Addr) (cl : List (Str × Addr)) (fp : List Addr), SndTs g E0 H0 (X.blk s H scope (compEnvC scope cl C X.env) fp) ifs mt)
    (he : ∀ (s : Shared) (H : Hp) (C : Addr) (cl : List (Str × Addr)) (fp : List Addr), Snd g E0 H0 (X.blk s H scope (compEnvC scope cl C X.env) fp) false elt me) (hs : ∀ x, foldedSetIterable iter X.env x = pure x := by intro _; rfl) :
    SndS g E w0 H0 X (.Assign [.Name y py] (.ListComp elt [⟨tg, iter, ifs, 0⟩] scope pos) spos) (mSetO i (mLc (own.map (·.2)) t mi mt me)) := by
  refine weakS (ps_setLc c.calm hN hy hyl hsw hi ok hg ht he hs) ?_
  rintro D σ H ⟨w, σI, B, s, x, p⟩
  have h : tF g E H0 (mLc (own.map (·.2)) t mi mt me) σ H (fun x H1 => gName i x σ H1 D.nx) :=
    st_goF s x p fun d B1 w1 a o H1 x1 x2 s1 e c n pp io z p1 => p1 w1 _ H1 (Le.refl _) (s1.setO i e c pp io (x.none0 n) (fun j f hj => s.own_ne hj n) z) x1
  obtain ⟨w', σI', B', s', p'⟩ := h
  exact lc_at rfl hsl s' p'
theorem z_setLc {i : Nat} {y : Str} {py spos : Pos} (c : Ok g X) (hN : X.N.Nodup) (hy : X.N[i]? = some y) (hyl : X.env.scope.names.lookup y = some .local) (hsw : swapsWith (.ListComp elt [⟨tg, iter, ifs, 0⟩] scope pos) (some (.Name y py)) spos.line X.env = pure true)
    (hi : SndI g E H0 X tg iter mi) (ok : BlkOk X.N X.env.scope scope own) (hsl : ∀ j ∈ sl, j ∈ own.map (·.2))
    (hg : ∀ (s : Shared) (H : Hp) (C : Addr) (cl : List (Str × Addr)) (fp : List Addr), SndG g H0 (X.blk s H scope (compEnvC scope cl C X.env) fp) tg t sl) (ht : ∀ (s : Shared) (H : Hp) (C : Addr) (cl : List (Str × Addr)) (fp : List Addr), SndTs g E0 H0 (X.blk s H scope (compEnvC scope cl C X.env) fp) ifs mt)
    (he : ∀ (s : Shared) (H : Hp) (C : Addr) (cl : List (Str × Addr)) (fp : List Addr), Snd g E0 H0 (X.blk s H scope (compEnvC scope cl C X.env) fp) false elt me) (hs : ∀ x, foldedSetIterable iter X.env x = pure x := by intro _; rfl) :
    SndS g E w0 H0 X (.Assign [.Name y py] (.ListComp elt [⟨tg, iter, ifs, 0⟩] scope pos) spos) (mSet i (mLc (own.map (·.2)) t mi mt me)) := by
  refine weakS (ps_setLc c.calm hN hy hyl hsw hi ok hg ht he hs) ?_
  rintro D σ H ⟨w, σI, B, s, x, p⟩
  have h : tI g E H0 false (mLc (own.map (·.2)) t mi mt me) σ H (fun x H1 => gName i x σ H1 D.nx) :=
    st_go s x p fun d B1 w1 v H1 x1 x2 s1 r p1 => p1 w1 _ H1 (Le.refl _) (s1.set i r) x1
  obtain ⟨w', σI', B', s', p'⟩ := h
  exact lc_at rfl hsl s' (PostF.of p')
end
end Hf

set_option Elab.async false
set_option linter.all false
set_option maxRecDepth 100000
set_option maxHeartbeats 4000000
namespace Hf
open PySem PySem.Spec PyProof.Rows L2

/-! ### a name's own list is changed -/
section
variable {g : Gs} {E : XK} {w0 w : Wd} {H0 H : Hp} {X : Cx} {e : Expr} {me : Ev} {pos p1 p2 apos : Pos} {bo : Bool} {x : Str} {i : Nat} {σI : Sl} {σ : L2.St} {B : Bs} {D : Ends}
def upO (i : Nat) (f : List Hf.D → Option (List Hf.D)) (σ : Sl) (B : Bs) : Ss := match σ[i]? with
  | some (some (true, .lst ds)) => match f ds with
    | some es => .next (σ.set i (some (true, .lst es))) B
    | Option.none => .bad
  | _ => .bad
theorem upO_go {f : List Hf.D → Option (List Hf.D)} (s : S0 g H0 w σI B σ H) (x : Ext w0 H0 w H) (p : PostS g E w0 H0 w D (upO i f σI B)) :
    ∃ a vs ds es, σ[i]? = some (some (.ref a)) ∧ H a = some (.lst vs) ∧ Reps g w ds vs ∧ σI[i]? = some (some (true, .lst ds)) ∧ f ds = some es ∧ ∀ us, Reps g w es us → D.nx σ (upd H a (.lst us)) := by
  unfold upO at p
  split at p
  · rename_i ds hi
    obtain ⟨a, o, e1, ha, c, np, nb, n0⟩ := s.ow i _ hi
    simp only [Cont] at c
    obtain ⟨vs, rfl, r⟩ := c
    split at p
    · rename_i es hf
      exact ⟨a, vs, ds, es, e1, ha, r, hi, hf, fun us ru => p w σ _ (Le.refl _) (s.mut hi e1 (by simp only [Cont]; exact ⟨us, rfl, ru⟩) (by intro _ _ z; cases z)) (x.mut n0)⟩
    · exact p.elim
  · exact p.elim
def mApp (i : Nat) (m : Ev) : Ms := fun σ B => match σ[i]? with
  | some (some (true, .lst _)) => (m σ B).st fun d B1 => upO i (fun ds => if ds.length < sizeLine then some (ds ++ [d]) else Option.none) σ B1
  | _ => .bad
theorem tyL {K : PySem.W.Frag} {H : Hp} {a : Addr} {xs : List V} (h : H a = some (.lst xs)) : tyV K "list" (.ref a) H := .inl ⟨rfl, xs, .inl (.inl h)⟩
theorem own_at {P : Prop} (s : S0 g H0 w σI B σ H) (hi : ∀ a vs, σ[i]? = some (some (.ref a)) → H a = some (.lst vs) → P) (h : ∃ ds, σI[i]? = some (some (true, .lst ds))) : P := by
  obtain ⟨ds, h⟩ := h
  obtain ⟨a, o, e1, ha, c, _⟩ := s.ow i _ h
  simp only [Cont] at c
  obtain ⟨vs, rfl, r⟩ := c
  exact hi a vs e1 ha
theorem z_app (he : Snd g E H0 X false e me) (hN : X.N[i]? = some x := by rfl) (hv : Vis X.env.scope x := by first | exact Or.inl rfl | exact Or.inr (Or.inl rfl) | exact Or.inr (Or.inr rfl)) (hd : (x == ("__debug__" : Str)) = false := by decide) (hcd : (x == ("__classdict__" : Str)) = false := by decide)
    (hbase : attributeBase (.Name x p1) "append" X.env (eval (.Name x p1) X.env) = eval (.Name x p1) X.env := by rfl)
    (hfew : ((backTo p2 (starEach [e] X.env)).all (fun x => !x.1) && (backToKw p2 (keywordEach [] X.env)).all (fun x => x.1.isSome) && decide ([e].length + ([] : List Keyword).length + (if ([] : List Keyword).isEmpty then 0 else 1) < 30)) = true := by rfl)
    (hline : (apos.endLine == p2.line) = true := by rfl) (hs : starEach [e] X.env = (false, eval e X.env) :: starEach [] X.env := by rfl) (hpl : (backTo p2 (starEach [] X.env)).any (·.1) = false := by rfl) (hsw : swapsWith (.Call (.Attribute (.Name x p1) "append" apos) [e] [] p2) none pos.line X.env = pure false := by rfl) :
    SndS g E w0 H0 X (.Expr (.Call (.Attribute (.Name x p1) "append" apos) [e] [] p2) pos) (mApp i me) := by
  refine weakS (ps_expr (pe_bm PySem.F.plainAttrs_list PySem.F.slot_list_append PySem.F.type_list_append mt_append (pe_var hN hv hd hcd) (pa_cons he pa_nil hs) hbase hfew hline hs hpl) hsw) ?_
  rintro D σ H ⟨w, σI, B, s, x0, p⟩
  unfold mApp at p
  split at p
  · rename_i ds0 hi
    refine own_at s (fun a vs e1 ha => ⟨_, e1, tyL ha, ?_⟩) ⟨ds0, hi⟩
    refine st_go s x0 p fun d B1 w1 v H1 x1 x2 s1 r p1 => ?_
    obtain ⟨a', vs', ds, es, f1, f2, f3, f4, f5, k⟩ := upO_go s1 x1 p1
    rw [e1] at f1; cases f1
    split at f5
    · rename_i hl
      cases f5
      exact ⟨a, vs', v, rfl, rfl, f2, by rw [f3.len]; exact hl, k _ (Reps.app f3 (Reps.one r))⟩
    · cases f5
  · exact p.elim
def mExt (i : Nat) (m : Ev) : Ms := fun σ B => match σ[i]? with
  | some (some (true, .lst _)) => (m σ B).st fun d B1 => match d with
    | .lst zs => upO i (fun ds => if ds.length + zs.length ≤ sizeLine then some (ds ++ zs) else Option.none) σ B1
    | _ => .bad
  | _ => .bad
theorem z_ext (he : Snd g E H0 X bo e me) (hN : X.N[i]? = some x := by rfl) (hv : Vis X.env.scope x := by first | exact Or.inl rfl | exact Or.inr (Or.inl rfl) | exact Or.inr (Or.inr rfl)) (hd : (x == ("__debug__" : Str)) = false := by decide) (hcd : (x == ("__classdict__" : Str)) = false := by decide)
    (hbase : attributeBase (.Name x p1) "extend" X.env (eval (.Name x p1) X.env) = eval (.Name x p1) X.env := by rfl)
    (hfew : ((backTo p2 (starEach [e] X.env)).all (fun x => !x.1) && (backToKw p2 (keywordEach [] X.env)).all (fun x => x.1.isSome) && decide ([e].length + ([] : List Keyword).length + (if ([] : List Keyword).isEmpty then 0 else 1) < 30)) = true := by rfl)
    (hline : (apos.endLine == p2.line) = true := by rfl) (hs : starEach [e] X.env = (false, eval e X.env) :: starEach [] X.env := by rfl) (hpl : (backTo p2 (starEach [] X.env)).any (·.1) = false := by rfl) (hsw : swapsWith (.Call (.Attribute (.Name x p1) "extend" apos) [e] [] p2) none pos.line X.env = pure false := by rfl) :
    SndS g E w0 H0 X (.Expr (.Call (.Attribute (.Name x p1) "extend" apos) [e] [] p2) pos) (mExt i me) := by
  refine weakS (ps_expr (pe_bm PySem.F.plainAttrs_list PySem.F.slot_list_extend PySem.F.type_list_extend mt_extend (pe_var hN hv hd hcd) (pa_cons he pa_nil hs) hbase hfew hline hs hpl) hsw) ?_
  rintro D σ H ⟨w, σI, B, s, x0, p⟩
  unfold mExt at p
  split at p
  · rename_i ds0 hi
    refine own_at s (fun a vs e1 ha => ⟨_, e1, tyL ha, ?_⟩) ⟨ds0, hi⟩
    refine st_go s x0 p fun d B1 w1 v H1 x1 x2 s1 r p1 => ?_
    split at p1
    · rename_i zs
      obtain ⟨b, us, rfl, g1, g2⟩ := r.up.lst s1
      obtain ⟨a', vs', ds, es, f1, f2, f3, f4, f5, k⟩ := upO_go s1 x1 p1
      rw [e1] at f1; cases f1
      split at f5
      · rename_i hl
        cases f5
        exact ⟨a, b, vs', us, rfl, rfl, f2, g1, by rw [f3.len, g2.len]; exact hl, k _ (Reps.app f3 g2)⟩
      · cases f5
    · exact p1.elim
  · exact p.elim
/-- y = x.pop() -/
def mPop (i j : Nat) : Ms := fun σ B => match σ[i]? with
  | some (some (true, .lst ds)) => match ds[ds.length - 1]? with
    | some d => .next ((σ.set i (some (true, .lst ds.dropLast))).set j (some (false, d))) B
    | Option.none => .bad
  | _ => .bad
theorem Reps.dropLast {g : Gs} {w : Wd} {ds : List Hf.D} {vs : List V} (r : Reps g w ds vs) : Reps g w ds.dropLast vs.dropLast := by
  rw [List.dropLast_eq_take, List.dropLast_eq_take, r.len]
  exact Reps.take _ r
theorem Reps.erase {g : Gs} {w : Wd} : ∀ {ds : List Hf.D} {vs : List V} (k : Nat), Reps g w ds vs → Reps g w (ds.eraseIdx k) (vs.eraseIdx k)
  | [], vs, k, h => by simp only [Reps] at h; subst h; simp [Reps]
  | d :: ds, vs, 0, h => by
    simp only [Reps] at h
    obtain ⟨v, us, rfl, r, rs⟩ := h
    simpa using rs
  | d :: ds, vs, k + 1, h => by
    simp only [Reps] at h
    obtain ⟨v, us, rfl, r, rs⟩ := h
    simp only [List.eraseIdx_cons_succ, Reps]
    exact ⟨v, _, rfl, r, Reps.erase k rs⟩
theorem z_pop {j : Nat} {y : Str} {p3 : Pos} (hnd : X.N.Nodup) (hN : X.N[i]? = some x := by rfl) (hv : Vis X.env.scope x := by first | exact Or.inl rfl | exact Or.inr (Or.inl rfl) | exact Or.inr (Or.inr rfl)) (hy : X.N[j]? = some y := by rfl) (hyl : Loc X.env.scope y := by first | exact .inl rfl | exact .inr rfl) (hf : X.fn y = true := by rfl) (hd : (x == ("__debug__" : Str)) = false := by decide) (hcd : (x == ("__classdict__" : Str)) = false := by decide)
    (hbase : attributeBase (.Name x p1) "pop" X.env (eval (.Name x p1) X.env) = eval (.Name x p1) X.env := by rfl) (hline : (apos.endLine == p2.line) = true := by rfl)
    (hsw : swapsWith (.Call (.Attribute (.Name x p1) "pop" apos) [] [] p2) (some (.Name y p3)) pos.line X.env = pure false := by rfl) :
    SndS g E w0 H0 X (.Assign [.Name y p3] (.Call (.Attribute (.Name x p1) "pop" apos) [] [] p2) pos) (mPop i j) := by
  refine weakS (ps_set hnd hy hyl (pe_bm0 PySem.F.plainAttrs_list PySem.F.slot_list_pop PySem.F.type_list_pop mt_pop (pe_var hN hv hd hcd) hbase hline) hsw (.inl hf)) ?_
  rintro D σ H ⟨w, σI, B, s, x0, p⟩
  unfold mPop at p
  split at p
  · rename_i ds hi
    split at p
    · rename_i d hd'
      obtain ⟨a, o, e1, ha, c, np, nb, n0⟩ := s.ow i _ hi
      simp only [Cont] at c
      obtain ⟨vs, rfl, r⟩ := c
      obtain ⟨v, e2, rv⟩ := Reps.get r hd'
      refine ⟨_, e1, tyL ha, a, vs, v, rfl, rfl, ha, by rw [r.len]; exact e2, ?_⟩
      exact p w _ _ (Le.refl _) ((s.mut hi e1 (by simp only [Cont]; exact ⟨_, rfl, r.dropLast⟩) (d' := .lst ds.dropLast) (by intro _ _ z; cases z)).set j rv) (x0.mut n0)
    · exact p.elim
  · exact p.elim
/-! ### a box is changed: x[e] = v -/
def mSetIx (ob ix v : Ev) : Ms := fun σ B => (v σ B).st fun d B1 => (ob σ B1).st fun o B2 => (ix σ B2).st fun i B3 => match o, i with
  | .box n, .int k => match B3[n]? with
    | some (.lst ds) => match ixN ds.length k with
      | some j => .next σ (B3.set n (.lst (ds.set j d)))
      | Option.none => .bad
    | _ => .bad
  | _, _ => .bad
theorem z_setIx {o ix : Expr} {mo mi : Ev} {b1 : Bool} (he : Snd g E H0 X false e me) (ho : Snd g E H0 X false o mo) (hi : Snd g E H0 X b1 ix mi) (hs : swapsWithSole [.Subscript o ix p1] e pos.line X.env = pure false := by rfl) (hw : swappedStores [.Subscript o ix p1] e X.env = pure none := by rfl)
    (h1 : (assignEach [.Subscript o ix p1] X.env).map (·.2) = [assign (.Subscript o ix p1) X.env] := by rfl)
    (ha : ∀ v, assign (.Subscript o ix p1) X.env v = (do
      let ov ← holding [v] (eval o X.env)
      let iv ← holding [v, ov] (eval ix X.env)
      standAt p1
      holding [v, ov, iv] (setItem ov iv v)
      release [v, ov, iv] []) := by intro _; rfl) : SndS g E w0 H0 X (.Assign [.Subscript o ix p1] e pos) (mSetIx mo mi me) := by
  refine weakS (ps_asg he (pg_sub ho hi set_list ha) hs hw h1) ?_
  rintro D σ H ⟨w, σI, B, s, x0, p⟩
  refine st_go s x0 p fun d B1 w1 v H1 x1 x2 s1 r p1 => ?_
  refine st_go s1 x1 p1 fun o B2 w2 ov H2 y1 y2 s2 r2 p2 => ?_
  refine st_go s2 y1 p2 fun i B3 w3 iv H3 z1 z2 s3 r3 p3 => ?_
  split at p3
  · rename_i n k
    split at p3
    · rename_i ds hb
      split at p3
      · rename_i j hj
        obtain ⟨a, rfl, hn⟩ := (RepB.up (r2 : RepB g w2 σI σ false (.box n) ov)).mono z2.le |>.box s3
        obtain ⟨a', oo, h1, h2, c⟩ := s3.rb.get _ _ hb
        rw [hn] at h1; cases h1
        simp only [Cont] at c
        obtain ⟨vs, rfl, rr⟩ := c
        have rv : Rep g w3 d v := Rep.mono (y2.le.trans z2.le) _ _ r
        refine ⟨a, vs, k, j, rfl, r3.up.int s3, h2, by rw [rr.len]; exact hj, ?_⟩
        exact p3 w3 σ _ (Le.refl _) (s3.mutB hn (by simp only [Cont]; exact ⟨_, rfl, Reps.set j rr rv⟩)) (z1.mutB hn)
      · exact p3.elim
    · exact p3.elim
  · exact p3.elim
/-! own list by place: x[k] = v -/
def mSetOwn (i : Nat) (ix v : Ev) : Ms := fun σ B => (v σ B).st fun d B1 => match σ[i]? with
  | some (some (true, .lst _)) => (ix σ B1).st fun k B2 => match k with
    | .int k => upO i (fun ds => (ixN ds.length k).map fun j => ds.set j d) σ B2
    | _ => .bad
  | _ => .bad
theorem z_setOwn {ix : Expr} {mi : Ev} {b1 : Bool} (he : Snd g E H0 X false e me) (hi : Snd g E H0 X b1 ix mi) (hN : X.N[i]? = some x := by rfl) (hv : Vis X.env.scope x := by first | exact Or.inl rfl | exact Or.inr (Or.inl rfl) | exact Or.inr (Or.inr rfl)) (hd : (x == ("__debug__" : Str)) = false := by decide) (hcd : (x == ("__classdict__" : Str)) = false := by decide)
    (hs : swapsWithSole [.Subscript (.Name x p2) ix p1] e pos.line X.env = pure false := by rfl) (hw : swappedStores [.Subscript (.Name x p2) ix p1] e X.env = pure none := by rfl)
    (h1 : (assignEach [.Subscript (.Name x p2) ix p1] X.env).map (·.2) = [assign (.Subscript (.Name x p2) ix p1) X.env] := by rfl)
    (ha : ∀ v, assign (.Subscript (.Name x p2) ix p1) X.env v = (do
      let ov ← holding [v] (eval (.Name x p2) X.env)
      let iv ← holding [v, ov] (eval ix X.env)
      standAt p1
      holding [v, ov, iv] (setItem ov iv v)
      release [v, ov, iv] []) := by intro _; rfl) : SndS g E w0 H0 X (.Assign [.Subscript (.Name x p2) ix p1] e pos) (mSetOwn i mi me) := by
  refine weakS (ps_asg he (pg_sub (pe_var hN hv hd hcd) hi set_list ha) hs hw h1) ?_
  rintro D σ H ⟨w, σI, B, s, x0, p⟩
  refine st_go s x0 p fun d B1 w1 v H1 x1 x2 s1 r p1 => ?_
  split at p1
  · rename_i ds0 hi
    refine own_at s1 (fun a vs e1 ha => ⟨_, e1, ?_⟩) ⟨ds0, hi⟩
    refine st_go s1 x1 p1 fun k B2 w2 kv H2 y1 y2 s2 r2 p2 => ?_
    split at p2
    · rename_i k
      obtain ⟨a', vs', ds, es, f1, f2, f3, f4, f5, kk⟩ := upO_go s2 y1 p2
      rw [e1] at f1; cases f1
      obtain ⟨j, hj, rfl⟩ := Option.map_eq_some_iff.mp f5
      exact ⟨a, vs', k, j, rfl, r2.up.int s2, f2, by rw [f3.len]; exact hj, kk _ (Reps.set j f3 (Rep.mono y2.le _ _ r))⟩
    · exact p2.elim
  · exact p1.elim
end

/-! ### calls -/
def PostC (g : Gs) (E : XK) (w : Wd) (H : Hp) (Q : VK) : Rs D → Prop
  | .ok d B' => ∀ w' v H', Ext w H w' H' → RB g w' B' H' → Rep g w' d v → Q v H'
  | .exc c x B' => ∀ w' cls dd H', Ext w H w' H' → RB g w' B' H' → ExcR g w' c x cls dd H' → E cls dd H'
  | .bad => False
/-- the promise of a def whose meaning is f -/
def spF (g : Gs) (f : Fn) : Sp := fun vs H Q E => ∃ w ds B, RB g w B H ∧ Reps g w ds vs ∧ PostC g E w H Q (f ds B)
/-- a body's end as a call's result -/
def Ss.fin : Ss → Rs D
  | .next _ B => .ok .none B
  | .ret d B => .ok d B
  | .exc c x B => .exc c x B
  | .bad => .bad
/-- the meaning of a def: n parameters, k names in all -/
def mkFn (n k : Nat) (b : Ms) : Fn := fun ds B => if ds.length = n then (b (ds.map (fun d => some (false, d)) ++ List.replicate (k - n) Option.none) B).fin else .bad
/-- what a body may count on -/
structure OkC (g : Gs) (E : XK) (lv : Nat) (X : Cx) : Prop extends Ok g X where
  room : Room lv X.A
  hx : Passes (L2N.CX X.prog X.w) X E
theorem OkC.blk {g : Gs} {E : XK} {lv : Nat} {X : Cx} (k : OkC g E lv X) (s : Shared) (H : Hp) (scope : Scope) (env : Env) (fp : List Addr) : OkC g E0 lv (X.blk s H scope env fp) := ⟨k.toOk.blk s H scope env fp, k.room, passN⟩
/-- a def of the module -/
def Def (g : Gs) (k : Nat) (x : Str) (dfl : List D) (f : Fn) : Prop := ∃ (fa : Addr) (fd : FuncData) (ps : List Str) (dvs : List V) (ds : List Value), FnOk g.prog g.w g.K g.mg g.base (L2N.CX g.prog g.w) k fa fd ps (spF g f) ∧ g.mg x = some (.ref fa) ∧ PySem.W.keepIn g.K (.ref fa) = true ∧ Binds g.K fd ps ds ∧ Vals dvs ds ∧ ∀ w, Reps g w dfl dvs
section
variable {g : Gs} {E : XK} {w0 w : Wd} {H0 H : Hp} {X : Cx} {e : Expr} {es : List Expr} {ms : Evs} {pos p : Pos} {x : Str} {f : Fn} {lv k : Nat} {dfl : List D} {σI : Sl} {σ : L2.St} {B : Bs} {Q : VK}
def mCall (f : Fn) (dfl : List D) (ms : Evs) : Ev := fun σ B => (ms σ B).bind fun ds B1 => f (ds ++ dfl) B1
theorem PostC.of (s : S0 g H0 w σI B σ H) : ∀ {m : Rs D}, PostE g E w H σI σ false Q m → PostC g E w H Q m
  | .ok _ _, h => h
  | .exc _ _ _, h => h
  | .bad, h => h
theorem call_go {sp : Sp} {dvs : List V} (hsp : sp = spF g f) (hd : ∀ w, Reps g w dfl dvs) : ∀ σ H Q, tI g E H0 false (mCall f dfl ms) σ H Q → tCall sp dvs E (tIs g E H0 ms) σ H Q := by
  subst hsp
  rintro σ H Q ⟨w, σI, B, s, p⟩
  exact tIs_bind s p fun ds B1 w1 vs H1 x1 s1 r1 p1 => ⟨w1, ds ++ dfl, B1, s1.rb, Reps.app r1 (hd w1), PostC.of s1 p1⟩
theorem s_call (c : OkC g E lv X) (d : Def g k x dfl f) (hk : k ≤ lv) (ha : Snds g E H0 X (e :: es) ms) (hg : Gl X x := by rfl) (hdb : (x == ("__debug__" : Str)) = false := by decide) (he : starEach (e :: es) X.env = (false, eval e X.env) :: starEach es X.env := by rfl) (hpl : (backTo pos (starEach es X.env)).any (·.1) = false := by rfl) :
    Snd g E H0 X false (.Call (.Name x p) (e :: es) [] pos) (mCall f dfl ms) := by
  obtain ⟨fa, fd, ps, dvs, ds, F, hm, kp, b, hd, hr⟩ := d
  obtain ⟨prog, w', K, mg, base, A, N, s_0, H_0, env, outer, stack, ex, fn, calm, pn, xe⟩ := X
  obtain ⟨⟨h1, h2, h3, h4, h5, h6, h7, hfx⟩, h8, h9⟩ := c
  simp only at h1 h2 h5 h6 h7
  subst h1 h2 h5 h6 h7
  exact weak (pe_call F (h8.mono hk) hg hm kp b hd h9 ha hdb he hpl) (call_go rfl hr)
theorem s_call0 (c : OkC g E lv X) (d : Def g k x dfl f) (hk : k ≤ lv) (hg : Gl X x := by rfl) (hdb : (x == ("__debug__" : Str)) = false := by decide) : Snd g E H0 X false (.Call (.Name x p) [] [] pos) (mCall f dfl mNil) := by
  obtain ⟨fa, fd, ps, dvs, ds, F, hm, kp, b, hd, hr⟩ := d
  obtain ⟨prog, w', K, mg, base, A, N, s_0, H_0, env, outer, stack, ex, fn, calm, pn, xe⟩ := X
  obtain ⟨⟨h1, h2, h3, h4, h5, h6, h7, hfx⟩, h8, h9⟩ := c
  simp only at h1 h2 h5 h6 h7
  subst h1 h2 h5 h6 h7
  refine weak (pe_call0 F (h8.mono hk) hg hm kp b hd h9 hdb) ?_
  rintro σ H Q ⟨w, σI, B, s, p⟩
  exact ⟨w, [] ++ dfl, B, s.rb, Reps.app (by simp only [Reps]) (hr w), PostC.of s p⟩
/-! ### a def keeps its promise -/
variable {P : Program} {K : PySem.W.Frag} {base : Heap}
theorem start_at {N : List Str} {ds : List D} {vs : List V} {n : Nat} (rb : RB g w B H) (r : Reps g w ds vs) (hn : ds.length = n) (hN : n ≤ N.length) : S0 g H w (ds.map (fun d => some (false, d)) ++ List.replicate (N.length - n) Option.none) B (L2.start N vs) H where
  rb := rb
  len := by simp [L2.start, r.len, hn]
  sl := fun i d h => by
    by_cases hi : i < ds.length
    · rw [List.getElem?_append_left (by simpa using hi), List.getElem?_map] at h
      cases q : ds[i]? with
      | none => rw [q] at h; cases h
      | some d' =>
        rw [q] at h; cases h
        obtain ⟨v, e1, rv⟩ := Reps.get r q
        refine ⟨v, ?_, rv⟩
        unfold L2.start
        rw [List.getElem?_append_left (by rw [List.length_map, r.len]; exact hi), List.getElem?_map, e1]; rfl
    · rw [List.getElem?_append_right (by simp; omega)] at h
      rw [List.getElem?_replicate] at h
      split at h <;> cases h
  ow := fun i d h => by
    by_cases hi : i < ds.length
    · rw [List.getElem?_append_left (by simpa using hi), List.getElem?_map] at h
      cases q : ds[i]? with
      | none => rw [q] at h; cases h
      | some d' => rw [q] at h; cases h
    · rw [List.getElem?_append_right (by simp; omega)] at h
      rw [List.getElem?_replicate] at h
      split at h <;> cases h
  oi := fun i j d e a h => by
    by_cases hi : i < ds.length
    · rw [List.getElem?_append_left (by simpa using hi), List.getElem?_map] at h
      cases q : ds[i]? with
      | none => rw [q] at h; cases h
      | some d' => rw [q] at h; cases h
    · rw [List.getElem?_append_right (by simp; omega)] at h
      rw [List.getElem?_replicate] at h
      split at h <;> cases h
  me := fun i c es a h => by
    by_cases hi : i < ds.length
    · rw [List.getElem?_append_left (by simpa using hi), List.getElem?_map] at h
      cases q : ds[i]? with
      | none => rw [q] at h; cases h
      | some d' => rw [q] at h; cases h
    · rw [List.getElem?_append_right (by simp; omega)] at h
      rw [List.getElem?_replicate] at h
      split at h <;> cases h
/-- a def of the text whose body means b -/
theorem def_ok {x qual : Str} {st : Stmt} {fa : Addr} {fd : FuncData} {N ps : List Str} {n : Nat} {b : Ms} (F : L2.Fun g.K x qual st fa fd) (S : FnScope N ps (defScope st)) (hn : ps.length = n) (hN : n ≤ N.length)
    (fx : Fx g) (hb : ∀ (E : XK) (w0 : Wd) (H0 : Hp) (X : Cx), OkC g E k X → PassesOwn (model X.prog X.w) X.A X.env X.xe → L2N.Takes X (fun cls d _ H => E cls d H) → X.N = N → X.env.scope = defScope st → X.fn = (fun _ => true) → SndB g E w0 H0 X (defBody st) b) :
    FnOk g.prog g.w g.K g.mg g.base (L2N.CX g.prog g.w) (k + 1) fa fd ps (spF g (mkFn n N.length b)) := by
  refine F.okN S (fun vs H Q E h => ?_) (fun cdv A outer s H vs Q E hr h => ?_)
  · obtain ⟨w, ds, B, rb, r, p⟩ := h
    unfold mkFn at p
    split at p
    · rename_i e; rw [r.len, e, hn]
    · exact p.elim
  · obtain ⟨w, ds, B, rb, r, p⟩ := h
    unfold mkFn at p
    split at p
    · rename_i e
      refine ⟨_, hb E w H _ ⟨⟨rfl, rfl, rfl, ?_, rfl, rfl, rfl, fx⟩, hr, ?_⟩ (passes_of rfl) (L2N.takes_of rfl rfl rfl rfl) rfl rfl rfl, ?_⟩
      · have := hr.un; show A.units + 3 + 100 < cLine; have h2 : A.units + 3 + 16 * k + 200 < cLine := this; omega
      · exact L2N.passes_call (L2N.takes_of rfl rfl rfl rfl) (fun _ _ _ _ h => h)
      · refine ⟨w, _, B, start_at rb r e hN, Ext.refl _ _, ?_⟩
        revert p
        generalize b _ B = q
        intro p
        cases q with
        | next σI' B' => exact fun w' σ H' _ s x => p w' .non H' x s.rb (rep_none g w')
        | ret d B' => exact fun w' v H' rb x r => p w' v H' x rb r
        | exc c y B' => exact fun w' cls dd H' rb x r => p w' cls dd H' x rb r
        | bad => exact p
    · exact p.elim
end
end Hf

set_option Elab.async false
set_option linter.all false
set_option maxRecDepth 100000
set_option maxHeartbeats 4000000
namespace Hf
open PySem PySem.Spec PyProof.Rows L2

section
variable {g : Gs} {w : Wd} {H H0 : Hp} {σI : Sl} {σ : L2.St} {B : Bs} {x : V} {c : Nat} {ds : List D}
theorem RepO.inst (s : S0 g H0 w σI B σ H) (h : RepO g w σI σ (.inst c ds) x) : ∃ a dx vs, x = .ref a ∧ H a = some (.ins (g.cl c) dx ((fldN c).zip vs)) ∧ ds.length ≤ (fldN c).length ∧ g.has c = true ∧ Reps g w ds vs := by
  rcases h with h | ⟨i, h1, h2⟩
  · simp only [Rep] at h
    obtain ⟨a, dx, vs, rfl, p, l, hc, r⟩ := h
    exact ⟨a, dx, vs, rfl, s.rb.sub _ _ p, by omega, hc, r⟩
  · obtain ⟨a, o, e, ha, ct, _⟩ := s.ow i _ h1
    rw [h2] at e
    cases e
    simp only [Cont] at ct
    obtain ⟨dx, vs, rfl, l, hc, r⟩ := ct
    exact ⟨a, dx, vs, rfl, ha, l, hc, r⟩
theorem zip_lookup : ∀ {ns : List Str} {vs : List V} {j : Nat} {f : Str} {v : V}, ns.Nodup → ns[j]? = some f → vs[j]? = some v → (ns.zip vs).lookup f = some v
  | [], _, _, _, _, _, h, _ => by simp at h
  | n :: ns, [], j, f, v, _, _, h => by simp at h
  | n :: ns, u :: us, 0, f, v, nd, h1, h2 => by
    simp at h1 h2; subst h1 h2
    simp [List.lookup]
  | n :: ns, u :: us, j + 1, f, v, nd, h1, h2 => by
    simp only [List.getElem?_cons_succ] at h1 h2
    have hne : f ≠ n := fun e => by
      subst e
      exact (List.nodup_cons.mp nd).1 (List.mem_of_getElem? h1)
    simp only [List.zip_cons_cons, List.lookup]
    rw [show (f == n) = false from beq_eq_false_iff_ne.mpr hne]
    exact zip_lookup (List.nodup_cons.mp nd).2 h1 h2
theorem zip_lookup_none : ∀ {ns : List Str} {vs : List V} {f : Str}, f ∉ ns → (ns.zip vs).lookup f = none
  | [], _, _, _ => by simp
  | n :: ns, [], f, _ => by simp
  | n :: ns, u :: us, f, h => by
    simp only [List.mem_cons, not_or] at h
    simp only [List.zip_cons_cons, List.lookup]
    rw [show (f == n) = false from beq_eq_false_iff_ne.mpr h.1]
    exact zip_lookup_none h.2
theorem putF_zip : ∀ {ns : List Str} {vs : List V} {f : Str} {v : V}, ns.Nodup → ns[vs.length]? = some f → putF f v (ns.zip vs) = ns.zip (vs ++ [v])
  | [], vs, f, v, _, h => by simp at h
  | n :: ns, [], f, v, _, h => by simp at h; subst h; simp [putF]
  | n :: ns, u :: us, f, v, nd, h => by
    simp only [List.length_cons, List.getElem?_cons_succ] at h
    have hne : n ≠ f := fun e => by
      subst e
      exact (List.nodup_cons.mp nd).1 (List.mem_of_getElem? h)
    simp only [List.zip_cons_cons, List.cons_append, putF]
    rw [if_neg hne, putF_zip (List.nodup_cons.mp nd).2 h]
end
section
variable {g : Gs} {E : XK} {w0 w : Wd} {H0 H : Hp} {X : Cx} {e o : Expr} {es : List Expr} {m : Ev} {ms : Evs} {pos p p1 p2 : Pos} {x : Str} {f : Fn} {lv k c : Nat} {dfl : List D} {σI : Sl} {σ : L2.St} {B : Bs} {Q : VK} {b1 : Bool} {i : Nat}
/-! ### fields -/
def mFld (c j : Nat) (m : Ev) : Ev := fun σ B => (m σ B).bind fun d B1 => match d with
  | .inst c' ds => if c' = c then okIf ds[j]? B1 else .bad
  | _ => .bad
theorem s_fld (ok : Ok g X) {j : Nat} {n : Str} (hj : (fldN c)[j]? = some n) (he : Snd g E H0 X b1 e m) (hb : attributeBase e n X.env (eval e X.env) = eval e X.env := by rfl) : Snd g E H0 X false (.Attribute e n pos) (mFld c j m) := by
  refine weak (pe_fld he hb) ?_
  rintro σ H Q ⟨w, σI, B, s, p⟩
  refine tI_bind s p fun d B1 w1 v H1 x1 s1 r1 p1 => ?_
  split at p1
  · rename_i c' ds
    split at p1
    · rename_i hc
      subst hc
      obtain ⟨d, hd, p2⟩ := okIf_go p1
      obtain ⟨a, dx, vs, rfl, ha, hl, hh, r⟩ := r1.up.inst s1
      have C := ok.fx.cls _ hh
      obtain ⟨u, e1, ru⟩ := Reps.get r hd
      rw [ok.K]
      exact ⟨a, _, dx, _, u, rfl, ha, C.cls, C.na _ (List.mem_of_getElem? hj), zip_lookup C.nd hj e1, p2.nowR s1 ru⟩
    · exact p1.elim
  · exact p1.elim
/-- self.f = e in an __init__: self is the own instance in slot 0 -/
def mFldSet (c : Nat) (m : Ev) : Ms := fun σ B => (m σ B).st fun d B1 => match σ[(0 : Nat)]? with
  | some (some (true, .inst c' ds)) => if c' = c ∧ ds.length < (fldN c).length then .next (σ.set 0 (some (true, .inst c (ds ++ [d])))) B1 else .bad
  | _ => .bad
theorem fldN_len (c : Nat) : (fldN c).length ≤ 3 := by
  unfold fldN
  split <;> simp
theorem z_fldSet (ok : Ok g X) {j : Nat} {n : Str} (hj : (fldN c)[j]? = some n) (he : Snd g E H0 X false e m) (hN : X.N[0]? = some x := by rfl) (hv : Vis X.env.scope x := by first | exact Or.inl rfl | exact Or.inr (Or.inl rfl) | exact Or.inr (Or.inr rfl)) (hd : (x == ("__debug__" : Str)) = false := by decide) (hcd : (x == ("__classdict__" : Str)) = false := by decide)
    (hs : swapsWith e (some (.Attribute (.Name x p1) n p2)) pos.line X.env = pure false := by rfl) : SndS g E w0 H0 X (.Assign [.Attribute (.Name x p1) n p2] e pos) (fun σ B => match σ[(0 : Nat)]? with
      | some (some (true, .inst _ ds)) => if ds.length = j then mFldSet c m σ B else .bad
      | _ => .bad) := by
  refine weakS (ps_fld (pe_var hN hv hd hcd) he hs) ?_
  rintro D σ H ⟨w, σI, B, s, x0, p⟩
  unfold mFldSet at p
  simp only at p
  split at p
  · rename_i c0 ds hi
    split at p
    · rename_i hl0
      subst hl0
      refine st_go s x0 p fun d B1 w1 v H1 x1 x2 s1 r p1 => ?_
      simp only at p1
      split at p1
      · rename_i h
        obtain ⟨hc, hl⟩ := h
        subst hc
        obtain ⟨a, o, e1, ha, ct, np, nb, n0⟩ := s1.ow 0 _ hi
        simp only [Cont] at ct
        obtain ⟨dx, vs, rfl, l, hh, rr⟩ := ct
        have C := ok.fx.cls _ hh
        refine ⟨_, e1, a, _, dx, _, rfl, ha, ok.K ▸ C.cls, ok.K ▸ C.na _ (List.mem_of_getElem? hj), ?_, ?_⟩
        · have := fldN_len c0; rw [List.length_zip]; omega
        · rw [putF_zip C.nd (by rw [rr.len]; exact hj)]
          exact p1 w1 σ _ (Le.refl _) (s1.mut hi e1 (by simp only [Cont]; exact ⟨dx, _, rfl, by simp; omega, hh, Reps.app rr (Reps.one r)⟩) (fun _ _ _ => ⟨_, _, rfl⟩)) (x1.mut n0)
      · exact p1.elim
    · exact p.elim
  · exact p.elim
end
end Hf

set_option Elab.async false
set_option linter.all false
set_option maxRecDepth 100000
set_option maxHeartbeats 4000000
namespace Hf
open PySem PySem.Spec PyProof.Rows L2

/-- a constant of the module -/
def GlobC (g : Gs) (x : Str) (d : D) : Prop := ∃ v u, g.mg x = some u ∧ RelV v u ∧ ∀ w, Rep g w d v
theorem nbs {g : Gs} {X : Cx} (ok : Ok g X) {x : String} (h : x ∈ ["len", "range", "isinstance", "tuple", "list", "all", "any", "max", "min", "set", "sorted", "enumerate", "zip", "repr", "str", "int", "sum", "dict", "bool"] := by decide) : X.mg (Str.ofString x) = Option.none := by
  rw [ok.mg]
  exact ok.fx.nb x h
section
variable {g : Gs} {E : XK} {w0 w : Wd} {H0 H : Hp} {X : Cx} {e o a b : Expr} {es : List Expr} {m ma mb : Ev} {ms : Evs} {pos p p1 p2 apos : Pos} {x : Str} {f : Fn} {lv k c : Nat} {dfl : List D} {σI : Sl} {σ : L2.St} {B : Bs} {Q : VK} {b1 b2 : Bool} {i : Nat}
theorem s_glob (ok : Ok g X) {d : D} (G : GlobC g x d) (hg : Gl X x := by rfl) (hd : (x == ("__debug__" : Str)) = false := by decide) : Snd g E H0 X false (.Name x pos) (mC d) := by
  obtain ⟨v, u, hm, r, h⟩ := G
  exact s_const (pe_glob hg (by rw [ok.mg]; exact hm) r hd) h
/-! ### isinstance -/
def isB : Bt → D → Option Bool
  | .int, .int _ => some true
  | .int, .bool _ => some true
  | .bool, .bool _ => some true
  | .tuple, .tup _ => some true
  | .str, .str _ => some true
  | .list, .lst _ => some true
  | .list, .scr _ => some true
  | _, .prs _ => Option.none
  | _, .box _ => Option.none
  | _, .cls _ => Option.none
  | _, .ptr _ => Option.none
  | _, .fnT _ => Option.none
  | _, _ => some false
def tyN : D → Option String
  | .none => some "NoneType"
  | .int _ => some "int"
  | .bool _ => some "bool"
  | .str _ => some "str"
  | .lst _ => some "list"
  | .scr _ => some "list"
  | .tup _ => some "tuple"
  | .dct _ _ => some "dict"
  | .kd _ _ => some "dict"
  | _ => Option.none
def TyY (g : Gs) (H : Hp) (v : V) (t : Value) : Prop := TyX g.K H v t ∨ (∃ a xs, v = .ref a ∧ H a = some (dctO g a xs) ∧ t = .type "dict") ∨ ∃ (a : Addr) (k x : Int), v = .ref a ∧ H a = some (.dK [(.inl k, .int x)]) ∧ t = .type "dict"
def rIsY (g : Gs) : List V → Hp → VK → Prop := fun xs H Q => ∃ (x c : V) (t u : Value) (b : Bool), xs = [x, c] ∧ ClsV c u ∧ TyY g H x t ∧ PySem.W.kitOne g.K t u = some b ∧ Q (.bl b) H
theorem call_isY (hK : X.K = g.K) : CallR X (.builtin "isinstance") (rIsY g) := by
  intro pins s σ H xs us Q I r h
  obtain ⟨x, c, t, u, b, rfl, k, ty, e, q⟩ := h
  rcases ty with ty | ⟨a, ys, rfl, ha, rfl⟩ | ⟨a, kk, kx, rfl, ha, rfl⟩
  · exact call_isi pins s σ H _ us Q I r ⟨x, c, t, u, b, rfl, k, hK ▸ ty, hK ▸ e, q⟩
  · obtain ⟨u1, u2, rfl, r1, r2⟩ := vals2 r
    have e2 := k.eq r2
    subst e2
    cases (show u1 = Value.ref a from r1)
    obtain ⟨⟨_, _, _, _, _, _, o, es, ep, h1, h2, _⟩, _, _⟩ := (show ObjOk X.prog X.w H s.heap a (dctO g a ys) from I.hok a _ ha)
    exact PySem.W.kia_one PySem.W.kitx_dict I.kIn ⟨o, h1, h2.1⟩ (hK ▸ e) (fun z => nomatch z) fun tk => ⟨.bl b, H, I.tok tk, rfl, q⟩
  · obtain ⟨u1, u2, rfl, r1, r2⟩ := vals2 r
    have e2 := k.eq r2
    subst e2
    cases (show u1 = Value.ref a from r1)
    obtain ⟨_, _, vs, _, o, es, ep, h1, h2, _⟩ := dk_of I.hok ha
    exact PySem.W.kia_one PySem.W.kitx_dict I.kIn ⟨o, h1, h2.1⟩ (hK ▸ e) (fun z => nomatch z) fun tk => ⟨.bl b, H, I.tok tk, rfl, q⟩
theorem tyX_of (s : S0 g H0 w σI B σ H) {d : D} {v : V} {n : String} (r : RepO g w σI σ d v) (h : tyN d = some n) : TyY g H v (.type n) := by
  by_cases hd : ∃ ks ds, d = .dct ks ds
  · obtain ⟨ks, ds, rfl⟩ := hd
    cases h
    obtain ⟨a, xs, rfl, ha, _⟩ := r.dct s
    exact .inr (.inl ⟨a, xs, rfl, ha, rfl⟩)
  by_cases hk : ∃ k x, d = .kd k x
  · obtain ⟨k, x, rfl⟩ := hk
    cases h
    have z := r.of s (by simp) (by simp) (by simp)
    simp only [Rep] at z
    obtain ⟨a, rfl, ha⟩ := z
    exact .inr (.inr ⟨a, k, x, rfl, s.rb.sub _ _ ha, rfl⟩)
  refine .inl ?_
  cases d <;> simp only [tyN, Option.some.injEq, reduceCtorEq] at h <;> subst h
  · rw [r.none s]; exact .base .non
  · rw [r.bool s]; exact .base (.bl _)
  · rw [r.int s]; exact .base (.int _)
  · rw [r.str s]; exact .base (.str _)
  · obtain ⟨a, vs, rfl, q, _⟩ := r.tup s
    rcases q with (q | ⟨o, q⟩) | ⟨o, its, n, q, q2, _⟩
    · exact .base (.tup q)
    · exact .fTuple q
    · exact .kTuple q q2
  · obtain ⟨a, vs, rfl, q, _⟩ := r.lst s
    exact .base (.lst q)
  · obtain ⟨a, vs, rfl, q, _⟩ := r.scr s
    rcases q with (q | ⟨o, q⟩) | ⟨o, its, n, q, q2, _⟩
    · exact .base (.lst q)
    · exact .base (.frz q)
    · exact .kList q q2
  · exact absurd ⟨_, _, rfl⟩ hd
  · exact absurd ⟨_, _, rfl⟩ hk
theorem tyX_ins (ok : Ok g X) (s : S0 g H0 w σI B σ H) {ds : List D} {v : V} (r : RepO g w σI σ (.inst c ds) v) : g.has c = true ∧ TyY g H v (.ref (g.cl c)) := by
  obtain ⟨a, dx, vs, rfl, ha, hl, hh, r⟩ := r.inst s
  have C := ok.fx.cls _ hh
  exact ⟨hh, .inl (.base (.ins ha C.cls C.ha ok.fx.hn ok.fx.htk C.hm))⟩
theorem kit_tab : ∀ T : Bt, ∀ n ∈ ["NoneType", "int", "bool", "str", "list", "tuple", "dict"], kitB n T.nm = some (n == T.nm || (n == "bool" && T == .int)) := by
  intro T
  cases T <;> decide +kernel
theorem tyN_mem {d : D} {n : String} (h : tyN d = some n) : n ∈ ["NoneType", "int", "bool", "str", "list", "tuple", "dict"] := by
  cases d <;> simp only [tyN, Option.some.injEq, reduceCtorEq] at h <;> subst h <;> decide
theorem isB_ty (T : Bt) {d : D} {n : String} (h : tyN d = some n) : isB T d = some (n == T.nm || (n == "bool" && T == .int)) := by
  cases d <;> simp only [tyN, Option.some.injEq, reduceCtorEq] at h <;> subst h <;> cases T <;> rfl
theorem isB_kit (ok : Ok g X) (T : Bt) (s : S0 g H0 w σI B σ H) {d : D} {v : V} {r : Bool} (hr : RepO g w σI σ d v) (h : isB T d = some r) : ∃ t, TyY g H v t ∧ PySem.W.kitOne g.K t (.type T.nm) = some r := by
  cases q : tyN d with
  | some n =>
    refine ⟨_, tyX_of s hr q, ?_⟩
    rw [isB_ty T q] at h
    cases h
    exact kit_ty (kit_tab T n (tyN_mem q))
  | none =>
    cases d <;> simp only [tyN, reduceCtorEq] at q
    · cases T <;> simp [isB] at h
    · obtain ⟨hh, ty⟩ := tyX_ins ok s hr
      refine ⟨_, ty, ?_⟩
      have : r = false := by cases T <;> simp [isB] at h <;> first | exact h | exact h.symm
      subst this
      exact (ok.fx.cls _ hh).isB T
    · cases T <;> simp [isB] at h
    · cases T <;> simp [isB] at h
    · cases T <;> simp [isB] at h
    · cases T <;> simp [isB] at h
def mIsB (T : Bt) (m : Ev) : Ev := m1 (fun d B => match isB T d with
  | some r => .ok (.bool r) B
  | Option.none => .bad) m
theorem boot_bt (T : Bt) : bootBuiltins (Str.ofString T.nm) = some (.type T.nm) := by cases T <;> decide +kernel
theorem nm_mem (T : Bt) : T.nm ∈ ["len", "range", "isinstance", "tuple", "list", "all", "any", "max", "min", "set", "sorted", "enumerate", "zip", "repr", "str", "int", "sum", "dict", "bool"] := by cases T <;> decide
theorem s_isB (ok : Ok g X) (T : Bt) {tn : Str} (ht : tn = Str.ofString T.nm) (he : Snd g E H0 X b1 e m) (hg : Gl X "isinstance" := by rfl) (hg2 : Gl X tn := by rfl) (hd : (tn == ("__debug__" : Str)) = false := by decide) (hn : tn ≠ "__name__" := by decide)
    (h1 : starEach [e, .Name tn p2] X.env = (false, eval e X.env) :: starEach [.Name tn p2] X.env := by rfl) (h2 : starEach [.Name tn p2] X.env = (false, eval (.Name tn p2) X.env) :: starEach [] X.env := by rfl) (hpl : (backTo pos (starEach [.Name tn p2] X.env)).any (·.1) = false := by rfl) :
    Snd g E H0 X false (.Call (.Name "isinstance" p1) [e, .Name tn p2] [] pos) (mIsB T m) := by
  subst ht
  refine weak (pe_callB (call_isY (g := g) ok.K) hg (nbs ok) PyProof.Rows.boot_isinstance (pa_cons he (pa_cons (pe_bltn (v := .ty T.nm) hg2 (by rw [ok.mg]; exact ok.fx.nb _ (nm_mem T)) (boot_bt T) rfl hn hd) pa_nil h2) h1) (by decide) (by decide) h1 hpl) ?_
  rintro σ H Q ⟨w, σI, B, s, p⟩
  refine tI_bind s p fun d B1 w1 v H1 x1 s1 r1 p1 => ?_
  split at p1
  · rename_i r hr
    obtain ⟨t, ty, kt⟩ := isB_kit ok T s1 r1.up hr
    exact ⟨v, _, t, _, r, rfl, .ty _, ty, kt, p1.nowR s1 (rep_bool g w1 _)⟩
  · exact p1.elim
def isC (c : Nat) : D → Option Bool
  | .inst c' _ => some (subC c' c)
  | .prs _ => Option.none
  | .box _ => Option.none
  | .cls _ => Option.none
  | .ptr _ => Option.none
  | .fnT _ => Option.none
  | _ => some false
def mIsC (c : Nat) (m : Ev) : Ev := m1 (fun d B => match isC c d with
  | some r => .ok (.bool r) B
  | Option.none => .bad) m
/-- a class of the module by its name -/
structure ClsN (g : Gs) (c : Nat) (x : Str) : Prop where
  has : g.has c = true
  mg : g.mg x = some (.ref (g.cl c))
theorem s_isC (ok : Ok g X) (N : ClsN g c x) (he : Snd g E H0 X b1 e m) (hg : Gl X "isinstance" := by rfl) (hg2 : Gl X x := by rfl) (hd : (x == ("__debug__" : Str)) = false := by decide)
    (h1 : starEach [e, .Name x p2] X.env = (false, eval e X.env) :: starEach [.Name x p2] X.env := by rfl) (h2 : starEach [.Name x p2] X.env = (false, eval (.Name x p2) X.env) :: starEach [] X.env := by rfl) (hpl : (backTo pos (starEach [.Name x p2] X.env)).any (·.1) = false := by rfl) :
    Snd g E H0 X false (.Call (.Name "isinstance" p1) [e, .Name x p2] [] pos) (mIsC c m) := by
  refine weak (pe_callB (call_isY (g := g) ok.K) hg (nbs ok) PyProof.Rows.boot_isinstance (pa_cons he (pa_cons (pe_glob (v := .ref (g.cl c)) hg2 (by rw [ok.mg]; exact N.mg) rfl hd) pa_nil h2) h1) (by decide) (by decide) h1 hpl) ?_
  rintro σ H Q ⟨w, σI, B, s, p⟩
  refine tI_bind s p fun d B1 w1 v H1 x1 s1 r1 p1 => ?_
  split at p1
  · rename_i r hr
    have key : ∃ t, TyY g H1 v t ∧ PySem.W.kitOne g.K t (.ref (g.cl c)) = some r := by
      cases q : tyN d with
      | some n =>
        have e : r = false := by cases d <;> simp [isC, tyN] at hr q <;> first | exact hr | exact hr.symm
        subst e
        exact ⟨_, tyX_of s1 r1.up q, (ok.fx.cls _ N.has).isO n (tyN_mem q)⟩
      | none =>
        cases d <;> simp only [tyN, reduceCtorEq] at q
        · simp [isC] at hr
        · obtain ⟨hh, ty⟩ := tyX_ins ok s1 r1.up
          simp only [isC, Option.some.injEq] at hr
          subst hr
          exact ⟨_, ty, ok.fx.sub _ _ hh N.has⟩
        · simp [isC] at hr
        · simp [isC] at hr
        · simp [isC] at hr
        · simp [isC] at hr
    obtain ⟨t, ty, kt⟩ := key
    exact ⟨v, _, t, _, r, rfl, .own _, ty, kt, p1.nowR s1 (rep_bool g w1 _)⟩
  · exact p1.elim
/-! ### methods and properties of instances -/
/-- a method of a class; what is handed in is self and the rest -/
def Mth (g : Gs) (k c : Nat) (n : Str) (dfl : List D) (f : Fn) : Prop := ∃ (fa : Addr) (fd : FuncData) (ps : List Str) (dvs : List V) (ds : List Value), FnOk g.prog g.w g.K g.mg g.base (L2N.CX g.prog g.w) k fa fd ps (spF g f) ∧ Meth g.K (g.cl c) n fa ∧ Binds g.K fd ps ds ∧ Vals dvs ds ∧ (∀ w, Reps g w dfl dvs) ∧ n ∉ fldN c ∧ g.has c = true
def Prp (g : Gs) (k c : Nat) (n : Str) (f : Fn) : Prop := ∃ (pa fa : Addr) (fd : FuncData) (ps : List Str), FnOk g.prog g.w g.K g.mg g.base (L2N.CX g.prog g.w) k fa fd ps (spF g f) ∧ PropOf g.K (g.cl c) n pa fa ∧ Binds g.K fd ps [] ∧ g.has c = true
def prpK (c : Nat) (f : Fn) : D → Bs → Rs D
  | .inst c' ds, B1 => if c' = c then noX (f [.inst c' ds] B1) else .bad
  | _, _ => .bad
theorem prpK_or (c : Nat) (f : Fn) (d : D) (B : Bs) : prpK c f d B = .bad ∨ ∃ ds, d = .inst c ds ∧ prpK c f d B = noX (f [.inst c ds] B) := by
  cases d <;> first | exact .inl rfl | skip
  rename_i c' ds
  by_cases e : c' = c
  · subst e; exact .inr ⟨ds, rfl, if_pos rfl⟩
  · exact .inl (if_neg e)
def mPrp (c : Nat) (f : Fn) (m : Ev) : Ev := fun σ B => (m σ B).bind (prpK c f)
theorem noX_go (s : S0 g H0 w σI B σ H) : ∀ {r : Rs D}, PostE g E w H σI σ false Q (noX r) → PostC g E0 w H Q r
  | .ok _ _, h => h
  | .exc _ _ _, h => h.elim
  | .bad, h => h
theorem pass_nox {P : Program} {w : World} {X : Cx} : Passes (L2N.CX P w) X E0 := fun _ _ _ _ _ _ _ h => by
  obtain ⟨_, _, _, _, _, _, _, _, _, _, _, _, z⟩ := h
  exact z.elim
theorem s_prp (ok : OkC g E lv X) {n : Str} (D : Prp g k c n f) (hk : k + 1 ≤ lv) (he : Snd g E H0 X false e m) (hab : attributeBase e n X.env (eval e X.env) = eval e X.env := by rfl) : Snd g E H0 X false (.Attribute e n pos) (mPrp c f m) := by
  obtain ⟨pa, fa, fd, ps, F, hp, b, hc⟩ := D
  have C := ok.fx.cls _ hc
  obtain ⟨prog, w', K, mg, base, A, N, s_0, H_0, env, outer, stack, ex, fn, calm, pn, xe⟩ := X
  obtain ⟨⟨h1, h2, h3, h4, h5, h6, h7, hfx⟩, h8, h9⟩ := ok
  simp only at h1 h2 h5 h6 h7
  subst h1 h2 h5 h6 h7
  refine weak (pe_prop he C.cls hp F (h8.mono hk) b .nil (E := E0) pass_nox hab) ?_
  rintro σ H Q ⟨w, σI, B, s, p⟩
  refine tI_bind s p fun d B1 w1 v H1 x1 s1 r1 p1 => ?_
  rcases prpK_or c f d B1 with e | ⟨ds, rfl, e⟩
  · rw [e] at p1; exact p1.elim
  · rw [e] at p1
    obtain ⟨a, dx, vs, e1, ha, hl, hh, rr⟩ := (RepB.up r1).inst s1
    subst e1
    exact ⟨a, dx, _, rfl, ha, w1, _, B1, s1.rb, Reps.one r1, noX_go s1 p1⟩
def mMth (c : Nat) (f : Fn) (dfl : List D) (m : Ev) (ms : Evs) : Ev := fun σ B => (m σ B).bind fun d B1 => match d with
  | .inst c' ds => if c' = c then (ms σ B1).bind fun es B2 => f (.inst c' ds :: (es ++ dfl)) B2 else .bad
  | _ => .bad
end
end Hf

set_option Elab.async false
set_option linter.all false
set_option maxRecDepth 100000
set_option maxHeartbeats 8000000
namespace Hf
open PySem PySem.Spec PyProof.Rows L2
theorem sub_tuple_set : isSubtype (.type "tuple") (.type "set") = pure false := by
  rw [isSubtype_type]; kernel_rfl
theorem sub_tuple_frozenset : isSubtype (.type "tuple") (.type "frozenset") = pure false := by
  rw [isSubtype_type]; kernel_rfl
abbrev newSet (w : World) : Obj := { cls := .type "set", dict := none, data := .set #[] 0 (.fresh 0 0 (!w.params.followText "set-order")) }
theorem heap_none {h : Heap} {b : Addr} (hb : h.objs.size ≤ b) : h.get? b = Option.none := by
  cases q : h.get? b with
  | none => rfl
  | some o => exact (Nat.lt_irrefl _ (Nat.lt_of_lt_of_le (Heap.lt_size q) hb)).elim
section
variable {P : Program} {w : World} {A : Around} {E : Value → Shared → Prop} {s : Shared}
/-- set(x), x a list or a tuple: what its loop leaves, by whatever invariant the loop's lemma has -/
theorem set_of {Fin : Heap → Prop} {l : Addr} {T : String} {odict : Option Addr} {odata : Data} {oslots : Array (Option Value)} {ito : Obj} {Q : Value → Shared → Prop}
    (hol : s.heap.get? l = some { cls := .type T, dict := odict, data := odata, slots := oslots }) (sl1 : isSubtype (.type T) (.type "set") = pure false) (sl2 : isSubtype (.type T) (.type "frozenset") = pure false) (hne : (Value.type T == Value.type "dict") = false)
    (iter : ∀ (A' : Around) (E' : Value → Shared → Prop) (s1 : Shared) (Q' : Value → Shared → Prop), s1.heap.get? l = some { cls := .type T, dict := odict, data := odata, slots := oslots } → Q' (.ref s1.heap.objs.size) { s1 with heap := s1.heap.push ito } → wpAny (model P w) A' (pyIter (.ref l)) Q' E' s1)
    (loop : ∀ (R : Result → Shared → Prop), (∀ (h' : Heap) (tk : Nat), Fin h' → (∀ b o, s.heap.get? b = some o → h'.get? b = some o) → R (.ok (.ret .none)) { s with heap := h', toks := tk }) →
      codeAny (model P w) A.in1.in1 (.builtin "set.update.loop" ⟨[.ref s.heap.objs.size, .ref (s.heap.push (newSet w)).objs.size], []⟩) R { s with heap := (s.heap.push (newSet w)).push ito })
    (h : ∀ (h' : Heap) (tk : Nat), Fin h' → (∀ b o, s.heap.get? b = some o → h'.get? b = some o) → Q (.ref s.heap.objs.size) { s with heap := h', toks := tk }) :
    wpAny (model P w) A (call (.type "set") [.ref l]) Q E s := by
  obtain ⟨mc, mt, hmro⟩ := F.called_set.mro
  have hmade := F.called_set.made
  have hsub := F.called_set.sub
  refine wpAny_call (codeAny_of_tree ?_)
  show wpAny _ _ (callAny (.type "set") _) _ _ _
  refine wpAny_pure ⟨Code.quiet_builtin _ (by decide +kernel), ?_⟩
  refine codeAny_builtin F.entry_type_call ?_
  rw [Around.under_plain (weight_type_call_type "set" [Value.ref l] []) rfl]
  have nt := F.called_set.notType
  have cc := F.called_set.canCreate
  have ct1 := F.typeCall_set_1 (Value.ref l)
  repeat (any_goals (first | assumption | wp_step))
  let W1 : Value → Shared → Prop := fun obj s₁ => obj = .ref s.heap.objs.size ∧ s₁ = { s with heap := s.heap.push (newSet w) }
  refine codeAny_mono (code_set_led1 (Value.ref l) (E := E) (Q₁ := W1) ⟨rfl, rfl⟩) fun r s₁ hr => ?_
  cases r with
  | error e => exact hr
  | ok fl =>
    cases fl with
    | ret obj =>
      obtain ⟨rfl, rfl⟩ := hr
      have hS : (s.heap.push (newSet w)).get? s.heap.objs.size = some (newSet w) := Heap.get?_push_size _ rfl
      have hT : Shared.TypeIs { s with heap := s.heap.push (newSet w) } (.ref s.heap.objs.size) "set" := ⟨_, hS, rfl⟩
      have li := F.called_set.init.lookup
      have bi := F.called_set.init.bind (.ref s.heap.objs.size)
      repeat (any_goals (first | assumption | wp_step))
      let W2 : Value → Shared → Prop := fun r s₂ => r = .none ∧ ∃ h' tk, s₂ = { s with heap := h', toks := tk } ∧ Fin h' ∧ ∀ b o, s.heap.get? b = some o → h'.get? b = some o
      refine codeAny_mono (codeAny_call_builtin (R := wants W2 E) F.called_set.init.plain F.entry_set_init (check_set_init_1 hT ?_)) fun r₂ s₂ hr₂ => ?_
      · have hol' : (s.heap.push (newSet w)).get? l = some { cls := .type T, dict := odict, data := odata, slots := oslots } := Heap.get?_push_of_some _ hol
        unfold Builtin.«set.__init__» noKeywords Builtin.Frozenset.updateFrom
        generalize hPI : pyIter = PI
        wp_walk
        subst hPI
        refine iter _ _ _ _ hol' ?_
        refine wpAny_bind (wpAny_runValue ?_)
        refine loop _ fun h' tk' hF hkp => ?_
        refine wpAny_pure ?_
        show wpAny _ _ (ret Value.none) _ _ _
        exact wpAny_pure ⟨rfl, h', tk', rfl, hF, hkp⟩
      · cases r₂ with
        | error e => exact hr₂
        | ok fl₂ =>
          cases fl₂ with
          | ret r =>
            obtain ⟨rfl, h', tk, rfl, hF, hk'⟩ := hr₂
            repeat (any_goals (first | assumption | wp_step))
            exact h _ _ hF hk'
          | next => exact hr₂.elim
          | brk => exact hr₂.elim
          | cont => exact hr₂.elim
    | next => exact hr.elim
    | brk => exact hr.elim
    | cont => exact hr.elim
end
end Hf

set_option Elab.async false
set_option linter.all false
set_option maxRecDepth 100000
set_option maxHeartbeats 4000000
namespace Hf
open PySem PySem.Spec PyProof.Rows L2
/-! ### how many different ones -/
def dd {α : Type} [DecidableEq α] : List α → List α
  | [] => []
  | x :: xs => if x ∈ xs then dd xs else x :: dd xs
theorem mem_dd {α : Type} [DecidableEq α] {a : α} : ∀ {l : List α}, a ∈ dd l ↔ a ∈ l
  | [] => by simp [dd]
  | x :: xs => by
    unfold dd
    split
    · rename_i h
      rw [mem_dd, List.mem_cons]
      constructor
      · exact .inr
      · rintro (rfl | h')
        · exact h
        · exact h'
    · rw [List.mem_cons, List.mem_cons, mem_dd]
theorem nodup_dd {α : Type} [DecidableEq α] : ∀ l : List α, (dd l).Nodup
  | [] => by simp [dd]
  | x :: xs => by
    unfold dd
    split
    · exact nodup_dd xs
    · rename_i h
      exact List.nodup_cons.mpr ⟨fun z => h (mem_dd.mp z), nodup_dd xs⟩
theorem dd_of_nodup {α : Type} [DecidableEq α] : ∀ {l : List α}, l.Nodup → dd l = l
  | [], _ => rfl
  | x :: xs, h => by
    unfold dd
    rw [if_neg (List.nodup_cons.mp h).1, dd_of_nodup (List.nodup_cons.mp h).2]
theorem dd_le {α : Type} [DecidableEq α] : ∀ l : List α, (dd l).length ≤ l.length
  | [] => Nat.le_refl _
  | x :: xs => by
    unfold dd
    split
    · exact Nat.le_succ_of_le (dd_le xs)
    · exact Nat.succ_le_succ (dd_le xs)
theorem nodup_of_dd {α : Type} [DecidableEq α] : ∀ {l : List α}, (dd l).length = l.length → l.Nodup
  | [], _ => List.nodup_nil
  | x :: xs, h => by
    unfold dd at h
    split at h
    · have := dd_le xs
      simp only [List.length_cons] at h
      omega
    · rename_i hx
      exact List.nodup_cons.mpr ⟨hx, nodup_of_dd (by simpa using h)⟩
theorem nodup_sub_le {α : Type} [DecidableEq α] : ∀ {l m : List α}, l.Nodup → (∀ a ∈ l, a ∈ m) → l.length ≤ m.length
  | [], _, _, _ => Nat.zero_le _
  | x :: xs, m, h, s => by
    have h1 := nodup_sub_le (l := xs) (m := m.erase x) (List.nodup_cons.mp h).2 fun a ha => by
      have ne : a ≠ x := fun e => (List.nodup_cons.mp h).1 (e ▸ ha)
      exact (List.mem_erase_of_ne ne).mpr (s a (List.mem_cons_of_mem _ ha))
    have hx := s x List.mem_cons_self
    rw [List.length_erase_of_mem hx] at h1
    have := List.length_pos_of_mem hx
    simp only [List.length_cons]
    omega
theorem nodup_len {α : Type} [DecidableEq α] {l m : List α} (h : l.Nodup) (h' : m.Nodup) (e : ∀ a, a ∈ l ↔ a ∈ m) : l.length = m.length :=
  Nat.le_antisymm (nodup_sub_le h fun a ha => (e a).mp ha) (nodup_sub_le h' fun a ha => (e a).mpr ha)

/-! ### len(set(t)), t a tuple of tuples of whole numbers -/
def intA : D → Option Int
  | .int i => some i
  | _ => Option.none
def intsA : List D → Option (List Int)
  | [] => some []
  | d :: ds => match intA d, intsA ds with
    | some k, some ks => some (k :: ks)
    | _, _ => Option.none
def tupA : D → Option (List Int)
  | .tup ds => intsA ds
  | _ => Option.none
def tupsA : List D → Option (List (List Int))
  | [] => some []
  | d :: ds => match tupA d, tupsA ds with
    | some k, some ks => some (k :: ks)
    | _, _ => Option.none
theorem intsA_map {ds : List D} {ns : List Int} (h : intsA ds = some ns) : ds = ns.map D.int := by
  induction ds generalizing ns with
  | nil => cases h; rfl
  | cons d ds ih =>
    unfold intsA at h
    split at h
    · rename_i k ks e1 e2
      cases h
      rw [ih e2]
      cases d <;> simp [intA] at e1
      subst e1; rfl
    · cases h
theorem Reps.ints {g : Gs} {w : Wd} : ∀ {ns : List Int} {vs : List V}, Reps g w (ns.map D.int) vs → vs = ns.map V.int
  | [], vs, h => by simpa only [List.map_nil, Reps] using h
  | n :: ns, vs, h => by
    simp only [List.map_cons, Reps, Rep] at h
    obtain ⟨v, us, rfl, rfl, r⟩ := h
    rw [Reps.ints r]; rfl
theorem reps_ints (g : Gs) (w : Wd) : ∀ ns : List Int, Reps g w (ns.map D.int) (ns.map V.int)
  | [] => by simp only [List.map_nil, Reps]
  | n :: ns => by
    simp only [List.map_cons, Reps, Rep]
    exact ⟨_, _, rfl, rfl, reps_ints g w ns⟩
/-- tuples of whole numbers with their addresses -/
theorem Reps.tups {g : Gs} {w : Wd} : ∀ {ds : List D} {vs : List V} {ks : List (List Int)}, Reps g w ds vs → tupsA ds = some ks → ∃ ps : List (Addr × List Int), vs = ps.map (fun p => V.ref p.1) ∧ ks = ps.map (·.2) ∧ ∀ p ∈ ps, SqT g.K w.P p.1 (p.2.map V.int)
  | [], vs, ks, h, e => by
    simp only [Reps] at h
    cases e
    exact ⟨[], h, rfl, by simp⟩
  | d :: ds, vs, ks, h, e => by
    simp only [Reps] at h
    obtain ⟨v, us, rfl, r, rs⟩ := h
    unfold tupsA at e
    split at e
    · rename_i k ks' e1 e2
      cases e
      obtain ⟨ps, h1, h2, h3⟩ := Reps.tups rs e2
      cases d <;> simp [tupA] at e1
      rw [intsA_map e1] at r
      simp only [Rep] at r
      obtain ⟨a, vs, rfl, q, rr⟩ := r
      have ev := rr.ints
      refine ⟨(a, k) :: ps, by simp [h1], by simp [h2], fun p hp => ?_⟩
      rcases List.mem_cons.mp hp with rfl | hp
      · exact ev ▸ q.T
      · exact h3 p hp
    · cases e
def fLenSet : D → Bs → Rs D
  | .tup ds, B => match tupsA ds with
    | some ks => if ks.length < 64 then .ok (.int (dd ks).length) B else .bad
    | Option.none => .bad
  | _, _ => .bad
section
variable {g : Gs} {E : XK} {H0 : Hp} {X : Cx} {e : Expr} {m : Ev} {b1 : Bool} {p p2 q pos : Pos}
def tLS (K : PySem.W.Frag) (ta : TE) : TE := fun σ H Q => ta σ H fun x H1 => ∃ (l : Addr) (ps : List (Addr × List Int)), x = V.ref l ∧ SqT K H1 l (ps.map fun p => V.ref p.1) ∧ (∀ p ∈ ps, SqT K H1 p.1 (p.2.map V.int)) ∧ ps.length < 64 ∧ Q (.int (dd (ps.map (·.2))).length) H1
theorem pe_ls {ta : TE} (hu : X.A.units + 64 < cLine) (hc : X.calm = true) (hg : Gl X "len") (hm : X.mg "len" = none) (hg2 : Gl X "set") (hm2 : X.mg "set" = none) (ha : PE X e ta) (na : starEach [e] X.env = (false, eval e X.env) :: starEach [] X.env) :
    PE X (.Call (.Name "len" p) [.Call (.Name "set" p2) [e] [] q] [] pos) (tLS X.K ta) := by
  refine ⟨fun pins s σ H Q I h => ?_⟩
  refine Call_ (ld_blt I hg hm PySem.boot_len (PyProof.Rows.callWith_builtin1 (PyProof.Rows.args_cons ?_ rfl) rfl rfl))
  refine Call_ (ld_blt I hg2 hm2 PyProof.Rows.boot_set (PyProof.Rows.callWith_type1 (PyProof.Rows.args_cons (thn (ha.run pins s σ H _ I h) fun v s1 ⟨x, H1, I1, r1, q1⟩ => PyProof.Rows.args_nil ?_) na) na rfl))
  obtain ⟨l, ps, rfl, hq, hk, hf, q1⟩ := q1
  cases r1
  obtain ⟨its, rv, ⟨⟨cls, od, data, sl⟩, ho, hcl, n, hd⟩, hz⟩ := I1.tuple hq
  simp only at hcl hd
  subst hcl hd
  have hit : its = ps.map fun p => Value.ref p.1 := refs_of_vals rv
  have hh : X.A.handled = Option.none := I1.ok.hd hc
  have hlS : l < s1.heap.objs.size := Heap.lt_size ho
  have hz1 : (s1.heap.push (newSet X.w)).objs.size = s1.heap.objs.size + 1 := Heap.size_push ..
  have hS : (s1.heap.push (newSet X.w)).get? s1.heap.objs.size = some (newSet X.w) := Heap.get?_push_size _ rfl
  have hsz : its.toArray.size = ps.length := by rw [List.size_toArray, hit, List.length_map]
  refine set_of (P := X.prog) (w := X.w) (Fin := fun h => ∃ L es ep t, SetTR X.prog X.w h s1.heap.objs.size L es ep t ∧ Got ps ps.length L) ho sub_tuple_set sub_tuple_frozenset (by decide) (fun A' E' s2 Q' h1 h2 => wpAny_pyIter_tuple ⟨_, h1, rfl, _, rfl⟩ h2) (fun R hR => ?_) fun h' tk ⟨L, es, ep, t, hT, gt⟩ hk' => ?_
  · have Wk := (Walks.tuple (prog := X.prog) (w := X.w) (A := X.A.in1.in1.in1) (by simp [hh]) (s1.heap.push (newSet X.w)).objs.size l (Nat.ne_of_lt (by rw [hz1]; exact Nat.lt_succ_of_lt hlS)) its.toArray).toS
    refine set_update_tups Wk s1.heap.objs.size ?_ ps hsz hf (fun i v hv => ?_) s1.heap (fun p hp => I1.isT (hk p hp)) (heap_none (Nat.le_refl _)) (fun b hb => ?_) (by show X.A.units + 1 + 1 + 1 < cLine; omega) (its.toArray.size - 0) 0 _ (by omega) (Nat.zero_le _)
      ⟨⟨_, Heap.get?_push_size _ rfl, rfl, rfl⟩, ⟨_, Heap.get?_push_of_some _ (Heap.get?_push_of_some _ ho), rfl, _, rfl⟩⟩ (fun b o e => Heap.get?_push_of_some _ (Heap.get?_push_of_some _ e)) ⟨[], #[], 0, _, setTR_fresh (Heap.get?_push_of_some _ hS), Got.zero ps⟩ ?_
    · simp only [List.mem_cons, List.not_mem_nil, or_false, not_or]
      exact ⟨Nat.ne_of_lt (by rw [hz1]; exact Nat.lt_succ_self _), Nat.ne_of_gt hlS⟩
    · have q : its[i]? = some v := by simpa using hv
      rw [hit, List.getElem?_map] at q
      obtain ⟨p, e1, e2⟩ := Option.map_eq_some_iff.mp q
      exact ⟨p, e1, e2.symm⟩
    · rw [List.mem_singleton.mp hb]
      exact heap_none (by rw [hz1]; exact Nat.le_succ _)
    · rintro ⟨h', g2, d', tk', os'⟩ L es ep t hm' hT gt hkp
      have eg : g2 = s1.gens := hm'.gens
      have ed : d' = s1.drawn := hm'.drawn
      have eo : os' = s1.os := hm'.os
      subst eg ed eo
      rw [hsz] at gt
      exact hR h' tk' ⟨L, es, ep, t, hT, gt⟩ hkp
  · obtain ⟨o, ho', hex, hd'⟩ := hT.ob
    have I2 : Inv X pins σ H1 { s1 with heap := h', toks := tk } := I1.kept fun b o e => hk' b o e
    have hlen : es.size = (dd (ps.map (·.2))).length := by
      rw [SetTR.size (s := { s1 with heap := h', toks := tk }) hT, ← List.length_map (f := (·.2)) (as := L)]
      refine nodup_len hT.nd (nodup_dd _) fun k => ?_
      rw [mem_dd]
      constructor
      · intro hk2
        obtain ⟨p, hp, rfl⟩ := List.mem_map.mp hk2
        exact List.mem_map_of_mem (List.mem_of_mem_take (gt.sub p hp))
      · intro hk2
        obtain ⟨p, hp, rfl⟩ := List.mem_map.mp hk2
        exact gt.all p (by rw [List.take_length]; exact hp)
    have hle : es.size ≤ 64 := by rw [SetTR.size (s := { s1 with heap := h', toks := tk }) hT]; have := hT.few; omega
    refine PyProof.Rows.args_nil (call_len_set (s := { s1 with heap := h', toks := tk }) ho' hex hd' (SetTR.fits (s := { s1 with heap := h', toks := tk }) hT) (by omega) ⟨.int _, H1, I2.tok _, ⟨_, by rw [hlen]⟩, q1⟩)
theorem s_lenSet (ok : Ok g X) (ha : Snd g E H0 X b1 e m) (hg : Gl X "len" := by rfl) (hg2 : Gl X "set" := by rfl) (na : starEach [e] X.env = (false, eval e X.env) :: starEach [] X.env := by rfl) :
    Snd g E H0 X false (.Call (.Name "len" p) [.Call (.Name "set" p2) [e] [] q] [] pos) (m1 fLenSet m) := by
  refine weak (pe_ls (by have := ok.un; omega) ok.calm hg (nbs ok) hg2 (nbs ok) ha na) ?_
  rintro σ H Q ⟨w, σI, B, s, p⟩
  refine tI_bind s p fun d B1 w1 v H1 x1 s1 r1 p1 => ?_
  unfold fLenSet at p1
  split at p1
  · rename_i ds
    split at p1
    · rename_i ks hks
      split at p1
      · rename_i hl
        obtain ⟨a, vs, rfl, q1, r⟩ := r1.up.tup s1
        obtain ⟨ps, rfl, rfl, h3⟩ := Reps.tups r hks
        exact ⟨a, ps, rfl, ok.K ▸ q1, fun p hp => ok.K ▸ sqT_mono s1.rb.sub (h3 p hp), by simpa using hl, p1.nowR s1 (rep_int g w1 _)⟩
      · exact p1.elim
    · exact p1.elim
  · exact p1.elim
end
end Hf

set_option Elab.async false
set_option linter.all false
set_option maxRecDepth 100000
set_option maxHeartbeats 4000000
namespace Hf
open PySem PySem.Spec PyProof.Rows L2

/-! ### a < b < c as a test -/
section
variable {g : Gs} {E : XK} {H0 : Hp} {X : Cx} {a b c : Expr} {ma mb mc : Ev} {pos : Pos} {b1 b2 b3 bo : Bool} {op op' : CmpOp} {f f' : D → D → Bs → Rs D}
theorem chainT_at (P : Cmp g E H0 X op f) {w : Wd} {H : Hp} {σI : Sl} {σ : L2.St} {B : Bs} {Q : Bool → Hp → Prop} {x y : D} {k : Bool → Bs → Rs Bool} (p : PostT g E w H Q ((toB (f x y B)).bind k)) :
    PostE g E w H σI σ false (fun z H' => ∃ b w' B', z = .bl b ∧ Ext w H w' H' ∧ RB g w' B' H' ∧ PostT g E w' H' Q (k b B')) (f x y B) := by
  rcases P.bl x y B with e | ⟨b, B', e⟩
  · rw [e] at p; exact p.elim
  · rw [e] at p ⊢
    intro w' v H' x rb r
    simp only [RepB, Rep] at r
    exact ⟨b, w', B', r, x, rb, PostT.ext x p⟩
theorem t_chain (P : Cmp g E H0 X op f) (P' : Cmp g E H0 X op' f') (ha : Snd g E H0 X b1 a ma) (hb : Snd g E H0 X b2 b mb) (hc : Snd g E H0 X b3 c mc) (hm : lastMarks [op, op'] [b, c] = false := by with_unfolding_all rfl) :
    SndT g E H0 X (.Compare a [op, op'] [b, c] pos) (mChainT f f' ma mb mc) := by
  obtain ⟨r, h1, h2⟩ := id P.ex
  obtain ⟨r', h1', h2'⟩ := id P'.ex
  refine weakT (pt_chain h1 h1' ha hb hc hm) ?_
  rintro σ H Q ⟨w, σI, B, s, p⟩
  refine tI_bindT s p fun d B1 w1 v H1 x1 s1 r1 p1 => ?_
  refine tI_bindT s1 p1 fun d2 B2 w2 v2 H2 x2 s2 r2 p2 => ?_
  refine h2 w2 σI B2 σ H2 _ v v2 d d2 s2 (r1.up.mono x2.le) r2.up ?_
  have p3 := chainT_at (σI := σI) (σ := σ) P p2
  revert p3
  generalize hm : f d d2 B2 = m
  intro p3
  cases m with
  | bad => exact p3
  | exc _ _ _ => exact p3
  | ok e B3 =>
    intro w' v' H' x rb rr
    obtain ⟨k, w3, B4, rfl, x3, rb3, p4⟩ := p3 w' v' H' x rb rr
    refine ⟨k, rfl, ?_⟩
    have s3 := s2.step x3 rb3
    cases k with
    | false => exact ⟨false, rfl, p4 w3 H' (Ext.refl _ _) rb3⟩
    | true =>
      refine tI_bindT s3 p4 fun d5 B5 w5 v5 H5 x5 s5 r5 p5 => ?_
      exact h2' w5 σI B5 σ H5 _ v2 v5 d2 d5 s5 (r2.up.mono (x3.le.trans x5.le)) r5.up (cmp_end P' p5)
end

/-! ### all, any, sum, max, min of a list -/
def boolA : D → Option Bool
  | .bool i => some i
  | _ => Option.none
def boolsA : List D → Option (List Bool)
  | [] => some []
  | d :: ds => match boolA d, boolsA ds with
    | some k, some ks => some (k :: ks)
    | _, _ => Option.none
theorem boolsA_map {ds : List D} {ns : List Bool} (h : boolsA ds = some ns) : ds = ns.map D.bool := by
  induction ds generalizing ns with
  | nil => cases h; rfl
  | cons d ds ih =>
    unfold boolsA at h
    split at h
    · rename_i k ks e1 e2
      cases h
      rw [ih e2]
      cases d <;> simp [boolA] at e1
      subst e1; rfl
    · cases h
theorem boolsA_of (ns : List Bool) : boolsA (ns.map D.bool) = some ns := by
  induction ns with
  | nil => rfl
  | cons n ns ih => simp [boolsA, boolA, ih]
theorem intsA_of (ns : List Int) : intsA (ns.map D.int) = some ns := by
  induction ns with
  | nil => rfl
  | cons n ns ih => simp [intsA, intA, ih]
theorem Reps.bools {g : Gs} {w : Wd} : ∀ {ns : List Bool} {vs : List V}, Reps g w (ns.map D.bool) vs → vs = ns.map V.bl
  | [], vs, h => by simpa only [List.map_nil, Reps] using h
  | n :: ns, vs, h => by
    simp only [List.map_cons, Reps, Rep] at h
    obtain ⟨v, us, rfl, rfl, r⟩ := h
    rw [Reps.bools r]; rfl
def strA : D → Option Str
  | .str i => some i
  | _ => Option.none
def strsA : List D → Option (List Str)
  | [] => some []
  | d :: ds => match strA d, strsA ds with
    | some k, some ks => some (k :: ks)
    | _, _ => Option.none
theorem strsA_map {ds : List D} {ns : List Str} (h : strsA ds = some ns) : ds = ns.map D.str := by
  induction ds generalizing ns with
  | nil => cases h; rfl
  | cons d ds ih =>
    unfold strsA at h
    split at h
    · rename_i k ks e1 e2
      cases h
      rw [ih e2]
      cases d <;> simp [strA] at e1
      subst e1; rfl
    · cases h
theorem strsA_of (ns : List Str) : strsA (ns.map D.str) = some ns := by
  induction ns with
  | nil => rfl
  | cons n ns ih => simp [strsA, strA, ih]
theorem Reps.strs {g : Gs} {w : Wd} : ∀ {ns : List Str} {vs : List V}, Reps g w (ns.map D.str) vs → vs = ns.map V.str
  | [], vs, h => by simpa only [List.map_nil, Reps] using h
  | n :: ns, vs, h => by
    simp only [List.map_cons, Reps, Rep] at h
    obtain ⟨v, us, rfl, rfl, r⟩ := h
    rw [Reps.strs r]; rfl
theorem reps_strs (g : Gs) (w : Wd) : ∀ ns : List Str, Reps g w (ns.map D.str) (ns.map V.str)
  | [] => by simp only [List.map_nil, Reps]
  | n :: ns => by
    simp only [List.map_cons, Reps, Rep]
    exact ⟨_, _, rfl, rfl, reps_strs g w ns⟩
def fAll : D → Bs → Rs D
  | .lst ds, B => match boolsA ds with
    | some bs => .ok (.bool (bs.all id)) B
    | Option.none => .bad
  | _, _ => .bad
def fAny : D → Bs → Rs D
  | .lst ds, B => match boolsA ds with
    | some bs => .ok (.bool (bs.any id)) B
    | Option.none => .bad
  | _, _ => .bad
def fSum : D → Bs → Rs D
  | .lst ds, B => match intsA ds with
    | some bs => .ok (.int bs.sum) B
    | Option.none => .bad
  | _, _ => .bad
def maxL : List Int → Int
  | [] => 0
  | [x] => x
  | x :: y :: r => if x ≤ maxL (y :: r) then maxL (y :: r) else x
def minL : List Int → Int
  | [] => 0
  | [x] => x
  | x :: y :: r => if minL (y :: r) ≤ x then minL (y :: r) else x
theorem maxL_ge : ∀ {l : List Int} {y : Int}, y ∈ l → y ≤ maxL l
  | [x], y, h => by simp at h; subst h; exact Int.le_refl _
  | x :: z :: r, y, h => by
    unfold maxL
    rcases List.mem_cons.mp h with rfl | h
    · split
      · assumption
      · exact Int.le_refl _
    · have := maxL_ge h
      split <;> omega
theorem minL_le : ∀ {l : List Int} {y : Int}, y ∈ l → minL l ≤ y
  | [x], y, h => by simp at h; subst h; exact Int.le_refl _
  | x :: z :: r, y, h => by
    unfold minL
    rcases List.mem_cons.mp h with rfl | h
    · split
      · assumption
      · exact Int.le_refl _
    · have := minL_le h
      split <;> omega
theorem maxL_mem : ∀ {l : List Int}, l ≠ [] → maxL l ∈ l
  | [x], _ => by simp [maxL]
  | x :: y :: r, _ => by
    unfold maxL
    split
    · exact List.mem_cons_of_mem _ (maxL_mem (by simp))
    · exact List.mem_cons_self
theorem minL_mem : ∀ {l : List Int}, l ≠ [] → minL l ∈ l
  | [x], _ => by simp [minL]
  | x :: y :: r, _ => by
    unfold minL
    split
    · exact List.mem_cons_of_mem _ (minL_mem (by simp))
    · exact List.mem_cons_self
def fMax1 : D → Bs → Rs D
  | .lst ds, B => match intsA ds with
    | some (b :: bs) => .ok (.int (maxL (b :: bs))) B
    | _ => .bad
  | _, _ => .bad
def fMin1 : D → Bs → Rs D
  | .lst ds, B => match intsA ds with
    | some (b :: bs) => .ok (.int (minL (b :: bs))) B
    | _ => .bad
  | _, _ => .bad
section
variable {g : Gs} {E : XK} {H0 : Hp} {X : Cx}
theorem o_all (c : Ok g X) : One g E H0 X (.builtin "all") fAll := ⟨_, cr_all c.calm, fun w σI B σ H Q x d s r p => by
  unfold fAll at p
  split at p
  · split at p
    · rename_i bs hb
      rw [boolsA_map hb] at r
      obtain ⟨a, vs, rfl, q, r⟩ := r.lst s
      rw [r.bools] at q
      exact ⟨a, bs, rfl, .inl (.inl q), p.nowR s (rep_bool g w _)⟩
    · exact p.elim
  · exact p.elim⟩
theorem o_any (c : Ok g X) : One g E H0 X (.builtin "any") fAny := ⟨_, cr_any c.calm, fun w σI B σ H Q x d s r p => by
  unfold fAny at p
  split at p
  · split at p
    · rename_i bs hb
      rw [boolsA_map hb] at r
      obtain ⟨a, vs, rfl, q, r⟩ := r.lst s
      rw [r.bools] at q
      exact ⟨a, bs, rfl, .inl (.inl q), p.nowR s (rep_bool g w _)⟩
    · exact p.elim
  · exact p.elim⟩
theorem o_sum (c : Ok g X) : One g E H0 X (.builtin "sum") fSum := ⟨_, cr_sum c.calm, fun w σI B σ H Q x d s r p => by
  unfold fSum at p
  split at p
  · split at p
    · rename_i bs hb
      rw [intsA_map hb] at r
      obtain ⟨a, vs, rfl, q, r⟩ := r.lst s
      rw [r.ints] at q
      exact ⟨a, bs, rfl, .inl (.inl q), p.nowR s (rep_int g w _)⟩
    · exact p.elim
  · exact p.elim⟩
theorem o_max1 (c : Ok g X) : One g E H0 X (.builtin "max") fMax1 := ⟨_, cr_max c.calm, fun w σI B σ H Q x d s r p => by
  unfold fMax1 at p
  split at p
  · split at p
    · rename_i b bs hb
      rw [intsA_map hb] at r
      obtain ⟨a, vs, rfl, q, r⟩ := r.lst s
      rw [r.ints] at q
      refine ⟨a, b :: bs, rfl, .inl (.inl q), by simp, fun m h1 h2 => ?_⟩
      have e : m = maxL (b :: bs) := Int.le_antisymm (maxL_ge h1) (h2 _ (maxL_mem (by simp)))
      rw [e]
      exact p.nowR s (rep_int g w _)
    · exact p.elim
  · exact p.elim⟩
theorem o_min1 (c : Ok g X) : One g E H0 X (.builtin "min") fMin1 := ⟨_, cr_min c.calm, fun w σI B σ H Q x d s r p => by
  unfold fMin1 at p
  split at p
  · split at p
    · rename_i b bs hb
      rw [intsA_map hb] at r
      obtain ⟨a, vs, rfl, q, r⟩ := r.lst s
      rw [r.ints] at q
      refine ⟨a, b :: bs, rfl, .inl (.inl q), by simp, fun m h1 h2 => ?_⟩
      have e : m = minL (b :: bs) := Int.le_antisymm (h2 _ (minL_mem (by simp))) (minL_le h1)
      rw [e]
      exact p.nowR s (rep_int g w _)
    · exact p.elim
  · exact p.elim⟩
end

/-! ### sorted(a list or a tuple of whole numbers) -/
def ins (x : Int) : List Int → List Int
  | [] => [x]
  | y :: r => if x ≤ y then x :: y :: r else y :: ins x r
def srt : List Int → List Int
  | [] => []
  | x :: r => ins x (srt r)
theorem ins_perm (x : Int) : ∀ l : List Int, (ins x l).Perm (x :: l)
  | [] => .refl _
  | y :: r => by
    unfold ins
    split
    · exact .refl _
    · exact ((ins_perm x r).cons y).trans (.swap ..)
theorem srt_perm : ∀ l : List Int, (srt l).Perm l
  | [] => .refl _
  | x :: r => (ins_perm x (srt r)).trans ((srt_perm r).cons x)
theorem ins_sorted (x : Int) : ∀ {l : List Int}, l.Pairwise (· ≤ ·) → (ins x l).Pairwise (· ≤ ·)
  | [], _ => List.pairwise_singleton _ _
  | y :: r, h => by
    unfold ins
    obtain ⟨h1, h2⟩ := List.pairwise_cons.mp h
    split
    · rename_i hx
      exact List.pairwise_cons.mpr ⟨fun z hz => by
        rcases List.mem_cons.mp hz with rfl | hz
        · exact hx
        · exact Int.le_trans hx (h1 z hz), h⟩
    · rename_i hx
      refine List.pairwise_cons.mpr ⟨fun z hz => ?_, ins_sorted x h2⟩
      rcases List.mem_cons.mp ((ins_perm x r).mem_iff.mp hz) with rfl | hz
      · omega
      · exact h1 z hz
theorem srt_sorted : ∀ l : List Int, (srt l).Pairwise (· ≤ ·)
  | [] => List.Pairwise.nil
  | x :: r => ins_sorted x (srt_sorted r)
theorem sorted_uniq : ∀ {l m : List Int}, l.Perm m → l.Pairwise (· ≤ ·) → m.Pairwise (· ≤ ·) → l = m
  | [], m, h, _, _ => (List.Perm.nil_eq h)
  | x :: l, [], h, _, _ => by simpa using h.length_eq
  | x :: l, y :: m, h, h1, h2 => by
    obtain ⟨a1, a2⟩ := List.pairwise_cons.mp h1
    obtain ⟨b1, b2⟩ := List.pairwise_cons.mp h2
    have e : x = y := by
      have i1 : y ∈ x :: l := h.mem_iff.mpr List.mem_cons_self
      have i2 : x ∈ y :: m := h.mem_iff.mp List.mem_cons_self
      rcases List.mem_cons.mp i1 with e | i1
      · exact e.symm
      · rcases List.mem_cons.mp i2 with e | i2
        · exact e
        · exact Int.le_antisymm (a1 y i1) (b1 x i2)
    subst e
    rw [sorted_uniq (h.cons_inv) a2 b2]
theorem srt_uniq {l m : List Int} (h : l.Perm m) (s : l.Pairwise (· ≤ ·)) : l = srt m := sorted_uniq (h.trans (srt_perm m).symm) s (srt_sorted m)
section
variable {prog : Program} {w : World} {A : Around} {E : Value → Shared → Prop} {s : Shared}
theorem sorted_any {it : Addr} {T : String} {o : Obj} {vs : List Value} {n : Nat} {ltv : Value → Value → Bool} {Q : Value → Shared → Prop} (O : SrtO.Swo ltv) (hT : T = "list" ∨ T = "tuple") (ho : s.heap.get? it = some o) (hc : o.cls = .type T) (hd : o.data = .seq vs.toArray n)
    (hz : vs.length ≤ sizeLine) (hS : 2 ≤ vs.length → ∀ (h₁ : Heap) (a : Addr), h₁.get? a = some (seqObj "list" vs.toArray 0) → (∀ b o, s.heap.get? b = some o → b ≠ a ∧ h₁.get? b = some o) → SrtO.SortableO prog w A.in1.in1 { s with heap := h₁ } a vs ltv)
    (h : ∀ (out : List Value) (h1 h' : Heap), SrtO.Srtd ltv out → SrtO.Stb ltv out vs → (∀ b o, s.heap.get? b = some o → h1.get? b = some o) → (∀ b o, h1.get? b = some o → h'.get? b = some o) → (∃ ep, h'.get? h1.objs.size = some (seqObj "list" out.toArray ep)) → Q (.ref h1.objs.size) { s with heap := h' }) :
    wpAny (model prog w) A (call (.builtin "sorted") [.ref it]) Q E s := by
  refine Calls.call_function_entry kind_sorted plain_sorted entry_sorted (args_sorted1 _) ?_
  unfold Builtin.«sorted»
  refine wpAny_bind (m := checkCount "sorted" 1 1 _) (wpAny_pure ?_)
  refine wpAny_bind (wpAny_collect_seq it hT ho hc hd (fun h1 hk => ?_) (by simpa using hz))
  rw [show vs.toArray.toList = vs by simp]
  refine wpAny_bind (wpAny_newList ?_ hz)
  have keep : ∀ b o, s.heap.get? b = some o → b ≠ h1.objs.size ∧ (h1.push (seqObj "list" vs.toArray 0)).get? b = some o := fun b o q =>
    ⟨Nat.ne_of_lt (Heap.lt_size (hk b o q)), Heap.get?_push_of_some _ (hk b o q)⟩
  have hoL : (h1.push (seqObj "list" vs.toArray 0)).get? h1.objs.size = some (seqObj "list" vs.toArray 0) := Heap.get?_push_size _ rfl
  refine wpAny_bind (wpAny_holding (wpAny_call_entry slot_list_sort ⟨_, hoL, rfl⟩ entry_list_sort (SrtO.list_sort_ord O hoL hz (fun h2 => hS h2 _ _ hoL keep) fun out hs hb => ⟨_, rfl, ?_⟩) (args_list_sort _)))
  obtain ⟨ep, he⟩ := PyProof.Rows.sortedHeap_at (vs := vs) (out := out.toArray) hoL
  have old : ∀ b o, h1.get? b = some o → (PyProof.Rows.sortedHeap (h1.push (seqObj "list" vs.toArray 0)) h1.objs.size vs out.toArray).get? b = some o := fun b o q => by
    have q2 := Heap.get?_push_of_some (seqObj "list" vs.toArray 0) q
    rw [PyProof.Rows.sortedHeap_old (Nat.ne_of_lt (Heap.lt_size q)) (Heap.lt_size q2)]; exact q2
  exact wpAny_pure ⟨_, rfl, h out h1 _ hs hb hk old ⟨ep, he⟩⟩
end
section
variable {g : Gs} {E : XK} {H0 : Hp} {X : Cx}
def rSrt (K : PySem.W.Frag) : List V → Hp → VK → Prop := fun vs H Q => ∃ (a : Addr) (ns : List Int), vs = [V.ref a] ∧ (SqL K H a (ns.map V.int) ∨ SqT K H a (ns.map V.int)) ∧ ∀ p, H p = none → Q (.ref p) (upd H p (.lst ((srt ns).map V.int)))
theorem cr_srt : CallR X (.builtin "sorted") (rSrt X.K) := by
  intro pins s σ H vs us Q I r h
  obtain ⟨a, ns, rfl, hs, q⟩ := h
  rw [Vals.ref1 r]
  have key : ∃ (T : String) (o : Obj) (its : List Value) (n : Nat), (T = "list" ∨ T = "tuple") ∧ s.heap.get? a = some o ∧ o.cls = .type T ∧ o.data = .seq its.toArray n ∧ Vals (ns.map V.int) its ∧ (ns.map V.int).length ≤ sizeLine := by
    rcases hs with hs | hs
    · obtain ⟨its, rv, p, hz⟩ := I.list hs
      obtain ⟨o, ho, hc, n, hd⟩ := p.isList
      exact ⟨"list", o, its, n, .inl rfl, ho, hc, hd, rv, hz⟩
    · obtain ⟨its, rv, ⟨o, ho, hc, n, hd⟩, hz⟩ := I.tuple hs
      exact ⟨"tuple", o, its, n, .inr rfl, ho, hc, hd, rv, hz⟩
  obtain ⟨T, o, its, n, hT, ho, hc, hd, rv, hz⟩ := key
  have hi := rv.ints
  refine sorted_any SrtO.swo_int hT ho hc hd (by rw [← rv.length]; exact hz) (fun h2 h₁ a' _ _ => SrtO.ints_sortable hi h2) fun out h1 h' k1 k2 keep old he => ?_
  obtain ⟨j1, j2, j3⟩ := SrtO.ints_out hi k1 k2
  obtain ⟨ep, he⟩ := he
  have I1 : Inv X pins σ H { s with heap := h1 } := I.kept (t' := s.toks) keep
  have e : out.map SrtO.iv = srt ns := srt_uniq j2 j3
  have hlen : ((srt ns).map V.int).length ≤ sizeLine := by
    rw [List.length_map, (srt_perm ns).length_eq]
    rw [List.length_map] at hz
    exact hz
  exact ⟨.ref _, upd H h1.objs.size (.lst ((srt ns).map V.int)), I1.laid (t' := s.toks) old (Nat.le_refl _) ⟨hlen, out, ep, by rw [← e]; exact vals_of_ints j1, he⟩, rfl, q _ (I1.hok.fresh (Nat.le_refl _))⟩
def fSrt : D → Bs → Rs D
  | .lst ds, B => match intsA ds with
    | some ns => .ok (.lst ((srt ns).map D.int)) B
    | Option.none => .bad
  | .tup ds, B => match intsA ds with
    | some ns => .ok (.lst ((srt ns).map D.int)) B
    | Option.none => .bad
  | _, _ => .bad
theorem o_sorted (c : Ok g X) : OneF g E H0 X (.builtin "sorted") fSrt := ⟨_, cr_srt, fun w σI B σ H Q x d s r p => by
  unfold fSrt at p
  split at p
  · split at p
    · rename_i ns hn
      rw [intsA_map hn] at r
      obtain ⟨a, vs, rfl, q, r⟩ := r.lst s
      rw [r.ints] at q
      exact ⟨a, ns, rfl, .inl (.inl (.inl q)), fun l hl => p.newL s (reps_ints g w _) hl⟩
    · exact p.elim
  · split at p
    · rename_i ns hn
      rw [intsA_map hn] at r
      obtain ⟨a, vs, rfl, q, r⟩ := r.tup s
      rw [r.ints] at q
      exact ⟨a, ns, rfl, .inr (c.K ▸ q), fun l hl => p.newL s (reps_ints g w _) hl⟩
    · exact p.elim
  · exact p.elim⟩
end
end Hf

set_option Elab.async false
set_option linter.all false
set_option maxRecDepth 100000
set_option maxHeartbeats 4000000
namespace Hf
open PySem PySem.Spec PyProof.Rows L2 HT

/-! ### texts: join, split, a constant tuple's index -/
def strsOf : D → Option (List Str)
  | .lst ds => strsA ds
  | .tup ds => strsA ds
  | _ => Option.none
def fJoin : D → D → Bs → Rs D
  | .str a, d, B => match strsOf d with
    | some ys => if (ys.map (·.length)).sum + ys.length * a.length ≤ 16777216 then .ok (.str (Txt.join a ys)) B else .bad
    | Option.none => .bad
  | _, _, _ => .bad
def fSplit : D → D → Bs → Rs D
  | .str a, .str b, B => if (b.length == 0) = false ∧ a.length + 2 ≤ sizeLine then .ok (.lst ((Txt.split a b).map D.str)) B else .bad
  | _, _, _ => .bad
def isS (d : D) (B : Bs) : Rs D := match d with
  | .str _ => .ok d B
  | _ => .bad
def mMeth (f : D → D → Bs → Rs D) (mo me : Ev) : Ev := fun σ B => (mo σ B).bind fun o B1 => (isS o B1).bind fun o B2 => (me σ B2).bind fun d B3 => f o d B3
def ixS (z : Str) : List Str → Option Nat
  | [] => Option.none
  | y :: r => if y = z then some 0 else (ixS z r).map (· + 1)
theorem ixS_some {z : Str} : ∀ {l : List Str} {j : Nat}, ixS z l = some j → l[j]? = some z ∧ ∀ m, m < j → l[m]? ≠ some z
  | y :: r, j, h => by
    unfold ixS at h
    split at h
    · rename_i e
      cases h
      exact ⟨by simp [e], fun m hm => absurd hm (Nat.not_lt_zero _)⟩
    · rename_i e
      obtain ⟨i, h1, rfl⟩ := Option.map_eq_some_iff.mp h
      obtain ⟨a, b⟩ := ixS_some h1
      refine ⟨by simpa using a, fun m hm => ?_⟩
      cases m with
      | zero => simpa using e
      | succ m => simpa using b m (by omega)
def fIxS (ys : List Str) : D → Bs → Rs D
  | .str z, B => match ixS z ys with
    | some j => .ok (.int (j : Nat)) B
    | Option.none => .bad
  | _, _ => .bad
/-- a constant tuple of texts of the module -/
def GlobT (g : Gs) (x : Str) (ys : List Str) : Prop := ∃ a, g.mg x = some (.ref a) ∧ (∃ o, g.K.lookup a = some o ∧ o.cls = .type "tuple" ∧ o.dict = none) ∧ ∀ w, Rep g w (.tup (ys.map D.str)) (.ref a)
section
variable {g : Gs} {E : XK} {w0 w : Wd} {H0 H : Hp} {X : Cx} {o e a b : Expr} {mo me m ma mb : Ev} {pos p p1 p2 p3 apos cpos : Pos} {x : Str} {σI : Sl} {σ : L2.St} {B : Bs} {Q : VK} {b1 b2 bo : Bool}
theorem isS_go {d : D} {f : D → Bs → Rs D} (s : S0 g H0 w σI B σ H) {v : V} (r : RepO g w σI σ d v) (p : PostE g E w H σI σ bo Q ((isS d B).bind f)) : ∃ z, d = .str z ∧ v = .str z ∧ PostE g E w H σI σ bo Q (f (.str z) B) := by
  cases d <;> first | exact p.elim | skip
  exact ⟨_, rfl, r.str s, p⟩
theorem s_join (ok : Ok g X) (ho : Snd g E H0 X b1 o mo) (he : Snd g E H0 X b2 e me) (hs : starEach [e] X.env = [(false, eval e X.env)] := by rfl) (hbase : attributeBase o "join" X.env (eval o X.env) = eval o X.env := by rfl) (hline : (apos.endLine == pos.line) = true := by rfl) :
    Snd g E H0 X false (.Call (.Attribute o "join" apos) [e] [] pos) (mMeth fJoin mo me) := by
  refine weak (pe_join ho he hs hbase hline) ?_
  rintro σ H Q ⟨w, σI, B, s, p⟩
  refine tI_bind s p fun d B1 w1 v H1 x1 s1 r1 p1 => ?_
  obtain ⟨z, rfl, rfl, p1⟩ := isS_go s1 r1.up p1
  refine ⟨⟨z, rfl⟩, tI_bind s1 p1 fun d2 B2 w2 v2 H2 x2 s2 r2 p2 => ?_⟩
  unfold fJoin at p2
  simp only at p2
  split at p2
  · rename_i ys hy
    split at p2
    · rename_i hz
      cases d2 <;> simp only [strsOf, reduceCtorEq] at hy
      · have r2 := r2.up
        rw [strsA_map hy] at r2
        obtain ⟨a, vs, rfl, q, r⟩ := r2.tup s2
        rw [r.strs] at q
        exact ⟨z, a, ys, rfl, rfl, .inr (ok.K ▸ q), hz, p2.nowR s2 (rep_str g w2 _)⟩
      · have r2 := r2.up
        rw [strsA_map hy] at r2
        obtain ⟨a, vs, rfl, q, r⟩ := r2.lst s2
        rw [r.strs] at q
        exact ⟨z, a, ys, rfl, rfl, .inl (.inl (.inl q)), hz, p2.nowR s2 (rep_str g w2 _)⟩
    · exact p2.elim
  · exact p2.elim
theorem f_split (ho : Snd g E H0 X b1 o mo) (he : Snd g E H0 X b2 e me) (hs : starEach [e] X.env = [(false, eval e X.env)] := by rfl) (hbase : attributeBase o "split" X.env (eval o X.env) = eval o X.env := by rfl) (hline : (apos.endLine == pos.line) = true := by rfl) :
    Snd g E H0 X false (.Call (.Attribute o "split" apos) [e] [] pos) (mMeth fSplit mo me) := by
  refine weak (pe_split ho he hs hbase hline) ?_
  rintro σ H Q ⟨w, σI, B, s, p⟩
  refine tI_bind s p fun d B1 w1 v H1 x1 s1 r1 p1 => ?_
  obtain ⟨z, rfl, rfl, p1⟩ := isS_go s1 r1.up p1
  refine ⟨⟨z, rfl⟩, tI_bind s1 p1 fun d2 B2 w2 v2 H2 x2 s2 r2 p2 => ?_⟩
  unfold fSplit at p2
  split at p2
  · rename_i z' y e1
    cases e1
    split at p2
    · rename_i hz
      exact ⟨z, y, rfl, by rw [r2.up.str s2], hz.1, hz.2, fun l hl => p2.newL s2 (reps_strs g w2 _) hl⟩
    · exact p2.elim
  · exact p2.elim
theorem s_gIx {ys : List Str} (ok : Ok g X) (G : GlobT g x ys) (he : Snd g E H0 X b1 e me) (hg : Gl X x := by rfl) (hd : (x == ("__debug__" : Str)) = false := by decide)
    (hbase : attributeBase (.Name x p1) "index" X.env (eval (.Name x p1) X.env) = eval (.Name x p1) X.env := by rfl)
    (hfew : ((backTo cpos (starEach [e] X.env)).all (fun x => !x.1) && (backToKw cpos (keywordEach [] X.env)).all (fun x => x.1.isSome) && decide ([e].length + ([] : List Keyword).length + (if ([] : List Keyword).isEmpty then 0 else 1) < 30)) = true := by rfl)
    (hline : (apos.endLine == cpos.line) = true := by rfl) (hs : starEach [e] X.env = (false, eval e X.env) :: starEach [] X.env := by rfl) (hpl : (backTo cpos (starEach [] X.env)).any (·.1) = false := by rfl) :
    Snd g E H0 X false (.Call (.Attribute (.Name x p1) "index" apos) [e] [] cpos) (m1 (fIxS ys) me) := by
  obtain ⟨a, hm, ⟨ob, hk, hc, hdd⟩, hr⟩ := G
  refine weak (pe_bm PySem.F.plainAttrs_tuple PySem.F.slot_tuple_index PySem.F.type_tuple_index mt_tup_index (pe_glob (v := .ref a) hg (by rw [ok.mg]; exact hm) rfl hd) (pa_cons he pa_nil hs) hbase hfew hline hs hpl) ?_
  rintro σ H Q ⟨w, σI, B, s, p⟩
  refine ⟨.inr (.inl ⟨rfl, ob, by rw [ok.K]; exact hk, hc, hdd⟩), tI_bind s p fun d B1 w1 v H1 x1 s1 r1 p1 => ?_⟩
  unfold fIxS at p1
  split at p1
  · rename_i z
    split at p1
    · rename_i j hj
      obtain ⟨h1, h2⟩ := ixS_some hj
      have r2 := hr w1
      simp only [Rep] at r2
      obtain ⟨a', vs, e1, q, r⟩ := r2
      cases e1
      rw [r.strs] at q
      exact ⟨a, ys, z, j, rfl, by rw [r1.up.str s1], ok.K ▸ sqT_mono s1.rb.sub q.T, h1, h2, p1.nowR s1 (rep_int g w1 _)⟩
    · exact p1.elim
  · exact p1.elim

/-! ### list(range(..)), tuple(range(..)) -/
theorem reps_rg (g : Gs) (w : Wd) (a : Int) (n : Nat) : Reps g w (rngD a n) ((List.range n).map fun i => V.int (a + (i : Nat))) := by
  have e1 : rngD a n = ((List.range n).map fun i => a + ((i : Nat) : Int)).map D.int := by simp [rngD]
  have e2 : ((List.range n).map fun i => V.int (a + (i : Nat))) = ((List.range n).map fun i => a + ((i : Nat) : Int)).map V.int := by simp
  rw [e1, e2]
  exact reps_ints g w _
def rgOk (a b : Int) : Bool := decide (-(2 ^ 62) ≤ a) && decide (a < 2 ^ 62) && decide (-(2 ^ 62) ≤ b) && decide (b < 2 ^ 62) && decide ((b - a).toNat ≤ 2 ^ 24)
theorem rgOk_ok {a b : Int} (h : rgOk a b = true) : RgOk a b := by
  unfold rgOk at h
  simp only [Bool.and_eq_true, decide_eq_true_eq] at h
  exact ⟨h.1.1.1.1, h.1.1.1.2, h.1.1.2, h.1.2, h.2⟩
def fRg1 (k : List D → D) : D → Bs → Rs D
  | .int b, B => if rgOk 0 b then .ok (k (rngD 0 (b - 0).toNat)) B else .bad
  | _, _ => .bad
def fRg2 (k : List D → D) : D → D → Bs → Rs D
  | .int a, .int b, B => if rgOk a b then .ok (k (rngD a (b - a).toNat)) B else .bad
  | _, _, _ => .bad
theorem f_lstRg1 (ok : Ok g X) (ha : Snd g E H0 X b1 a ma) (hg : Gl X "list" := by rfl) (hg2 : Gl X "range" := by rfl) (na : starEach [a] X.env = (false, eval a X.env) :: starEach [] X.env := by rfl)
    (nb : starEach [.Call (.Name "range" p2) [a] [] p3] X.env = (false, eval (.Call (.Name "range" p2) [a] [] p3) X.env) :: starEach [] X.env := by rfl) :
    SndF g E H0 X (.Call (.Name "list" p) [.Call (.Name "range" p2) [a] [] p3] [] pos) (m1 (fRg1 D.lst) ma) := by
  refine weak (pe_listRg ok.calm hg (nbs ok) (prg_1 hg2 (nbs ok) ha na) nb) ?_
  rintro σ H Q ⟨w, σI, B, s, p⟩
  refine tI_bindF s p fun d B1 w1 v H1 x1 s1 r1 p1 => ?_
  unfold fRg1 at p1
  split at p1
  · split at p1
    · rename_i b hb
      exact ⟨b, r1.up.int s1, rgOk_ok hb, fun q hq => p1.newL s1 (reps_rg g w1 0 (b - 0).toNat) hq⟩
    · exact p1.elim
  · exact p1.elim
/-- tuple(range(..)) -/
def tTupRgN (te : L2.St → Hp → (Int → Int → Hp → Prop) → Prop) : TE := fun σ H Q => te σ H fun a b H1 => RgOk a b ∧ ∀ p (ob : Obj), H1 p = none → ob.dict = none → Q (.ref p) (upd H1 p (.frz ob (.tup (rgV a b))))
theorem pe_tupRgN {te : L2.St → Hp → (Int → Int → Hp → Prop) → Prop} (hc : X.calm = true) (hg : Gl X "tuple") (hm : X.mg "tuple" = none) (he : PRg X e te) (na : starEach [e] X.env = (false, eval e X.env) :: starEach [] X.env := by rfl) : PE X (.Call (.Name "tuple" p) [e] [] pos) (tTupRgN te) := by
  refine ⟨fun pins s σ H Q I h => ?_⟩
  refine Call_ (ld_blt I hg hm boot_tuple (PyProof.Rows.callWith_type1 (args_cons (thn (he pins s σ H _ I h) fun x s1 ⟨r, i, j, t, u, v, H1, ex, hr, I1, ok, q⟩ => args_nil ?_) na) na))
  subst ex
  obtain ⟨c1, c2, c3, c4, c5⟩ := ok
  refine call_tuple_range (n := (j - i).toNat) (I1.ok.hd hc) hr (small_one c1 c2 c3 c4) (rangeSize_nat i j) c5 fun h1 tk acc hk hi => ?_
  have I2 : Inv X pins σ H1 { s1 with heap := h1, toks := tk } := I1.kept hk
  have hz : (rgV i j).length ≤ sizeLine := by rw [rgV_length, sizeLine_eq]; omega
  exact ⟨.ref h1.objs.size, upd H1 h1.objs.size _, I2.laid (t' := tk) (o := .frz { cls := .type "tuple", data := .seq acc.toList.toArray } (.tup (rgV i j))) (fun c oc qc => Heap.get?_push_of_some _ qc) (Nat.le_refl _)
    (frz_tup hz (vals_rg hi) (by rw [Array.toArray_toList]; exact Heap.get?_push_size _ rfl)), rfl, q _ _ (I2.hok.fresh (Nat.le_refl _)) rfl⟩
theorem s_tupRg1 (ok : Ok g X) (ha : Snd g E H0 X b1 a ma) (hg : Gl X "tuple" := by rfl) (hg2 : Gl X "range" := by rfl) (na : starEach [a] X.env = (false, eval a X.env) :: starEach [] X.env := by rfl)
    (nb : starEach [.Call (.Name "range" p2) [a] [] p3] X.env = (false, eval (.Call (.Name "range" p2) [a] [] p3) X.env) :: starEach [] X.env := by rfl) :
    Snd g E H0 X false (.Call (.Name "tuple" p) [.Call (.Name "range" p2) [a] [] p3] [] pos) (m1 (fRg1 D.tup) ma) := by
  refine weak (pe_tupRgN ok.calm hg (nbs ok) (prg_1 hg2 (nbs ok) ha na) nb) ?_
  rintro σ H Q ⟨w, σI, B, s, p⟩
  refine tI_bind s p fun d B1 w1 v H1 x1 s1 r1 p1 => ?_
  unfold fRg1 at p1
  split at p1
  · split at p1
    · rename_i b hb
      exact ⟨b, r1.up.int s1, rgOk_ok hb, fun q ob hq ho => p1.newT s1 (reps_rg g w1 0 (b - 0).toNat) hq ho⟩
    · exact p1.elim
  · exact p1.elim
end

/-! ### xs[::-1], t[:0:-1] -/
theorem pick_back (l : List Value) : ∀ k, k ≤ l.length → (List.range k).filterMap (fun m => l[l.length - 1 - m]?) = (l.drop (l.length - k)).reverse
  | 0, _ => by simp
  | k + 1, h => by
    rw [List.range_succ, List.filterMap_append, pick_back l k (by omega)]
    have hlt : l.length - (k + 1) < l.length := by omega
    have e : l.length - (k + 1) = l.length - 1 - k := by omega
    rw [List.drop_eq_getElem_cons hlt, List.reverse_cons]
    have e2 : l.length - (k + 1) + 1 = l.length - k := by omega
    rw [e2]
    congr 1
    simp only [List.filterMap_cons, List.filterMap_nil]
    rw [← e, List.getElem?_eq_getElem hlt]
theorem fm_congr {α β : Type} {f h : α → Option β} : ∀ {l : List α}, (∀ a ∈ l, f a = h a) → l.filterMap f = l.filterMap h
  | [], _ => rfl
  | a :: l, e => by
    rw [List.filterMap_cons, List.filterMap_cons, e a List.mem_cons_self, fm_congr fun b hb => e b (List.mem_cons_of_mem _ hb)]
/-- how many of the first are left out -/
def bk : Option Int → Nat
  | Option.none => 0
  | some _ => 1
section
variable {prog : Program} {w : World} {A : Around} {E : Value → Shared → Prop} {s : Shared}
theorem adjust_back {hi : Option Int} (n : Nat) (h : hi = none ∨ hi = some 0) : ∃ j, Builtin.Slice.sliceAdjust none hi (-1) (n : Int) = ((n : Int) - 1, j) ∧ Builtin.Slice.slicePlaces ((n : Int) - 1) j (-1) = n - bk hi := by
  rcases h with rfl | rfl
  · refine ⟨-1, rfl, ?_⟩
    show (if (n : Int) - 1 > -1 then ((n : Int) - 1 - -1 - 1) / (- -1) + 1 else 0).toNat = n - 0
    rw [show (- -1 : Int) = 1 by decide, Int.ediv_one]
    split <;> omega
  · refine ⟨min 0 ((n : Int) - 1), rfl, ?_⟩
    show (if (n : Int) - 1 > min 0 ((n : Int) - 1) then ((n : Int) - 1 - min 0 ((n : Int) - 1) - 1) / (- -1) + 1 else 0).toNat = n - 1
    rw [show (- -1 : Int) = 1 by decide, Int.ediv_one]
    split <;> omega
theorem sliceApplied_back {sl : Addr} {vl vu vs : Value} {hi : Option Int} {n : Nat} {Q : Int × Int × Nat → Shared → Prop} (hs : s.heap.IsSliceOf sl vl vu vs) (pl : IsPart vl none) (pu : IsPart vu hi) (ps : IsPart vs (some (-1))) (hh : hi = none ∨ hi = some 0)
    (h : Q ((n : Int) - 1, -1, n - bk hi) s) : wpAny (model prog w) A (Builtin.Slice.sliceApplied (.ref sl) (pure (n : Int))) Q E s := by
  obtain ⟨os, hos, hcs, hds⟩ := id hs
  obtain ⟨j, e1, e2⟩ := adjust_back n hh
  unfold Builtin.Slice.sliceApplied Builtin.Slice.sliceFields
  refine wpAny_bind (wpAny_bind (wpAny_field hos hds (x := vl) rfl (wpAny_bind (wpAny_field hos hds (x := vu) rfl (wpAny_bind (wpAny_field hos hds (x := vs) rfl (wpAny_pure ?_)))))))
  refine wpAny_bind (slicePart_ ps ?_)
  show wpAny _ _ (if ((-1 : Int) == 0) = true then _ else _) _ _ s
  rw [if_neg (by decide)]
  refine wpAny_bind (slicePart_ pl (wpAny_bind (slicePart_ pu (wpAny_bind (wpAny_pure ?_)))))
  show wpAny _ _ (match Builtin.Slice.sliceAdjust none hi (-1) (n : Int) with | (lo, hi) => pure (lo, (-1 : Int), Builtin.Slice.slicePlaces lo hi (-1))) _ _ s
  rw [e1]
  show wpAny _ _ (pure (((n : Int) - 1), (-1 : Int), Builtin.Slice.slicePlaces ((n : Int) - 1) j (-1))) _ _ s
  rw [e2]
  exact wpAny_pure h
theorem getItem_tuple_back {t sl : Addr} {items : Array Value} {vl vu vs : Value} {hi : Option Int} {Q : Value → Shared → Prop} (ht : IsTup s.heap t items) (hs : s.heap.IsSliceOf sl vl vu vs) (pl : IsPart vl none) (pu : IsPart vu hi) (ps : IsPart vs (some (-1))) (hh : hi = none ∨ hi = some 0)
    (h : Q (.ref s.heap.objs.size) { s with heap := s.heap.push { cls := .type "tuple", data := .seq (items.toList.drop (bk hi)).reverse.toArray } })
    (hsz : items.size ≤ sizeLine) : wpAny (model prog w) A (getItem (.ref t) (.ref sl)) Q E s := by
  have htake : sizeOk (.seq (items.toList.drop (bk hi)).reverse.toArray) := by
    show (items.toList.drop (bk hi)).reverse.toArray.size ≤ sizeLine
    rw [List.size_toArray, List.length_reverse, List.length_drop, Array.length_toList]
    omega
  obtain ⟨os, hos, hcs, hds⟩ := id hs
  have hTs : s.TypeIs (.ref sl) "slice" := ⟨os, hos, hcs⟩
  unfold getItem
  try with_reducible refine wpAny_holding ?_
  first | refine wpAny_bind (wpAny_pure ?_) | skip
  refine wpAny_bind (wpAny_sequenceKey ht.typeIs (by decide) ?_)
  refine wpAny_bind (wpAny_callSpecial?_slot (name := Str.ofString "__getitem__") ht.typeIs PyProof.Rows.slot_tuple_getitem
    (wpAny_call_entry PyProof.Rows.slot_tuple_getitem ht.typeIs entry_tuple_getitem ?_ (args_tuple_getitem _ _)))
  show wpAny _ _ (Builtin.Tuple.tupleItemsOf (.ref t) >>= _) _ _ s
  refine wpAny_bind (tupleItemsOf_ ht ?_)
  refine wpAny_bind (wpAny_typeOf hTs ?_)
  rw [if_pos (by decide)]
  refine wpAny_bind (sliceApplied_back hs pl pu ps hh ?_)
  have hno : ¬ (((((items.size : Nat) : Int) - 1) == 0 && (-1 : Int) == 1 && (items.size - bk hi) == items.size) = true) := by
    intro q
    rw [Bool.and_eq_true, Bool.and_eq_true] at q
    exact absurd q.1.2 (by decide)
  show wpAny _ _ (if ((((items.size : Nat) : Int) - 1) == 0 && (-1 : Int) == 1 && (items.size - bk hi) == items.size) = true then _ else _) _ _ s
  rw [if_neg hno]
  have hb : bk hi ≤ 1 := by rcases hh with rfl | rfl <;> simp [bk]
  have pk : ((List.range (items.size - bk hi)).filterMap fun (m : Nat) => items[(((items.size : Nat) : Int) - 1 + (m : Int) * -1).toNat]?).toArray = (items.toList.drop (bk hi)).reverse.toArray := by
    congr 1
    have h1 := pick_back items.toList (items.size - bk hi) (by rw [Array.length_toList]; omega)
    by_cases hz : items.size = 0
    · have e0 : items.size - bk hi = 0 := by omega
      rw [e0]
      have : items.toList = [] := List.eq_nil_of_length_eq_zero (by rw [Array.length_toList]; exact hz)
      rw [this]; simp
    · rw [Array.length_toList] at h1
      have e3 : items.size - (items.size - bk hi) = bk hi := by omega
      rw [e3] at h1
      rw [← h1]
      refine fm_congr fun m hm => ?_
      have hm' := List.mem_range.mp hm
      have e4 : (((items.size : Nat) : Int) - 1 + (m : Int) * -1).toNat = items.size - 1 - m := by omega
      rw [e4, Array.getElem?_toList]
  rw [pk]
  first
    | exact wpAny_bind (m := Builtin.Tuple.tupleExact _) (wpAny_newObj_type (wpAny_pure ⟨_, rfl, wpAny_pure h⟩) htake)
    | exact wpAny_bind (m := Builtin.Tuple.tupleExact _) (wpAny_newObj_type (wpAny_bind (wpAny_pure (wpAny_pure ⟨_, rfl, wpAny_pure h⟩))) htake)
    | exact wpAny_bind (wpAny_bind (m := Builtin.Tuple.tupleExact _) (wpAny_newObj_type (wpAny_pure (wpAny_pure ⟨_, rfl, wpAny_pure h⟩)) htake))
    | exact wpAny_bind (wpAny_bind (m := Builtin.Tuple.tupleExact _) (wpAny_newObj_type (wpAny_pure ⟨_, rfl, wpAny_pure h⟩) htake))
end
section
variable {g : Gs} {E : XK} {w0 w : Wd} {H0 H : Hp} {X : Cx} {e : Expr} {m : Ev} {pos p1 p2 p3 p4 : Pos} {B : Bs} {b1 : Bool} {hi : Option Expr} {kc : Nat}
/-- a text the other way about -/
def backS (z : Str) : Str := ⟨((Builtin.Str.strSliceIndices none none (-1) z.length).filterMap (z.cps[·]?)).toArray⟩
theorem backS_len (z : Str) : (backS z).length ≤ z.length := by
  show (List.filterMap _ _).toArray.size ≤ _
  rw [List.size_toArray]
  exact Nat.le_trans (List.length_filterMap_le _ _) (PySem.sliceIndicesBy_le _ _ _ (by decide) z.length)
theorem backS_mem {z : Str} {c : Nat} (h : c ∈ (backS z).cps.toList) : c ∈ z.cps.toList := by
  have h2 : c ∈ (Builtin.Str.strSliceIndices none none (-1) z.length).filterMap (z.cps[·]?) := by simpa [backS] using h
  obtain ⟨i, _, e⟩ := List.mem_filterMap.mp h2
  obtain ⟨hi, e⟩ := Array.getElem?_eq_some_iff.mp e
  rw [← e]
  exact Array.mem_toList_iff.mpr (Array.getElem_mem hi)
def rBk (K : PySem.W.Frag) : V → Option Int → Hp → VK → Prop := fun x o H Q => (∃ a xs, x = .ref a ∧ ((o = none ∧ SqL K H a xs ∧ ∀ p, H p = none → Q (.ref p) (upd H p (.lst xs.reverse))) ∨ ((o = none ∨ o = some 0) ∧ SqT K H a xs ∧ ∀ p (ob : Obj), H p = none → ob.dict = none → Q (.ref p) (upd H p (.frz ob (.tup (xs.drop (bk o)).reverse))))))
  ∨ (∃ z, x = .str z ∧ z.length ≤ sizeLine ∧ o = none ∧ Q (.str (backS z)) H)
def tBk (K : PySem.W.Frag) (te : TE) (th : TO) : TE := fun σ H Q => te σ H fun x H1 => th σ H1 fun o H2 => rBk K x o H2 Q
theorem pe_bk {te : TE} {th : TO} (he : PE X e te) (hh : PO X hi th) : PE X (.Subscript e (.Slice none hi (some (.UnaryOp .USub (.Constant (.int 1) kc p1) p2)) p3) pos) (tBk X.K te th) := by
  refine ⟨fun pins s σ H Q I h => ?_⟩
  refine Subscript_ (thn (he.run pins s σ H _ I h) fun v s1 ⟨x, H1, I1, r1, q1⟩ => ?_)
  have hst : PO X (some (.UnaryOp .USub (.Constant (.int 1) kc p1) p2)) (tPart (tUn (rU fun i => .int (-i)) (tC (.int 1)))) := po_some (pe_un un_neg pe_int)
  refine wpAny_Slice (thn (po_none.run pins s1 σ H1 (fun o H2 => o = none ∧ H2 = H1) I1 ⟨rfl, rfl⟩) fun vl s2 ⟨l, H2, I2, pl, el, e2⟩ => ?_)
  subst el e2
  refine thn (hh.run pins s2 σ H2 _ I2 q1) fun vu s3 ⟨u, H3, I3, pu, q3⟩ => ?_
  refine thn (hst.run pins s3 σ H3 (fun o H4 => o = some (-1) ∧ H4 = H3) I3 ⟨1, rfl, -1, rfl, rfl, rfl⟩) fun vs s4 ⟨o, H4, I4, ps, eo, e4⟩ => ?_
  subst eo e4
  have I5 : Inv X pins σ H4 { s4 with heap := s4.heap.push { cls := .type "slice", data := .fields #[vl, vu, vs] } } := I4.kept (t' := s4.toks) fun b ob q => Heap.get?_push_of_some _ q
  have I5' : Inv X pins σ H4 { s4 with heap := s4.heap.push { cls := .type "slice", data := .fields #[vl, vu, vs] } } := I4.kept (t' := s4.toks) fun b ob q => Heap.get?_push_of_some _ q
  rcases q3 with ⟨a, xs, rfl, q⟩ | ⟨z, rfl, hz, rfl, q⟩
  rotate_left
  · obtain ⟨t, rfl⟩ := r1
    obtain ⟨l, rfl, el⟩ := IsPart.raw pl
    obtain ⟨u', rfl, eu⟩ := IsPart.raw pu
    obtain ⟨k, rfl, ek⟩ := IsPart.raw ps
    have e1 : l = none := by cases l <;> simp_all
    have e2 : u' = none := by cases u' <;> simp_all
    subst e1 e2
    cases k with
    | none => cases ek
    | some k =>
      obtain ⟨k, tk⟩ := k
      have ek : k = -1 := by simpa using ek
      subst ek
      show wpAny (model X.prog X.w) X.A (subscriptTail e (.Slice none hi (some (.UnaryOp .USub (.Constant (.int 1) kc p1) p2)) p3) (.str z t) (.ref s4.heap.objs.size)) (EP X pins σ Q) X.xe { s4 with heap := s4.heap.push { cls := .type "slice", data := .fields #[.none, .none, .int (-1) tk] } }
      refine tail_any (ops := [.ref s4.heap.objs.size, .str z t]) (typeIs_str _ z t) F.slot_str_getitem.lookup ?_ (by with_unfolding_all rfl)
      refine wpAny_getItem_str_slice (l := none) (u := none) (st := some (-1, tk)) ⟨_, Heap.get?_push_size _ rfl, rfl, rfl⟩ rfl ?_
      exact ⟨Nat.le_trans (backS_len z) hz, .str _, H4, I5'.tok _, ⟨_, rfl⟩, q⟩
  cases r1
  rcases q with ⟨rfl, hx, q⟩ | ⟨ho, hx, q⟩
  · obtain ⟨its, r, ht, hz⟩ := I5.list hx
    have hlen := r.length
    show wpAny (model X.prog X.w) X.A (subscriptTail e (.Slice none hi (some (.UnaryOp .USub (.Constant (.int 1) kc p1) p2)) p3) (.ref a) (.ref s4.heap.objs.size)) (EP X pins σ Q) X.xe { s4 with heap := s4.heap.push { cls := .type "slice", data := .fields #[vl, vu, vs] } }
    refine tail_any (ops := [.ref a, .ref s4.heap.objs.size]) ht.isList.typeIs (PySem.slot_list_getitem.lookup) ?_ (by with_unfolding_all rfl)
    refine wpAny_getItem_list_slice ht.isList (Heap.IsSliceOf.new _ vl vu vs) pl pu ps (by decide) ?_ (by rw [List.size_toArray]; omega)
    rw [PySem.W.krv_pick]
    refine ⟨.ref _, _, I5.laid (t' := s4.toks) (o := .lst xs.reverse) (fun b ob q => Heap.get?_push_of_some _ q) (Nat.le_refl _) ?_, rfl, q _ (I5.hok.fresh (Nat.le_refl _))⟩
    exact ⟨by rw [List.length_reverse]; exact hz, _, 0, r.reverse, Heap.get?_push_size _ rfl⟩
  · obtain ⟨its, r, ht, hz⟩ := I5.tuple hx
    have hlen := r.length
    show wpAny (model X.prog X.w) X.A (subscriptTail e (.Slice none hi (some (.UnaryOp .USub (.Constant (.int 1) kc p1) p2)) p3) (.ref a) (.ref s4.heap.objs.size)) (EP X pins σ Q) X.xe { s4 with heap := s4.heap.push { cls := .type "slice", data := .fields #[vl, vu, vs] } }
    refine tail_any (ops := [.ref a, .ref s4.heap.objs.size]) ht.typeIs (PyProof.Rows.slot_tuple_getitem.lookup) ?_ (by with_unfolding_all rfl)
    refine getItem_tuple_back ht (Heap.IsSliceOf.new _ vl vu vs) pl pu ps ho ?_ (by rw [List.size_toArray]; omega)
    exact ⟨.ref _, upd H4 _ _, I5.laid (t' := s4.toks) (o := .frz { cls := .type "tuple", data := .seq (its.drop (bk u)).reverse.toArray } (.tup (xs.drop (bk u)).reverse)) (fun c oc qc => Heap.get?_push_of_some _ qc) (Nat.le_refl _)
      (frz_tup (by rw [List.length_reverse, List.length_drop]; omega) (r.drop (bk u)).reverse (Heap.get?_push_size _ rfl)), rfl, q _ _ (I5.hok.fresh (Nat.le_refl _)) rfl⟩
def fRev : D → Bs → Rs D
  | .lst ds, B => .ok (.lst ds.reverse) B
  | .tup ds, B => .ok (.tup ds.reverse) B
  | .str z, B => if z.length ≤ sizeLine then .ok (.str (backS z)) B else .bad
  | _, _ => .bad
def fBk1 : D → Bs → Rs D
  | .tup ds, B => .ok (.tup (ds.drop 1).reverse) B
  | _, _ => .bad
theorem Reps.reverse {g : Gs} {w : Wd} : ∀ {ds : List D} {vs : List V}, Reps g w ds vs → Reps g w ds.reverse vs.reverse
  | [], vs, h => by simp only [Reps] at h; subst h; simp [Reps]
  | d :: ds, vs, h => by
    simp only [Reps] at h
    obtain ⟨v, us, rfl, r, rs⟩ := h
    rw [List.reverse_cons, List.reverse_cons]
    exact Reps.app (Reps.reverse rs) (Reps.one r)
theorem s_rev (ok : Ok g X) (he : Snd g E H0 X b1 e m) : Snd g E H0 X false (.Subscript e (.Slice none none (some (.UnaryOp .USub (.Constant (.int 1) kc p1) p2)) p3) pos) (m1 fRev m) := by
  refine weak (pe_bk he po_none) ?_
  rintro σ H Q ⟨w, σI, B, s, p⟩
  refine tI_bind s p fun d B1 w1 v H1 x1 s1 r1 p1 => ?_
  unfold fRev at p1
  split at p1
  · obtain ⟨a, vs, rfl, q, r⟩ := r1.up.lst s1
    exact .inl ⟨a, vs, rfl, .inl ⟨rfl, .inl (.inl q), fun l hl => p1.newL s1 r.reverse hl⟩⟩
  · obtain ⟨a, vs, rfl, q, r⟩ := r1.up.tup s1
    exact .inl ⟨a, vs, rfl, .inr ⟨.inl rfl, ok.K ▸ q, fun l ob hl ho => p1.newT s1 (by simpa [bk] using r.reverse) hl ho⟩⟩
  · split at p1
    · rename_i hz
      exact .inr ⟨_, r1.up.str s1, hz, rfl, p1.nowR s1 (rep_str g w1 _)⟩
    · exact p1.elim
  · exact p1.elim
theorem s_bk1 {k2 : Nat} (ok : Ok g X) (he : Snd g E H0 X b1 e m) : Snd g E H0 X false (.Subscript e (.Slice none (some (.Constant (.int 0) k2 p4)) (some (.UnaryOp .USub (.Constant (.int 1) kc p1) p2)) p3) pos) (m1 fBk1 m) := by
  refine weak (pe_bk he (po_some pe_int)) ?_
  rintro σ H Q ⟨w, σI, B, s, p⟩
  refine tI_bind s p fun d B1 w1 v H1 x1 s1 r1 p1 => ?_
  unfold fBk1 at p1
  split at p1
  · obtain ⟨a, vs, rfl, q, r⟩ := r1.up.tup s1
    exact ⟨0, rfl, .inl ⟨a, vs, rfl, .inr ⟨.inr rfl, ok.K ▸ q, fun l ob hl ho => p1.newT s1 (Reps.reverse (Reps.drop 1 r)) hl ho⟩⟩⟩
  · exact p1.elim
end
end Hf

set_option Elab.async false
set_option linter.all false
set_option maxRecDepth 100000
set_option maxHeartbeats 4000000
namespace Hf
open PySem PySem.Spec PyProof.Rows L2

/-! ### enumerate, zip -/
section
variable {X : Cx} {pins : List (Addr × Obj)} {σ : L2.St} {H : Hp} {s : Shared}
theorem Sk.At.inj (I : Inv X pins σ H s) {k : Sk} {xs ys : List V} (h : k.At X.K H xs) (h' : k.At X.K H ys) : xs = ys := by
  cases k with
  | l a => exact I.list_inj h h'
  | t a => exact I.tuple_inj h h'
  | s x =>
    have h : xs = chV x := h
    have h' : ys = chV x := h'
    rw [h, h']
end
theorem turn_gen {P : Program} {w : World} {K : PySem.W.Frag} {tg : Expr} {J : It} {fp : List Addr} {it : Addr} {tn : Nat → Heap → Prop} (mem : it ∈ fp)
    (obj : ∀ i h, tn i h → ∀ b ∈ fp, ∃ o, h.get? b = some o ∧ ∀ v, o.data ≠ .cell v) (keep : ∀ i h h', tn i h → (∀ b ∈ fp, ∀ o, h.get? b = some o → h'.get? b = some o) → tn i h')
    (self : ∀ (A : Around) (i : Nat) (s : Shared) (Q : Value → Shared → Prop) (E : Value → Shared → Prop), tn i s.heap → Q (.ref it) s → wpAny (model P w) A (pyIter (.ref it)) Q E s)
    (step : ∀ (X : Cx), X.prog = P → X.w = w → X.K = K → X.calm = true → ∀ (i : Nat) (pins : List (Addr × Obj)) (s : Shared) (σ : L2.St) (H : Hp), Inv X pins σ H s → (∀ b ∈ fp, FpOk X pins H b) → tn i s.heap → J.go i H →
      ∃ (fq wr : List Addr) (n : Nat) (Y : Nat → Heap → Value → Heap → Prop) (St : Nat → Heap → Prop), GoesN P w X.A tg it fq wr n Y St ∧ (∀ b ∈ wr, b ∈ fp) ∧ i < n ∧ St i s.heap ∧ (∀ h', St (i + 1) h' → tn (i + 1) h') ∧
        ∀ v h, Y i s.heap v h → ∃ (T : Addr) (xs : List V) (us : List Value), v = .ref T ∧ s.heap.objs.size ≤ T ∧ Vals xs us ∧ h.IsTuple T us.toArray ∧ xs.length ≤ sizeLine ∧ (H T = none → J.yld i H (.ref T) (upd H T (.tup xs))))
    (stop : ∀ (X : Cx), X.prog = P → X.w = w → X.K = K → X.calm = true → ∀ (i : Nat) (pins : List (Addr × Obj)) (s : Shared) (σ : L2.St) (H : Hp), Inv X pins σ H s → (∀ b ∈ fp, FpOk X pins H b) → tn i s.heap → J.stop i H →
      ∃ (fq wr : List Addr) (Y : Nat → Heap → Value → Heap → Prop) (St : Nat → Heap → Prop), GoesN P w X.A tg it fq wr i Y St ∧ (∀ b ∈ wr, b ∈ fp) ∧ St i s.heap) :
    Turn P w K tg J fp it tn where
  mem := mem
  obj := obj
  keep := keep
  self := self
  item := by
    intro X hP hw hK hc i pins s σ H E I hf st hg
    obtain ⟨fq, wr, n, Y, St, W, hwr, hi, hst, hnx, hY⟩ := step X hP hw hK hc i pins s σ H I hf st hg
    refine W.goes i s (fun u s2 => ∃ x H', Inv X pins σ H' s2 ∧ RelV x u ∧ J.yld i H x H' ∧ tn (i + 1) s2.heap ∧ ∀ b ∈ fp, H' b = none) E hi hst fun v h' tk y st' hk htk => ?_
    obtain ⟨T, xs, us, rfl, hT, rv, ht, hz, jy⟩ := hY v h' y
    have hn : H T = none := I.hok.fresh hT
    have new : ObjOk X.prog X.w (upd H T (.tup xs)) h' T (.tup xs) := ⟨hz, us, rv, ht⟩
    subst hP hw
    refine ⟨.ref T, _, I.turnedNew (t' := tk) (ch := fp) (fun b o hb q => hk b o (fun z => hb (hwr b z)) q) hf hT new, rfl, jy hn, hnx _ st', fun b hb => ?_⟩
    obtain ⟨o, e, _⟩ := obj i _ st b hb
    rw [upd_ne (Nat.ne_of_lt (Nat.lt_of_lt_of_le (Heap.lt_size e) hT))]
    exact (hf b hb).1
  done := by
    intro X hP hw hK hc i pins s σ H E I hf st hg
    obtain ⟨fq, wr, Y, St, W, hwr, hst⟩ := stop X hP hw hK hc i pins s σ H I hf st hg
    refine wpAny_mono (W.stops s (fun s1 => Inv X pins σ H s1) E hst fun h' tk hk htk => ?_) (fun r s1 h1 => h1) fun _ _ h => h
    exact I.turnedL (t' := tk) (ch := fp) (fun b o hb q => hk b o (fun z => hb (hwr b z)) q) hf
theorem in1_handled (A : Around) : A.in1.handled = A.handled := rfl
/-- enumerate(source) -/
def ItE (K : PySem.W.Frag) (k : Sk) : It := ⟨fun i H => ∃ xs, k.At K H xs ∧ i < xs.length, fun i H v H' => ∃ T x, v = .ref T ∧ H T = none ∧ H' = upd H T (.tup [.int (i : Nat), x]) ∧ ∀ xs, k.At K H xs → xs[i]? = some x, fun i H => ∃ xs, k.At K H xs ∧ i = xs.length⟩
theorem turn_enumS {P : Program} {w : World} {K : PySem.W.Frag} {elts : List Expr} {kk : Nat} {tpos : Pos} (k : Sk) (e it : Addr) (hei : e ≠ it) :
    Turn P w K (.Tuple elts kk tpos) (ItE K k) [e, it] e (fun i h => (∃ old, IsEnum h e it (0 + ((i : Nat) : Int)) old) ∧ k.St it i h) := by
  refine turn_gen (by simp) (fun i h st b hb => ?_) (fun i h h' st kp => ?_) (fun A i s Q E st h => ?_) (fun X hP hw hK hc i pins s σ H I hf st hg => ?_) fun X hP hw hK hc i pins s σ H I hf st hg => ?_
  · obtain ⟨⟨old, he⟩, st2⟩ := st
    simp only [List.mem_cons, List.not_mem_nil, or_false] at hb
    rcases hb with rfl | rfl
    · exact ⟨_, he, fun v q => nomatch q⟩
    · exact st2.obj
  · obtain ⟨⟨old, he⟩, st2⟩ := st
    exact ⟨⟨old, kp e (by simp) _ he⟩, st2.at fun o q => kp it (by simp) o q⟩
  · obtain ⟨⟨old, he⟩, st2⟩ := st
    exact wpAny_pyIter_enum he h
  · subst hP hw hK
    obtain ⟨he, st2⟩ := st
    obtain ⟨xs, hx, hi⟩ := hg
    obtain ⟨fq, n, Pd, St, D, rfl, sd, sb, vd, fd⟩ := Sk.draws I hx st2 X.A.in1 (I.ok.hd hc) (hf it (by simp))
    refine ⟨_, _, _, _, _, GoesN.enumFrom 0 D e hei (fun hm => ?_) (by simp), fun b hb => by simpa using hb, hi, ⟨he, sd⟩, fun h' q => ⟨q.1, sb _ _ q.2⟩, fun v h y => ?_⟩
    · rcases List.mem_cons.mp hm with q | q
      · exact hei q
      · exact src_ne I (hf e (by simp)) (fd e q) rfl
    · obtain ⟨T, t, u, rfl, hT, hP, ht⟩ := y
      obtain ⟨x, h1, h2⟩ := vd i u hP
      refine ⟨T, [.int (i : Nat), x], [.int (0 + (i : Int)) t, u], rfl, hT, .cons ⟨t, by simp⟩ (.cons h2 .nil), ht, by show 2 ≤ sizeLine; decide, fun hn => ⟨T, x, rfl, hn, rfl, fun ys hy => ?_⟩⟩
      rw [Sk.At.inj I hy hx]; exact h1
  · subst hP hw hK
    obtain ⟨he, st2⟩ := st
    obtain ⟨xs, hx, rfl⟩ := hg
    obtain ⟨fq, n, Pd, St, D, rfl, sd, sb, vd, fd⟩ := Sk.draws I hx st2 X.A.in1 (I.ok.hd hc) (hf it (by simp))
    refine ⟨_, _, _, _, GoesN.enumFrom 0 D e hei (fun hm => ?_) (by simp), fun b hb => by simpa using hb, ⟨he, sd⟩⟩
    rcases List.mem_cons.mp hm with q | q
    · exact hei q
    · exact src_ne I (hf e (by simp)) (fd e q) rfl
theorem meets_enumerate_one {v : Value} {o : Obj} {H : Heap → Prop} (B : Begins v o H) :
    Meets (Builtin.«enumerate.__new__» ⟨[.type "enumerate", v], []⟩) (fun _ R s => H s.heap ∧
      R (.ok (.ret (.ref (s.heap.push o).objs.size))) { s with heap := (s.heap.push o).push { cls := .type "enumerate", data := .fields #[.none, .bool false, .ref s.heap.objs.size, rawInt 0, .none, .none] } }) :=
  .of_wp fun prog w A R s h => by
    obtain ⟨hp, g, d, tk, os⟩ := s; obtain ⟨h1, h⟩ := h
    have hsub := sub_enumerate
    have q1 : ∀ {A' : Around} {E : Value → Shared → Prop} {Q : Value → Shared → Prop}, Q (.ref hp.objs.size) ⟨hp.push o, g, d, tk, os⟩ → wpAny (model prog w) A' (pyIter v) Q E ⟨hp, g, d, tk, os⟩ :=
      fun q => B.iter prog w _ _ ⟨hp, g, d, tk, os⟩ _ h1 q
    wp_walk using q1
    refine wpAny_stack_any fun st => wpAny_pure ?_
    split
    · rename_i c _ _ _ _ _
      cases (c == Value.type "enumerate")
      · wp_walk using q1
        exact ⟨_, rfl, h⟩
      · wp_walk using q1
        exact ⟨_, rfl, h⟩
    · wp_walk using q1
      exact ⟨_, rfl, h⟩
section
variable {prog : Program} {w : World} {A : Around} {E : Value → Shared → Prop} {s : Shared}
theorem enum_begins1 {v : Value} {o : Obj} {H : Heap → Prop} {Q : Value → Shared → Prop} (B : Begins v o H) (h1 : H s.heap)
    (h : ∀ h', IsEnum h' (s.heap.objs.size + 1) s.heap.objs.size 0 .none → h'.get? s.heap.objs.size = some o →
      (∀ b o, s.heap.get? b = some o → h'.get? b = some o) → Q (.ref (s.heap.objs.size + 1)) { s with heap := h' }) :
    wpAny (model prog w) A (call (.type "enumerate") [v]) Q E s := by
  refine callType_new F.called_enumerate (by decide) (F.typeCall_enumerate_1 _) (F.newCall_enumerate_1 _) (fun obj => F.args_object_init_2 obj _) F.entry_enumerate_new
    (meets_enumerate_one B) ⟨h1, ?_⟩
  have hz : (s.heap.push o).objs.size = s.heap.objs.size + 1 := Heap.size_push ..
  show _ ∧ _
  rw [hz]
  have he : IsEnum ((s.heap.push o).push { cls := .type "enumerate", data := .fields #[.none, .bool false, .ref s.heap.objs.size, rawInt 0, .none, .none] }) (s.heap.objs.size + 1) s.heap.objs.size 0 .none := by
    have := Heap.get?_push_size (s.heap.push o) (o := { cls := .type "enumerate", data := .fields #[.none, .bool false, .ref s.heap.objs.size, rawInt 0, .none, .none] }) rfl
    rw [hz] at this; exact this
  exact ⟨⟨_, he, rfl⟩, h _ he (Heap.get?_push_of_some _ (Heap.get?_push_size _ B.free)) fun b o x => Heap.get?_push_of_some _ (Heap.get?_push_of_some _ x)⟩
end
/-- zip(source, source) -/
def ItZ2 (K : PySem.W.Frag) (k l : Sk) : It := ⟨fun i H => ∃ xs ys, k.At K H xs ∧ l.At K H ys ∧ i < min xs.length ys.length,
  fun i H v H' => ∃ T x y, v = .ref T ∧ H T = none ∧ H' = upd H T (.tup [x, y]) ∧ (∀ xs, k.At K H xs → xs[i]? = some x) ∧ ∀ ys, l.At K H ys → ys[i]? = some y, fun i H => ∃ xs ys, k.At K H xs ∧ l.At K H ys ∧ i = min xs.length ys.length⟩
/-- the five cells of a zip of two -/
structure Z5 (z TI TO i1 i2 : Addr) : Prop where
  a : TI ≠ z
  b : TO ≠ z
  c : TI ≠ TO
  d : TI ≠ i1
  e : TI ≠ i2
  f : z ≠ i1
  g : z ≠ i2
  h : TO ≠ i1
  i : TO ≠ i2
  j : i1 ≠ i2
theorem turn_zipS2 {P : Program} {w : World} {K : PySem.W.Frag} {elts : List Expr} {kk : Nat} {tpos : Pos} (k l : Sk) {z TI TO i1 i2 : Addr} (Z : Z5 z TI TO i1 i2) :
    Turn P w K (.Tuple elts kk tpos) (ItZ2 K k l) [z, TI, TO, i1, i2] z (fun i h => IsZip h z TI TO .none ∧ IsTupOf2 h TI (.ref i1) (.ref i2) ∧ (∃ a1 a2, IsTupOf2 h TO a1 a2) ∧ k.St i1 i h ∧ l.St i2 i h) := by
  have sep : ∀ {X : Cx} {pins : List (Addr × Obj)} {s : Shared} {σ : L2.St} {H : Hp}, Inv X pins σ H s → (∀ b ∈ [z, TI, TO, i1, i2], FpOk X pins H b) → ∀ {f1 f2 : List Addr}, (∀ b ∈ f1, (∃ o, H b = some o) ∨ ∃ o, X.K.lookup b = some o) → (∀ b ∈ f2, (∃ o, H b = some o) ∨ ∃ o, X.K.lookup b = some o) →
      ZipSep2 z TI TO i1 i2 (i1 :: f1) (i2 :: f2) := by
    intro X pins s σ H I hf f1 f2 h1 h2
    have no : ∀ {c : Addr} {f : List Addr}, c ∈ [z, TI, TO, i1, i2] → (∀ b ∈ f, (∃ o, H b = some o) ∨ ∃ o, X.K.lookup b = some o) → c ∉ f := fun hc hq q => src_ne I (hf _ hc) (hq _ q) rfl
    have nc : ∀ {c d : Addr} {f : List Addr}, c ∈ [z, TI, TO, i1, i2] → (∀ b ∈ f, (∃ o, H b = some o) ∨ ∃ o, X.K.lookup b = some o) → c ≠ d → c ∉ d :: f := fun hc hq hn q => by
      rcases List.mem_cons.mp q with q | q
      · exact hn q
      · exact no hc hq q
    exact { TIz := Z.a, TOz := Z.b, TITO := Z.c, TIi1 := Z.d, mem1 := by simp, zf1 := nc (by simp) h1 Z.f, Tf1 := nc (by simp) h1 Z.h, TIi2 := Z.e, mem2 := by simp, zf2 := nc (by simp) h2 Z.g, Tf2 := nc (by simp) h2 Z.i, sep1_2 := nc (by simp) h2 Z.j, sep2_1 := nc (by simp) h1 Z.j.symm }
  refine turn_gen (by simp) (fun i h st b hb => ?_) (fun i h h' st kp => ?_) (fun A i s Q E st h => ?_) (fun X hP hw hK hc i pins s σ H I hf st hg => ?_) fun X hP hw hK hc i pins s σ H I hf st hg => ?_
  · obtain ⟨h1, h2, ⟨a1, a2, h3⟩, h4, h5⟩ := st
    simp only [List.mem_cons, List.not_mem_nil, or_false] at hb
    rcases hb with rfl | rfl | rfl | rfl | rfl
    · exact ⟨_, h1, fun v q => nomatch q⟩
    · exact ⟨_, h2, fun v q => nomatch q⟩
    · exact ⟨_, h3, fun v q => nomatch q⟩
    · exact h4.obj
    · exact h5.obj
  · obtain ⟨h1, h2, ⟨a1, a2, h3⟩, h4, h5⟩ := st
    exact ⟨kp _ (by simp) _ h1, kp _ (by simp) _ h2, ⟨a1, a2, kp _ (by simp) _ h3⟩, h4.at fun o q => kp _ (by simp) o q, h5.at fun o q => kp _ (by simp) o q⟩
  · exact wpAny_pyIter_zip st.1 h
  · subst hP hw hK
    obtain ⟨h1, h2, h3, h4, h5⟩ := st
    obtain ⟨xs, ys, hx, hy, hi⟩ := hg
    obtain ⟨f1, n1, P1, St1, D1, rfl, sd1, sb1, vd1, fd1⟩ := Sk.draws I hx h4 X.A.in1 (I.ok.hd hc) (hf i1 (by simp))
    obtain ⟨f2, n2, P2, St2, D2, rfl, sd2, sb2, vd2, fd2⟩ := Sk.draws I hy h5 X.A.in1 (I.ok.hd hc) (hf i2 (by simp))
    refine ⟨_, _, _, _, _, GoesN.zip2 (sep I hf fd1 fd2) D1 D2, fun b hb => ?_, hi, ⟨h1, h2, h3, sd1, sd2⟩, fun h' q => ⟨q.1, q.2.1, q.2.2.1, sb1 _ _ q.2.2.2.1, sb2 _ _ q.2.2.2.2⟩, fun v h y => ?_⟩
    · simp only [List.mem_cons, List.not_mem_nil, or_false] at hb ⊢
      rcases hb with q | q | q | q <;> simp [q]
    · obtain ⟨T, u1, u2, rfl, hT, p1, p2, ht⟩ := y
      obtain ⟨x, a1, a2⟩ := vd1 i u1 p1
      obtain ⟨y, c1, c2⟩ := vd2 i u2 p2
      refine ⟨T, [x, y], [u1, u2], rfl, hT, .cons a2 (.cons c2 .nil), ht, by show 2 ≤ sizeLine; decide, fun hn => ⟨T, x, y, rfl, hn, rfl, fun zs hz => ?_, fun zs hz => ?_⟩⟩
      · rw [Sk.At.inj I hz hx]; exact a1
      · rw [Sk.At.inj I hz hy]; exact c1
  · subst hP hw hK
    obtain ⟨h1, h2, h3, h4, h5⟩ := st
    obtain ⟨xs, ys, hx, hy, rfl⟩ := hg
    obtain ⟨f1, n1, P1, St1, D1, rfl, sd1, sb1, vd1, fd1⟩ := Sk.draws I hx h4 X.A.in1 (I.ok.hd hc) (hf i1 (by simp))
    obtain ⟨f2, n2, P2, St2, D2, rfl, sd2, sb2, vd2, fd2⟩ := Sk.draws I hy h5 X.A.in1 (I.ok.hd hc) (hf i2 (by simp))
    refine ⟨_, _, _, _, GoesN.zip2 (sep I hf fd1 fd2) D1 D2, fun b hb => ?_, ⟨h1, h2, h3, sd1, sd2⟩⟩
    simp only [List.mem_cons, List.not_mem_nil, or_false] at hb ⊢
    rcases hb with q | q | q | q <;> simp [q]
section
variable {X : Cx} {e e2 : Expr} {ta : TE} {tb : TE} {p pos tpos : Pos} {elts : List Expr} {kk : Nat}
def iEnumS (K : PySem.W.Frag) (ta : TE) : TI := fun σ H R => ta σ H fun x H1 => ∃ k xs, x = Sk.v k ∧ k.At K H1 xs ∧ R (ItE K k) H1
theorem pi_enumS (hg : Gl X "enumerate") (hm : X.mg "enumerate" = none) (he : PE X e ta) (na : starEach [e] X.env = (false, eval e X.env) :: starEach [] X.env := by rfl) :
    PI X (.Tuple elts kk tpos) (.Call (.Name "enumerate" p) [e] [] pos) (iEnumS X.K ta) := by
  refine ⟨fun pins s σ H R I h => ?_⟩
  refine Call_ (ld_blt I hg hm boot_enumerate (PyProof.Rows.callWith_type1 (args_cons (thn (he.run pins s σ H _ I h) fun u s1 ⟨x, H1, I1, r1, k, xs, ex, hk, q⟩ => args_nil ?_) na) na rfl))
  subst ex
  obtain ⟨o, HH, B, h1, hs⟩ := Sk.begins I1 hk r1
  refine enum_begins1 B h1 fun h' hE hit hk' => wpAny_pyIter_enum hE ?_
  refine ⟨s1.heap.objs.size + 1, [s1.heap.objs.size + 1, s1.heap.objs.size], _, _, H1, rfl, I1.kept (t' := s1.toks) hk', turn_enumS k (s1.heap.objs.size + 1) s1.heap.objs.size (Nat.succ_ne_self _), ⟨⟨_, hE⟩, hs _ _ hit⟩, fun c hc => ?_, q⟩
  have hle : s1.heap.objs.size ≤ c := by
    simp only [List.mem_cons, List.not_mem_nil, or_false] at hc
    rcases hc with z | z
    · rw [z]; exact Nat.le_succ _
    · rw [z]; exact Nat.le_refl _
  exact I1.fpOk hle (I1.hok.fresh hle)
def iZipS2 (K : PySem.W.Frag) (ta tb : TE) : TI := fun σ H R => ta σ H fun x H1 => tb σ H1 fun y H2 => ∃ k l xs ys, x = Sk.v k ∧ y = Sk.v l ∧ k.At K H2 xs ∧ l.At K H2 ys ∧ R (ItZ2 K k l) H2
theorem pi_zipS2 (hg : Gl X "zip") (hm : X.mg "zip" = none) (he : PE X e ta) (he2 : PE X e2 tb) (na : starEach [e, e2] X.env = (false, eval e X.env) :: starEach [e2] X.env := by rfl) (nb : starEach [e2] X.env = (false, eval e2 X.env) :: starEach [] X.env := by rfl) (hpl : (backTo pos (starEach [e2] X.env)).any (·.1) = false := by rfl) :
    PI X (.Tuple elts kk tpos) (.Call (.Name "zip" p) [e, e2] [] pos) (iZipS2 X.K ta tb) := by
  refine ⟨fun pins s σ H R I h => ?_⟩
  refine Call_ (ld_blt I hg hm PyProof.Rows.boot_zip (PyProof.Rows.callWith_type1 (args_cons (thn (he.run pins s σ H _ I h) fun u s1 ⟨x, H1, I1, r1, q1⟩ => args_cons (thn (he2.run pins s1 σ H1 _ I1 q1) fun u2 s2 ⟨y, H2, I2, r2, k, l, xs, ys, ex, ey, hk, hl, q⟩ => args_nil ?_) nb) na) na hpl))
  subst ex ey
  obtain ⟨o1, HH1, B1, h1, hs1⟩ := Sk.begins I2 hk r1
  obtain ⟨o2, HH2, B2, h2, hs2⟩ := Sk.begins I2 hl r2
  refine zip_begins2 B1 B2 h1 h2 fun h' hz hTI hTO g1 g2 hsz hk' => wpAny_pyIter_zip hz ?_
  generalize hN : s2.heap.objs.size = N at *
  refine ⟨N + 4, [N + 4, N + 2, N + 3, N, N + 1], _, _, H2, rfl, I2.kept (t' := s2.toks) hk', turn_zipS2 k l ⟨?_, ?_, ?_, ?_, ?_, ?_, ?_, ?_, ?_, ?_⟩, ⟨hz, hTI, ⟨_, _, hTO⟩, hs1 _ _ g1, hs2 _ _ g2⟩, fun c hc => ?_, q⟩
  · show (N + 2 : Nat) ≠ N + 4; omega
  · show (N + 3 : Nat) ≠ N + 4; omega
  · show (N + 2 : Nat) ≠ N + 3; omega
  · show (N + 2 : Nat) ≠ N; omega
  · show (N + 2 : Nat) ≠ N + 1; omega
  · show (N + 4 : Nat) ≠ N; omega
  · show (N + 4 : Nat) ≠ N + 1; omega
  · show (N + 3 : Nat) ≠ N; omega
  · show (N + 3 : Nat) ≠ N + 1; omega
  · show (N : Nat) ≠ N + 1; omega
  · have hle : s2.heap.objs.size ≤ c := by
      rw [hN]
      simp only [List.mem_cons, List.not_mem_nil, or_false] at hc
      rcases hc with z | z | z | z | z <;> rw [z]
      · exact Nat.le_add_right _ _
      · exact Nat.le_add_right _ _
      · exact Nat.le_add_right _ _
      · exact Nat.le_refl _
      · exact Nat.le_add_right _ _
    exact I2.fpOk hle (I2.hok.fresh hle)
end
section
variable {g : Gs} {E : XK} {H0 : Hp} {w : Wd}
theorem SkAt.at {k : Sk} {ds : List D} {H : Hp} (h : SkAt g w k ds) (hs : Same w.P H) : ∃ vs, k.At g.K H vs ∧ Reps g w ds vs := let ⟨vs, a, r⟩ := h; ⟨vs, a.mono hs, r⟩
theorem reg_pair {w1 : Wd} {H : Hp} {B : Bs} {T : Addr} {ds : List D} {vs : List V} (rb : RB g w1 B H) (hn : H T = none) (r : Reps g w1 ds vs) :
    ∃ w2, Ext w1 H w2 (upd H T (.tup vs)) ∧ RB g w2 B (upd H T (.tup vs)) ∧ Rep g w2 (.prs ds) (.ref T) :=
  ⟨regW w1 T (.tup vs), Ext.reg rb hn, rb.reg hn, by
    simp only [Rep]
    exact ⟨T, vs, rfl, .inl (.inl upd_same), Reps.mono (regLe w1 (rb.fresh_P hn)) _ _ r⟩⟩
def enumD (ds : List D) : List D := (List.range ds.length).zipWith (fun i d => D.prs [.int (i : Nat), d]) ds
def zipD (ds es : List D) : List D := ds.zipWith (fun d e => D.prs [d, e]) es
theorem enumD_len (ds : List D) : (enumD ds).length = ds.length := by simp [enumD]
theorem it_enum {k : Sk} {ds : List D} (h : SkAt g w k ds) : ItOk g w (ItE g.K k) (enumD ds) where
  go := fun i H hi hs => by
    obtain ⟨vs, a, r⟩ := h.at hs
    exact ⟨vs, a, by rw [enumD_len] at hi; rw [r.len]; exact hi⟩
  stop := fun i H hi hs => by
    obtain ⟨vs, a, r⟩ := h.at hs
    exact ⟨vs, a, by rw [enumD_len] at hi; rw [r.len]; exact hi⟩
  yld := fun i H x H' d w1 B e l rb y => by
    obtain ⟨vs, a, r⟩ := h.at (l.P.trans rb.sub)
    obtain ⟨T, y, rfl, hn, rfl, hx⟩ := y
    have hx := hx vs a
    unfold enumD at e
    rw [List.getElem?_zipWith] at e
    have hi : i < ds.length := by rw [← r.len]; exact (List.getElem?_eq_some_iff.mp hx).1
    rw [List.getElem?_range hi, List.getElem?_eq_getElem hi] at e
    simp only [Option.some.injEq] at e
    subst e
    obtain ⟨v, e2, rv⟩ := Reps.get r (List.getElem?_eq_getElem hi)
    rw [hx] at e2; cases e2
    refine reg_pair rb hn ?_
    simp only [Reps, Rep]
    exact ⟨_, _, rfl, rfl, _, _, rfl, Rep.mono l _ _ rv, rfl⟩
theorem it_zip2 {k l : Sk} {ds es : List D} (h : SkAt g w k ds) (h' : SkAt g w l es) : ItOk g w (ItZ2 g.K k l) (zipD ds es) where
  go := fun i H hi hs => by
    obtain ⟨vs, a, r⟩ := h.at hs
    obtain ⟨us, b, r'⟩ := h'.at hs
    exact ⟨vs, us, a, b, by rw [r.len, r'.len]; simpa [zipD] using hi⟩
  stop := fun i H hi hs => by
    obtain ⟨vs, a, r⟩ := h.at hs
    obtain ⟨us, b, r'⟩ := h'.at hs
    exact ⟨vs, us, a, b, by rw [r.len, r'.len]; simpa [zipD] using hi⟩
  yld := fun i H x H' d w1 B e le rb y => by
    obtain ⟨vs, a, r⟩ := h.at (le.P.trans rb.sub)
    obtain ⟨us, b, r'⟩ := h'.at (le.P.trans rb.sub)
    obtain ⟨T, x1, x2, rfl, hn, rfl, hx, hy⟩ := y
    have hx := hx vs a
    have hy := hy us b
    have hi : i < ds.length := by rw [← r.len]; exact (List.getElem?_eq_some_iff.mp hx).1
    have hj : i < es.length := by rw [← r'.len]; exact (List.getElem?_eq_some_iff.mp hy).1
    unfold zipD at e
    rw [List.getElem?_zipWith, List.getElem?_eq_getElem hi, List.getElem?_eq_getElem hj] at e
    simp only [Option.some.injEq] at e
    subst e
    obtain ⟨v, e2, rv⟩ := Reps.get r (List.getElem?_eq_getElem hi)
    rw [hx] at e2; cases e2
    obtain ⟨v', e3, rv'⟩ := Reps.get r' (List.getElem?_eq_getElem hj)
    rw [hy] at e3; cases e3
    refine reg_pair rb hn ?_
    simp only [Reps]
    exact ⟨_, _, rfl, Rep.mono le _ _ rv, _, _, rfl, Rep.mono le _ _ rv', rfl⟩
variable {X : Cx} {a b : Expr} {ma mb : Ev} {p pos tpos : Pos} {elts : List Expr} {kk : Nat}
def itD (d : D) (B : Bs) : Rs (List D) := match itemsOf d with
  | some ds => .ok ds B
  | Option.none => .bad
def mEnum (m : Ev) : Ei := fun σ B => (m σ B).bind fun d B1 => (itD d B1).bind fun ds B2 => .ok (enumD ds) B2
def mZip2 (ma mb : Ev) : Ei := fun σ B => (ma σ B).bind fun d B1 => (itD d B1).bind fun ds B2 => (mb σ B2).bind fun e B3 => (itD e B3).bind fun es B4 => .ok (zipD ds es) B4
theorem itD_go {B : Bs} {H : Hp} {R : It → Hp → Prop} {d : D} {v : V} {f : List D → Bs → Rs (List D)} (r : Rep g w d v) (p : PostI g E w H R ((itD d B).bind f)) : ∃ ds k, v = Sk.v k ∧ SkAt g w k ds ∧ PostI g E w H R (f ds B) := by
  unfold itD at p
  cases hd : itemsOf d with
  | none => rw [hd] at p; exact p.elim
  | some ds =>
    rw [hd] at p
    obtain ⟨k, e, hk⟩ := Rep.sk r hd
    exact ⟨ds, k, e, hk, p⟩
theorem SkAt.mono {w1 : Wd} {k : Sk} {ds : List D} (l : Le w w1) (h : SkAt g w k ds) : SkAt g w1 k ds := let ⟨vs, a, r⟩ := h; ⟨vs, a.mono l.P, Reps.mono l _ _ r⟩
theorem i_enum (c : Ok g X) (h : Snd g E H0 X false a ma) (hg : Gl X "enumerate" := by rfl) (na : starEach [a] X.env = (false, eval a X.env) :: starEach [] X.env := by rfl) : SndI g E H0 X (.Tuple elts kk tpos) (.Call (.Name "enumerate" p) [a] [] pos) (mEnum ma) := by
  refine weakI (pi_enumS hg (nbs c) h na) ?_
  rintro σ H R ⟨w, σI, B, s, p⟩
  refine tI_bindI s p fun d B1 w1 v H1 x1 s1 r p1 => ?_
  obtain ⟨ds, k, rfl, hk, p2⟩ := itD_go r p1
  obtain ⟨vs, a1, _⟩ := hk.at s1.rb.sub
  rw [c.K]
  exact ⟨k, vs, rfl, a1, p2 w1 _ H1 (Ext.refl _ _) s1.rb (it_enum hk)⟩
theorem i_zip2 (c : Ok g X) (h : Snd g E H0 X false a ma) (h' : Snd g E H0 X false b mb) (hg : Gl X "zip" := by rfl) (na : starEach [a, b] X.env = (false, eval a X.env) :: starEach [b] X.env := by rfl) (nb : starEach [b] X.env = (false, eval b X.env) :: starEach [] X.env := by rfl) (hpl : (backTo pos (starEach [b] X.env)).any (·.1) = false := by rfl) :
    SndI g E H0 X (.Tuple elts kk tpos) (.Call (.Name "zip" p) [a, b] [] pos) (mZip2 ma mb) := by
  refine weakI (pi_zipS2 hg (nbs c) h h' na nb hpl) ?_
  rintro σ H R ⟨w, σI, B, s, p⟩
  refine tI_bindI s p fun d B1 w1 v H1 x1 s1 r p1 => ?_
  obtain ⟨ds, k, rfl, hk, p2⟩ := itD_go r p1
  refine tI_bindI s1 p2 fun d2 B2 w2 v2 H2 x2 s2 r2 p3 => ?_
  obtain ⟨es, l, rfl, hl, p4⟩ := itD_go r2 p3
  have hk2 := hk.mono x2.le
  obtain ⟨vs, a1, _⟩ := hk2.at s2.rb.sub
  obtain ⟨us, a2, _⟩ := hl.at s2.rb.sub
  rw [c.K]
  exact ⟨k, l, vs, us, rfl, rfl, a1, a2, p4 w2 _ H2 (Ext.refl _ _) s2.rb (it_zip2 hk2 hl)⟩
end
end Hf

set_option Elab.async false
set_option linter.all false
set_option maxRecDepth 100000
set_option maxHeartbeats 4000000
namespace Hf
open PySem PySem.Spec PyProof.Rows L2

/-! ### keys -/
section
variable {g : Gs} {w : Wd} {X : Cx} {pins : List (Addr × Obj)} {σ : L2.St} {H : Hp} {s : Shared}
mutual
theorem nk_is (I : Inv X pins σ H s) (hK : X.K = g.K) (hs : Same w.P H) : ∀ (d : D) (v : V) (u : Value) (k : NestedKey), Rep g w d v → RelV v u → nkD d = some k → NestedIs s.heap k u
  | .none, v, u, k, r, ru, h => by
    simp only [Rep] at r; subst r
    simp only [nkD, Option.some.injEq] at h; subst h
    cases (show u = Value.none from ru)
    exact .none
  | .bool b, v, u, k, r, ru, h => by
    simp only [Rep] at r; subst r
    simp only [nkD, Option.some.injEq] at h; subst h
    cases (show u = Value.bool b from ru)
    exact .bool rfl
  | .int i, v, u, k, r, ru, h => by
    simp only [Rep] at r; subst r
    simp only [nkD, Option.some.injEq] at h; subst h
    obtain ⟨t, rfl⟩ := ru
    exact .int _ _
  | .str i, v, u, k, r, ru, h => by
    simp only [Rep] at r; subst r
    simp only [nkD, Option.some.injEq] at h; subst h
    obtain ⟨t, rfl⟩ := ru
    exact .text _ _
  | .tup ds, v, u, k, r, ru, h => by
    simp only [Rep] at r
    obtain ⟨a, vs, rfl, q, r⟩ := r
    simp only [nkD, Option.map_eq_some_iff] at h
    obtain ⟨ks, h, rfl⟩ := h
    cases (show u = Value.ref a from ru)
    obtain ⟨its, rv, ⟨o, ho, hc, n, hd⟩, hz⟩ := I.tuple (hK ▸ sqT_mono hs q.T)
    exact .tup ho hc hd (by simpa using nks_is I hK hs ds vs its ks r rv h)
  | .lst ds, v, u, k, r, ru, h => by simp [nkD] at h
  | .scr ds, v, u, k, r, ru, h => by simp [nkD] at h
  | .prs ds, v, u, k, r, ru, h => by simp [nkD] at h
  | .dct ks ds, v, u, k, r, ru, h => by simp [nkD] at h
  | .inst c ds, v, u, k, r, ru, h => by simp [nkD] at h
  | .box n, v, u, k, r, ru, h => by simp [nkD] at h
  | .cls n, v, u, k, r, ru, h => by simp [nkD] at h
  | .kd n x, v, u, k, r, ru, h => by simp [nkD] at h
  | .fnT n, v, u, k, r, ru, h => by simp [nkD] at h
theorem nks_is (I : Inv X pins σ H s) (hK : X.K = g.K) (hs : Same w.P H) : ∀ (ds : List D) (vs : List V) (us : List Value) (ks : List NestedKey), Reps g w ds vs → Vals vs us → nksD ds = some ks → NestedAll s.heap ks us
  | [], vs, us, ks, r, ru, h => by
    simp only [Reps] at r; subst r
    simp only [nksD, Option.some.injEq] at h; subst h
    cases ru
    exact .nil
  | d :: ds, vs, us, ks, r, ru, h => by
    simp only [Reps] at r
    obtain ⟨v, ws, rfl, r, rs⟩ := r
    simp only [nksD] at h
    split at h
    · rename_i k ks' e1 e2
      cases h
      cases ru with
      | cons r1 r2 => exact .cons (nk_is I hK hs d v _ k r r1 e1) (nks_is I hK hs ds ws _ ks' rs r2 e2)
    · cases h
end
/-- at b stands a key k -/
def KeyH (g : Gs) (H : Hp) (k : NestedKey) (b : Addr) : Prop := ∃ w d, Same (Wd.P w) H ∧ Rep g w d (.ref b) ∧ nkD d = some k
theorem KeyH.is (I : Inv X pins σ H s) (ok : Ok g X) {k : NestedKey} {b : Addr} (h : KeyH g H k b) (hd : k.depth ≤ 8) : (nestedKind X.prog X.w).is s.heap k b := by
  obtain ⟨w, d, hs, r, e⟩ := h
  exact ⟨nk_is I ok.K hs d _ _ k r rfl e, hd⟩
def KeysH (g : Gs) (H : Hp) (xs : List (NestedKey × Addr × V)) : Prop := ∀ p ∈ xs, KeyH g H p.1 p.2.1
theorem paired_mem {α β : Type} {F : α → β → Prop} : ∀ {l : List α} {m : List β}, Paired F l m → ∀ b ∈ m, ∃ a ∈ l, F a b
  | _, _, .nil, _, h => nomatch h
  | _, _, .cons h t, b, hb => by
    rcases List.mem_cons.mp hb with rfl | hb
    · exact ⟨_, List.mem_cons_self, h⟩
    · obtain ⟨a, ha, f⟩ := paired_mem t b hb
      exact ⟨a, List.mem_cons_of_mem _ ha, f⟩
abbrev PF : (NestedKey × Addr × V) → (NestedKey × Addr × Value) → Prop := fun p q => p.1 = q.1 ∧ p.2.1 = q.2.1 ∧ RelV p.2.2 q.2.2
theorem paired_keys : ∀ {l : List (NestedKey × Addr × V)} {m : List (NestedKey × Addr × Value)}, Paired PF l m → l.map (·.1) = m.map (·.1)
  | _, _, .nil => rfl
  | _, _, .cons h t => by rw [List.map_cons, List.map_cons, h.1, paired_keys t]
theorem dct_of (I : Inv X pins σ H s) (ok : Ok g X) {a : Addr} {xs : List (NestedKey × Addr × V)} (h : H a = some (dctO g a xs)) (kh : KeysH g H xs) :
    (a == sysModules) = false ∧ xs.length ≤ sizeLine ∧ (∀ p ∈ xs, p.1.depth ≤ 8) ∧ ∃ ys, Paired PF xs ys ∧ s.heap.DictOfH (nestedKind X.prog X.w) a ys := by
  obtain ⟨h1, h2, h3, h4, ys, h5, o, es, ep, ho, hx, hd, he⟩ := (I.hok a _ h).1
  refine ⟨h1, h2, h3, ys, h5, o, es, ep, ho, hx, hd, by rw [ok.prog, ok.w]; exact he, fun y hy => ?_, by rw [← paired_keys h5]; exact h4⟩
  obtain ⟨p, hp, e1, e2, _⟩ := paired_mem h5 y hy
  rw [← e1, ← e2]
  exact (kh p hp).is I ok (h3 p hp)
def atX (xs : List (NestedKey × Addr × V)) (k : NestedKey) : Option V := (xs.find? fun p => decide (p.1 = k)).map (·.2.2)
theorem at_rel {k : NestedKey} : ∀ {xs : List (NestedKey × Addr × V)} {ys : List (NestedKey × Addr × Value)}, Paired PF xs ys → (atX xs k = none ∧ atKey ys k = none) ∨ ∃ v b u, atX xs k = some v ∧ atKey ys k = some (b, u) ∧ RelV v u
  | _, _, .nil => .inl ⟨rfl, rfl⟩
  | x :: xs, y :: ys, .cons h t => by
    unfold atX atKey
    by_cases e : x.1 = k
    · have e2 : y.1 = k := by rw [← h.1]; exact e
      simp only [List.find?_cons, decide_eq_true e, decide_eq_true e2, Option.map_some]
      exact .inr ⟨_, _, _, rfl, rfl, h.2.2⟩
    · have e2 : ¬ y.1 = k := by rw [← h.1]; exact e
      simp only [List.find?_cons, decide_eq_false e, decide_eq_false e2]
      exact at_rel t
def putP (k : NestedKey) (v : V) (p : NestedKey × Addr × V) : NestedKey × Addr × V := if p.1 = k then (p.1, p.2.1, v) else p
def stX (xs : List (NestedKey × Addr × V)) (k : NestedKey) (b : Addr) (v : V) : List (NestedKey × Addr × V) := if (atX xs k).isSome then xs.map (putP k v) else xs ++ [(k, b, v)]
theorem st_rel {k : NestedKey} {b : Addr} {v : V} {u : Value} {xs : List (NestedKey × Addr × V)} {ys : List (NestedKey × Addr × Value)} (h : Paired PF xs ys) (r : RelV v u) : Paired PF (stX xs k b v) (storedH ys k b u) := by
  unfold stX storedH
  rcases at_rel (k := k) h with ⟨e1, e2⟩ | ⟨v', b', u', e1, e2, _⟩
  · rw [e1, e2]
    simp only [Option.isSome_none, Bool.false_eq_true, if_false]
    exact h.snoc ⟨rfl, rfl, r⟩
  · rw [e1, e2]
    simp only [Option.isSome_some, if_true]
    clear e1 e2
    induction h with
    | nil => exact .nil
    | @cons p q l m hp t ih =>
      refine .cons ?_ ih
      unfold putP putAt
      rw [← hp.1]
      split
      · exact ⟨rfl, hp.2.1, r⟩
      · exact hp
theorem stX_keys {k : NestedKey} {b : Addr} {v : V} {xs : List (NestedKey × Addr × V)} : (∀ p ∈ stX xs k b v, (∃ q ∈ xs, q.1 = p.1 ∧ q.2.1 = p.2.1) ∨ (p.1 = k ∧ p.2.1 = b)) ∧ (stX xs k b v).length ≤ xs.length + 1 ∧ ((xs.map (·.1)).Nodup → ((stX xs k b v).map (·.1)).Nodup) := by
  unfold stX
  split
  · refine ⟨fun p hp => ?_, by simp, fun h => ?_⟩
    · obtain ⟨q, hq, rfl⟩ := List.mem_map.mp hp
      refine .inl ⟨q, hq, ?_⟩
      unfold putP
      split <;> exact ⟨rfl, rfl⟩
    · have : (xs.map (putP k v)).map (·.1) = xs.map (·.1) := by
        rw [List.map_map]
        refine List.map_congr_left fun q hq => ?_
        show (putP k v q).1 = q.1
        unfold putP
        split <;> rfl
      rw [this]; exact h
  · rename_i hn
    refine ⟨fun p hp => ?_, by simp, fun h => ?_⟩
    · rcases List.mem_append.mp hp with hp | hp
      · exact .inl ⟨p, hp, rfl, rfl⟩
      · rw [List.mem_singleton.mp hp]; exact .inr ⟨rfl, rfl⟩
    · rw [List.map_append, List.nodup_append]
      refine ⟨h, by simp, fun a ha c hc => ?_⟩
      simp only [List.map_cons, List.map_nil, List.mem_singleton] at hc
      subst hc
      rintro rfl
      obtain ⟨q, hq, e⟩ := List.mem_map.mp ha
      have : (atX xs a).isSome = true := by
        unfold atX
        rw [Option.isSome_map]
        exact List.find?_isSome.mpr ⟨q, hq, decide_eq_true e⟩
      exact hn this
/-- D[b] = v, in a comprehension -/
theorem d_setK {E : Value → Shared → Prop} {a b : Addr} {xs : List (NestedKey × Addr × V)} {k : NestedKey} {v : V} {r : Value} {Q : Unit → Shared → Prop} (I : Inv X pins σ H s) (ok : Ok g X) (h : H a = some (dctO g a xs)) (kh : KeysH g H xs) (kb : KeyH g H k b) (hd : k.depth ≤ 8) (hz : xs.length < sizeLine) (rv : RelV v r)
    (q : ∀ s', Inv X pins σ (upd H a (dctO g a (stX xs k b v))) s' → Q () s') : wpAny (model X.prog X.w) X.A (dictSet a (.ref b) r) Q E s := by
  obtain ⟨h1, h2, h3, ys, h5, hm⟩ := dct_of I ok h kh
  have hl : ys.length ≤ sizeLine := by rw [← Paired.length h5]; exact h2
  have hu : X.A.units + 8 < cLine := by have := ok.un; omega
  refine wpAny_dictSet_heap (hsz := hl) hu (kb.is I ok hd) hm fun h' hm' hs => q _ ?_
  obtain ⟨o, es, ep, ho, hx, hdt, he, _, hnd⟩ := hm'
  obtain ⟨c1, c2, c3⟩ := @stX_keys k b v xs
  obtain ⟨_, _, _, h4, _⟩ := (I.hok a _ h).1
  refine d_write I (by rw [h]; exact True.intro) hs ⟨o, ho⟩ ⟨⟨h1, by omega, fun p hp => ?_, c3 h4, _, st_rel h5 rv, o, es, ep, ho, hx, hdt, by rw [← ok.prog, ← ok.w]; exact he⟩, ⟨o, ho⟩, ?_⟩
  · rcases c1 p hp with ⟨q, hq, e, _⟩ | ⟨e, _⟩
    · rw [← e]; exact h3 q hq
    · rw [e]; exact hd
  · rintro g1 g2 ⟨i1, i2, i3, i4, ys', i5, o', es', ep', j1, j2, j3, j4⟩ hk
    exact ⟨i1, i2, i3, i4, ys', i5, o', es', ep', hk _ j1, j2, j3, j4⟩
theorem dct_new (ok : Ok g X) (h : Heap) (hb : sysModules < h.objs.size) : ObjOk X.prog X.w H (h.push { cls := .type "dict", data := .dict #[] }) h.objs.size (dctO g h.objs.size []) := by
  have e : (h.push { cls := .type "dict", data := .dict #[] }).get? h.objs.size = some { cls := .type "dict", data := .dict #[] } := Heap.get?_push_size _ rfl
  have z : (h.objs.size == sysModules) = false := beq_eq_false_iff_ne.mpr (Nat.ne_of_gt hb)
  have z2 : ∀ p ∈ ([] : List (NestedKey × Addr × V)), p.1.depth ≤ 8 := fun p hp => nomatch hp
  refine ⟨⟨z, Nat.zero_le _, z2, List.nodup_nil, [], Paired.nil, _, _, _, e, ⟨rfl, rfl, rfl⟩, rfl, rfl⟩, ⟨_, e⟩, ?_⟩
  · rintro g1 g2 ⟨i1, i2, i3, i4, ys', i5, o', es', ep', j1, j2, j3, j4⟩ hk
    exact ⟨i1, i2, i3, i4, ys', i5, o', es', ep', hk _ j1, j2, j3, j4⟩
end

/-! ### dicts as data -/
def dAt : List D → List D → NestedKey → Option D
  | k' :: ks, d :: ds, k => if nkD k' = some k then some d else dAt ks ds k
  | _, _, _ => Option.none
def dSet : List D → List D → NestedKey → D → List D
  | k' :: ks, d :: ds, k, v => (if nkD k' = some k then v else d) :: dSet ks ds k v
  | _, _, _, _ => []
def keyT : D → Option NestedKey
  | .tup ds => match nkD (.tup ds) with
    | some k => if k.depth ≤ 8 then some k else Option.none
    | Option.none => Option.none
  | _ => Option.none
def dPut (ks ds : List D) (kd vd : D) : Option (List D × List D) := match keyT kd with
  | some k => if ks.length < sizeLine then some (if (dAt ks ds k).isSome then (ks, dSet ks ds k vd) else (ks ++ [kd], ds ++ [vd])) else Option.none
  | Option.none => Option.none
theorem keyT_ok {d : D} {k : NestedKey} (h : keyT d = some k) : (∃ ds, d = .tup ds) ∧ nkD d = some k ∧ k.depth ≤ 8 := by
  cases d <;> simp only [keyT, reduceCtorEq] at h
  split at h
  · rename_i ds k' e
    split at h
    · rename_i hd
      cases h
      exact ⟨⟨_, rfl⟩, e, hd⟩
    · cases h
  · cases h
section
variable {g : Gs} {w : Wd}
theorem dAt_rel {k : NestedKey} : ∀ {ks ds : List D} {xs : List (NestedKey × Addr × V)}, ks.map nkD = xs.map (fun p => some p.1) → Reps g w ds (xs.map fun p => p.2.2) → (dAt ks ds k = Option.none ∧ atX xs k = none) ∨ ∃ d v, dAt ks ds k = some d ∧ atX xs k = some v ∧ Rep g w d v
  | [], ds, xs, h, r => by
    cases xs with
    | nil => exact .inl ⟨by cases ds <;> rfl, rfl⟩
    | cons x xs => simp at h
  | k' :: ks, ds, [], h, r => by simp at h
  | k' :: ks, [], x :: xs, h, r => by simp [Reps] at r
  | k' :: ks, d :: ds, x :: xs, h, r => by
    simp only [List.map_cons, List.cons.injEq] at h
    simp only [List.map_cons, Reps] at r
    obtain ⟨v, us, e, r1, r2⟩ := r
    cases e
    unfold dAt atX
    rw [h.1]
    by_cases e : x.1 = k
    · simp only [e, if_true, List.find?_cons, decide_true, Option.map_some]
      exact .inr ⟨_, _, rfl, rfl, r1⟩
    · simp only [Option.some.injEq, e, if_false, List.find?_cons, decide_false]
      exact dAt_rel h.2 r2
theorem dSet_rel {k : NestedKey} {vd : D} {v : V} (rv : Rep g w vd v) : ∀ {ks ds : List D} {xs : List (NestedKey × Addr × V)}, ks.map nkD = xs.map (fun p => some p.1) → Reps g w ds (xs.map fun p => p.2.2) → Reps g w (dSet ks ds k vd) ((xs.map (putP k v)).map fun p => p.2.2)
  | [], ds, xs, h, r => by
    cases xs with
    | nil => cases ds <;> simp [dSet, Reps]
    | cons x xs => simp at h
  | k' :: ks, ds, [], h, r => by simp at h
  | k' :: ks, [], x :: xs, h, r => by simp [Reps] at r
  | k' :: ks, d :: ds, x :: xs, h, r => by
    simp only [List.map_cons, List.cons.injEq] at h
    simp only [List.map_cons, Reps] at r
    obtain ⟨u, us, e, r1, r2⟩ := r
    cases e
    unfold dSet
    rw [h.1]
    simp only [List.map_cons, Reps]
    refine ⟨_, _, rfl, ?_, dSet_rel rv h.2 r2⟩
    unfold putP
    by_cases e : x.1 = k
    · simp only [e, if_true]; exact rv
    · simp only [Option.some.injEq, e, if_false]; exact r1
/-- a dict's content -/
def DC (g : Gs) (w : Wd) (ks ds : List D) (xs : List (NestedKey × Addr × V)) : Prop := ks.map nkD = xs.map (fun p => some p.1) ∧ Reps g w ks (xs.map fun p => V.ref p.2.1) ∧ Reps g w ds (xs.map fun p => p.2.2)
theorem DC.nil : DC g w [] [] [] := by simp [DC, Reps]
theorem DC.mono {w' : Wd} (l : Le w w') {ks ds : List D} {xs : List (NestedKey × Addr × V)} (h : DC g w ks ds xs) : DC g w' ks ds xs := ⟨h.1, Reps.mono l _ _ h.2.1, Reps.mono l _ _ h.2.2⟩
theorem DC.keys {H : Hp} (hs : Same w.P H) : ∀ {ks ds : List D} {xs : List (NestedKey × Addr × V)}, DC g w ks ds xs → KeysH g H xs := by
  intro ks ds xs h
  obtain ⟨h1, h2, h3⟩ := h
  clear h3
  induction xs generalizing ks with
  | nil => exact fun p hp => nomatch hp
  | cons x xs ih =>
    cases ks with
    | nil => simp at h1
    | cons k ks =>
      simp only [List.map_cons, List.cons.injEq] at h1
      simp only [List.map_cons, Reps] at h2
      obtain ⟨v, us, e, r1, r2⟩ := h2
      cases e
      intro p hp
      rcases List.mem_cons.mp hp with rfl | hp
      · exact ⟨w, k, hs, r1, h1.1⟩
      · exact ih h1.2 r2 p hp
theorem DC.put {ks ds : List D} {xs : List (NestedKey × Addr × V)} {kd vd : D} {k : NestedKey} {b : Addr} {v : V} {ks' ds' : List D} (h : DC g w ks ds xs) (rk : Rep g w kd (.ref b)) (rv : Rep g w vd v) (hk : keyT kd = some k) (hp : dPut ks ds kd vd = some (ks', ds')) : DC g w ks' ds' (stX xs k b v) ∧ xs.length < sizeLine := by
  unfold dPut at hp
  rw [hk] at hp
  simp only at hp
  split at hp
  · rename_i hz
    obtain ⟨h1, h2, h3⟩ := h
    have hl : ks.length = xs.length := by have := congrArg List.length h1; simpa using this
    refine ⟨?_, by omega⟩
    unfold stX
    rcases dAt_rel (k := k) h1 h3 with ⟨e1, e2⟩ | ⟨d, v', e1, e2, _⟩
    · rw [e1] at hp
      simp only [Option.isSome_none, Bool.false_eq_true, if_false, Option.some.injEq, Prod.mk.injEq] at hp
      obtain ⟨rfl, rfl⟩ := hp
      rw [e2]
      simp only [Option.isSome_none, Bool.false_eq_true, if_false]
      refine ⟨by rw [List.map_append, List.map_append, h1]; simp [(keyT_ok hk).2.1], ?_, ?_⟩
      · rw [List.map_append]; exact Reps.app h2 (Reps.one rk)
      · rw [List.map_append]; exact Reps.app h3 (Reps.one rv)
    · rw [e1] at hp
      simp only [Option.isSome_some, if_true, Option.some.injEq, Prod.mk.injEq] at hp
      obtain ⟨rfl, rfl⟩ := hp
      rw [e2]
      simp only [Option.isSome_some, if_true]
      have c1 : (xs.map (putP k v)).map (fun p => p.1) = xs.map (fun p => p.1) := by
        rw [List.map_map]
        refine List.map_congr_left fun q hq => ?_
        show (putP k v q).1 = q.1
        unfold putP; split <;> rfl
      have c2 : (xs.map (putP k v)).map (fun p => V.ref p.2.1) = xs.map (fun p => V.ref p.2.1) := by
        rw [List.map_map]
        refine List.map_congr_left fun q hq => ?_
        show V.ref (putP k v q).2.1 = V.ref q.2.1
        unfold putP; split <;> rfl
      refine ⟨?_, by rw [c2]; exact h2, dSet_rel rv h1 h3⟩
      have := congrArg (List.map some) c1
      rw [h1]
      simpa [List.map_map, Function.comp_def] using this.symm
  · cases hp
end
/-! ### in, not in -/
section
variable {g : Gs} {E : XK} {H0 : Hp} {X : Cx}
def rInK (g : Gs) (f : Bool → Bool) : R2 := fun x y H Q => ∃ a b xs k, x = .ref b ∧ y = .ref a ∧ H a = some (dctO g a xs) ∧ KeysH g H xs ∧ KeyH g H k b ∧ k.depth ≤ 8 ∧ Q (.bl (f (atX xs k).isSome)) H
theorem at_some {k : NestedKey} {xs : List (NestedKey × Addr × V)} {ys : List (NestedKey × Addr × Value)} (h : Paired PF xs ys) : (atKey ys k).isSome = (atX xs k).isSome := by
  rcases at_rel (k := k) h with ⟨e1, e2⟩ | ⟨v', b', u', e1, e2, _⟩ <;> rw [e1, e2] <;> rfl
theorem op_inK (ok : Ok g X) : OpR X (compareOp .In) (rInK g fun b => b) := by
  intro pins s σ H x y v u Q I rx ry h
  obtain ⟨a, b, xs, k, rfl, rfl, hD, kh, kb, hd, q⟩ := h
  cases rx
  cases ry
  obtain ⟨h1, h2, h3, ys, h5, hm⟩ := dct_of I ok hD kh
  have hu : X.A.in1.units + 8 < cLine := by have := ok.un; show X.A.units + 1 + 8 < cLine; omega
  refine wpAny_in_heap hu (kb.is I ok hd) h1 hm ?_
  exact ⟨.bl _, H, I.tok _, rfl, by rw [at_some h5]; exact q⟩
theorem op_notInK (ok : Ok g X) : OpR X (compareOp .NotIn) (rInK g fun b => !b) := by
  intro pins s σ H x y v u Q I rx ry h
  obtain ⟨a, b, xs, k, rfl, rfl, hD, kh, kb, hd, q⟩ := h
  cases rx
  cases ry
  obtain ⟨h1, h2, h3, ys, h5, hm⟩ := dct_of I ok hD kh
  have hu : X.A.in1.units + 8 < cLine := by have := ok.un; show X.A.units + 1 + 8 < cLine; omega
  show wpAny _ _ (do return Value.bool (!(← contains (.ref a) (.ref b)))) _ _ _
  refine wpAny_bind (wpAny_contains_heap hu (kb.is I ok hd) h1 hm (wpAny_pure ?_))
  exact ⟨.bl _, H, I.tok _, rfl, by rw [at_some h5]; exact q⟩
def fInD (f : Bool → Bool) : D → D → Bs → Rs D
  | d, .dct ks ds, B => match keyT d with
    | some k => .ok (.bool (f (dAt ks ds k).isSome)) B
    | Option.none => .bad
  | d, e, B => fInG f d e B
theorem os_inK {f : Bool → Bool} {r : R2} (h : OpSem g E H0 r (fInG f)) : OpSem g E H0 (fun x y H Q => rInK g f x y H Q ∨ r x y H Q) (fInD f) := by
  intro w σI B σ H Q x y dx dy s rx ry p
  unfold fInD at p
  split at p
  · split at p
    · rename_i ks ds k hk
      obtain ⟨⟨ts, rfl⟩, hn, hd⟩ := keyT_ok hk
      obtain ⟨a, xs, rfl, hD, dc⟩ := ry.dct s
      have rk := rx.tupR s
      obtain ⟨b, vs, e, _⟩ := rx.tup s
      subst e
      refine .inl ⟨a, b, xs, k, rfl, rfl, hD, DC.keys s.rb.sub dc, ⟨w, _, s.rb.sub, rk, hn⟩, hd, ?_⟩
      rcases dAt_rel (k := k) dc.1 dc.2.2 with ⟨e1, e2⟩ | ⟨d', v', e1, e2, _⟩ <;> rw [e2] <;> rw [e1] at p <;> exact p.nowR s (rep_bool g w _)
    · exact p.elim
  · exact .inr (h w σI B σ H Q x y _ _ s rx ry p)
theorem fInD_bl (f : Bool → Bool) : ∀ d e B, fInD f d e B = .bad ∨ ∃ b B', fInD f d e B = .ok (.bool b) B' := fun d e B => by
  unfold fInD
  split
  · split
    · exact .inr ⟨_, _, rfl⟩
    · exact .inl rfl
  · exact fIn_bl f d e B
theorem c_inA (ok : Ok g X) : Cmp g E H0 X .In (fInD fun b => b) := by
  have h : Cmp g E H0 X .In fIn := c_in ok
  obtain ⟨r, h1, h2⟩ := h.ex
  exact ⟨⟨_, (op_inK ok).or h1, os_inK h2⟩, fInD_bl _⟩
theorem c_notinA (ok : Ok g X) : Cmp g E H0 X .NotIn (fInD fun b => !b) := by
  have h : Cmp g E H0 X .NotIn fNotIn := c_notin ok
  obtain ⟨r, h1, h2⟩ := h.ex
  exact ⟨⟨_, (op_notInK ok).or h1, os_inK h2⟩, fInD_bl _⟩
end
/-! ### d.get(k, x) -/
section
variable {g : Gs} {E : XK} {H0 : Hp} {X : Cx} {o e e2 : Expr} {to te tf : TE} {mo me mf : Ev} {apos cpos : Pos} {b1 b2 b3 : Bool}
def tGetK (g : Gs) (to te tf : TE) : TE := fun σ H Q => to σ H fun x H1 => ∃ a xs, x = .ref a ∧ H1 a = some (dctO g a xs) ∧ (tCons te (tCons tf tNil)) σ H1 fun vs H3 => ∃ y z xs b k, vs = [y, z] ∧ y = .ref b ∧ H3 a = some (dctO g a xs) ∧ KeysH g H3 xs ∧ KeyH g H3 k b ∧ k.depth ≤ 8 ∧ Q ((atX xs k).getD z) H3
theorem pe_getK (ok : Ok g X) (ho : PE X o to) (he : PE X e te) (hf : PE X e2 tf) (hbase : attributeBase o "get" X.env (eval o X.env) = eval o X.env := by rfl)
    (hfew : ((backTo cpos (starEach [e, e2] X.env)).all (fun x => !x.1) && (backToKw cpos (keywordEach [] X.env)).all (fun x => x.1.isSome) && decide ([e, e2].length + ([] : List Keyword).length + (if ([] : List Keyword).isEmpty then 0 else 1) < 30)) = true := by rfl)
    (hline : (apos.endLine == cpos.line) = true := by rfl) (hs : starEach [e, e2] X.env = (false, eval e X.env) :: starEach [e2] X.env := by rfl) (hs2 : starEach [e2] X.env = (false, eval e2 X.env) :: starEach [] X.env := by rfl) (hpl : (backTo cpos (starEach [e2] X.env)).any (·.1) = false := by rfl) :
    PE X (.Call (.Attribute o "get" apos) [e, e2] [] cpos) (tGetK g to te tf) := by
  refine ⟨fun pins s σ H Q I h => ?_⟩
  refine wpAny_Call_method_late hbase hfew hline rfl (thn (ho.run pins s σ H _ I h) fun v s1 ⟨x, H1, I1, r1, a, xs0, ex, hD, q1⟩ => ?_)
  subst ex
  cases r1
  obtain ⟨_, _, _, _, _, _, ob, _, _, g1, g2, _⟩ := (I1.hok a _ hD).1
  refine ⟨"dict", "dict.get", F.plainAttrs_dict, F.slot_dict_get, F.type_dict_get, ⟨ob, g1, g2.1⟩, fun b eb => by cases eb; exact ⟨ob, g1, g2.2.1⟩, ?_⟩
  have hA := (pa_cons he (pa_cons hf pa_nil hs2) hs).run cpos pins s1 σ H1 _ I1 q1
  · rw [hs] at hA ⊢
    refine Calls.callWith_builtin (by show (false || (backTo cpos (starEach [e2] X.env)).any (·.1)) = false; rw [hpl] <;> rfl) (Calls.evalArgs_plain ?_)
    refine thn hA fun us s2 ⟨vs, H3, I3, r3, y, z, xs, b, k, ev, ey, hD3, kh, kb, hd, q⟩ => ?_
    subst ev ey
    obtain ⟨u, u2, rfl, ru, ru2⟩ := Vals.two r3
    cases ru
    obtain ⟨h1, h2, h3, ys, h5, hm⟩ := dct_of I3 ok hD3 kh
    have hu : X.A.in1.units + 8 < cLine := by have := ok.un; show X.A.units + 1 + 8 < cLine; omega
    refine call_meetsIn F.slot_dict_get hm.typeIs F.entry_dict_get (F.args_dict_get_3 _ _ _) (meetsH_dict_get_default (nestedKind X.prog X.w) a b h1 u2) ⟨hu, k, ys, kb.is I3 ok hd, hm, ?_⟩
    rcases at_rel (k := k) h5 with ⟨e1, e2⟩ | ⟨v', b', u', e1, e2, rr⟩
    · rw [e1] at q
      rw [e2]
      exact ⟨z, H3, I3.tok _, ru2, q⟩
    · rw [e1] at q
      rw [e2]
      exact ⟨v', H3, I3.tok _, rr, q⟩
def fGet (ks ds : List D) : D → D → Bs → Rs D := fun k x B => match keyT k with
  | some k => .ok ((dAt ks ds k).getD x) B
  | Option.none => .bad
def mGet (mo me mf : Ev) : Ev := fun σ B => (mo σ B).bind fun o B1 => match o with
  | .dct ks ds => (me σ B1).bind fun k B2 => (mf σ B2).bind fun x B3 => fGet ks ds k x B3
  | _ => .bad
theorem s_get (ok : Ok g X) (ho : Snd g E H0 X false o mo) (he : Snd g E H0 X b1 e me) (hf : Snd g E H0 X false e2 mf) (hbase : attributeBase o "get" X.env (eval o X.env) = eval o X.env := by rfl)
    (hfew : ((backTo cpos (starEach [e, e2] X.env)).all (fun x => !x.1) && (backToKw cpos (keywordEach [] X.env)).all (fun x => x.1.isSome) && decide ([e, e2].length + ([] : List Keyword).length + (if ([] : List Keyword).isEmpty then 0 else 1) < 30)) = true := by rfl)
    (hline : (apos.endLine == cpos.line) = true := by rfl) (hs : starEach [e, e2] X.env = (false, eval e X.env) :: starEach [e2] X.env := by rfl) (hs2 : starEach [e2] X.env = (false, eval e2 X.env) :: starEach [] X.env := by rfl) (hpl : (backTo cpos (starEach [e2] X.env)).any (·.1) = false := by rfl) :
    Snd g E H0 X false (.Call (.Attribute o "get" apos) [e, e2] [] cpos) (mGet mo me mf) := by
  refine weak (pe_getK ok ho he hf hbase hfew hline hs hs2 hpl) ?_
  rintro σ H Q ⟨w, σI, B, s, p⟩
  refine tI_bind s p fun d B1 w1 v H1 x1 s1 r1 p1 => ?_
  split at p1
  · rename_i ks ds
    have r1' : Rep g w1 (.dct ks ds) v := r1
    simp only [Rep] at r1'
    obtain ⟨a, xs, rfl, hP, dc⟩ := r1'
    refine ⟨a, xs, rfl, s1.rb.sub _ _ hP, tI_bind s1 p1 fun d2 B2 w2 v2 H2 x2 s2 r2 p2 => tI_bind s2 p2 fun d3 B3 w3 v3 H3 x3 s3 r3 p3 => ?_⟩
    unfold fGet at p3
    split at p3
    · rename_i k hk
      obtain ⟨⟨ts, rfl⟩, hn, hd⟩ := keyT_ok hk
      have r2' := Rep.mono x3.le _ _ (r2.up.tupR s2)
      obtain ⟨b, vs, e, _⟩ := r2.up.tup s2
      subst e
      have dc3 : DC g w3 ks ds xs := (show DC g w1 ks ds xs from dc).mono (x2.le.trans x3.le)
      refine ⟨_, _, xs, b, k, rfl, rfl, s3.rb.sub _ _ ((x2.le.trans x3.le).P _ _ hP), dc3.keys s3.rb.sub, ⟨w3, _, s3.rb.sub, r2', hn⟩, hd, ?_⟩
      rcases dAt_rel (k := k) dc3.1 dc3.2.2 with ⟨e1, e2⟩ | ⟨d', v', e1, e2, rr⟩
      · rw [e2]; rw [e1] at p3; exact p3.nowR s3 r3
      · rw [e2]; rw [e1] at p3; exact p3.nowR s3 rr
    · exact p3.elim
  · exact p1.elim
end
end Hf

set_option Elab.async false
set_option linter.all false
set_option maxRecDepth 100000
set_option maxHeartbeats 4000000
namespace Hf
open PySem PySem.Spec PyProof.Rows L2

/-! ### {k: v for ..}, the keys tuples: turned from the library's rule for keys that are whole numbers or texts -/
section
variable {X : Cx}
def tDcK (g0 : Gs) (wi : TI) (gt : TG) (tt : TT) (tk tv : TE) (vs : List Nat) : TE := fun σ H Q => wi σ H fun J G1 => ∀ D, G1 D = none → ∃ W : Nat → Nat → Hp → Prop, (∃ m, W 0 m (upd G1 D (dctO g0 D []))) ∧ ∀ i m H, W i m H →
  (J.stop i H ∧ Q (.ref D) H) ∨ (J.go i H ∧ ∃ Nx : Hp → Prop, (∀ H', Nx H' → ∃ m', m' < m ∧ W (i + 1) m' H') ∧ ∀ x H', J.yld i H x H' → gt x (wipe σ vs) H' fun τ2 G2 => wipe τ2 vs = wipe σ vs ∧ tt τ2 G2 fun b G3 =>
    if b = true then tk τ2 G3 fun y G4 => tv τ2 G4 fun z G5 => ∃ xs k b, y = .ref b ∧ G5 D = some (dctO g0 D xs) ∧ KeysH g0 G5 xs ∧ KeyH g0 G5 k b ∧ k.depth ≤ 8 ∧ xs.length < sizeLine ∧ Nx (upd G5 D (dctO g0 D (stX xs k b z))) else Nx G3)
theorem dk_core {pins : List (Addr × Obj)} {s : Shared} {σ : L2.St} {H : Hp} {Q : VK} {ke ve tg iter : Expr} {ifs : List Expr} {scope : Scope} {mine : List (Str × Nat)} {pos pos2 : Pos} {g0 : Gs} {wi : TI} {gt : TG} {tt : TT} {tk tv : TE} {use : Option (Value → Sem Unit)} {Qf : Value → Shared → Prop}
    (ok0 : Ok g0 X) (hc : X.calm = true) (hN : X.N.Nodup) (I : Inv X pins σ H s) (hi : PI X tg iter wi) (ok : BlkOk X.N X.env.scope scope mine)
    (hg : ∀ (s : Shared) (H : Hp) (C : Addr) (cl : List (Str × Addr)) (fp : List Addr), PG (X.blk s H scope (compEnvC scope cl C X.env) fp) tg gt) (ht : ∀ (s : Shared) (H : Hp) (C : Addr) (cl : List (Str × Addr)) (fp : List Addr), PTs (X.blk s H scope (compEnvC scope cl C X.env) fp) ifs tt)
    (hk : ∀ (s : Shared) (H : Hp) (C : Addr) (cl : List (Str × Addr)) (fp : List Addr), PE (X.blk s H scope (compEnvC scope cl C X.env) fp) ke tk)
    (he : ∀ (s : Shared) (H : Hp) (C : Addr) (cl : List (Str × Addr)) (fp : List Addr), PE (X.blk s H scope (compEnvC scope cl C X.env) fp) ve tv) (hs : ∀ x, foldedSetIterable iter X.env x = pure x)
    (h : tDcK g0 wi gt tt tk tv (mine.map (·.2)) σ H Q)
    (hRR : ∀ D C s' m H', Inv X pins σ H' s' → Q (.ref D) H' → s'.heap.Ns C m → FpOk X pins H' C → compPost (model X.prog X.w) X.A X.xe use Qf (.ref D) C (.ok .next) s') :
    wpAny (model X.prog X.w) X.A (comprehension (.DictComp ke ve [⟨tg, iter, ifs, 0⟩] scope pos) scope X.env pos2 newDict false (eval iter X.env) use) Qf X.xe s := by
  have hfree : ∀ y ∈ scope.names, y.2 = .free → ∃ c, X.env.cells.lookup y.1 = some c := fun y hy e => by
    rcases ok.free y hy e with k | k
    · exact I.ok.has _ (.inl k)
    · exact I.ok.has _ (.inr k)
  refine wpAny_comprehension_free (use := use) rfl hs (closure_ok hfree) ok.kind (fun y hy e => by rw [ok.uniq y hy, e])
    (thn (hi.run pins s σ H _ I h) fun xv u1 hx => thn hx fun itv u2 hh2 => ?_)
  obtain ⟨it, fp, tn, J, G2, e, J2, T, stt2, ff2, q⟩ := hh2
  subst e
  refine wpAny_newObj_type (newEnv_comp ?_)
  generalize hD : u2.heap.objs.size = D
  have hEn : G2 D = none := J2.hok.fresh (Nat.le_of_eq hD)
  obtain ⟨W, ⟨mm0, ww0⟩, step1⟩ := q D hEn
  -- the new list
  generalize hv3 : ({ u2 with heap := u2.heap.push { cls := .type "dict", data := .dict #[] } } : Shared) = u3
  have J3 : Inv X pins σ (upd G2 D (dctO g0 D [])) u3 := by
    rw [← hv3]
    refine J2.laid (t' := u2.toks) (fun b o e => Heap.get?_push_of_some _ e) (Nat.le_of_eq hD) ?_
    rw [← hD]
    exact dct_new ok0 u2.heap J2.big
  have hh3 : u3.heap = u2.heap.push { cls := .type "dict", data := .dict #[] } := by rw [← hv3]
  have sz : ∀ b ∈ fp, b < u2.heap.objs.size := fun b hb => by
    obtain ⟨o, e, _⟩ := T.obj _ _ stt2 b hb
    exact Heap.lt_size e
  have ff3 : ∀ b ∈ fp, FpOk X pins (upd G2 D (dctO g0 D [])) b ∧ b < u3.heap.objs.size := fun b hb => by
    have hlt := sz b hb
    refine ⟨⟨?_, (ff2 b hb).2⟩, by rw [hh3, Heap.size_push]; exact Nat.lt_succ_of_lt hlt⟩
    rw [upd_ne (by rw [← hD]; exact Nat.ne_of_lt hlt)]
    exact (ff2 b hb).1
  have stt3 : tn 0 u3.heap := T.keep _ _ _ stt2 fun b _ o e => by rw [hh3]; exact Heap.get?_push_of_some _ e
  have J4 := block_start J3 ok hN ff3
  have pg := hg u3 (upd G2 D (dctO g0 D [])) u3.heap.objs.size (cellsFrom (u3.heap.objs.size + 1) scope.names (cloFrom X.env.cells scope.names [])) fp
  have pt := ht u3 (upd G2 D (dctO g0 D [])) u3.heap.objs.size (cellsFrom (u3.heap.objs.size + 1) scope.names (cloFrom X.env.cells scope.names [])) fp
  have pk := hk u3 (upd G2 D (dctO g0 D [])) u3.heap.objs.size (cellsFrom (u3.heap.objs.size + 1) scope.names (cloFrom X.env.cells scope.names [])) fp
  have pe := he u3 (upd G2 D (dctO g0 D [])) u3.heap.objs.size (cellsFrom (u3.heap.objs.size + 1) scope.names (cloFrom X.env.cells scope.names [])) fp
  show codeAny _ _ (.compStart (.DictComp ke ve [⟨tg, iter, ifs, 0⟩] scope pos) 0 (.ref it) (.ref D) (compEnvC scope (cellsFrom (u3.heap.objs.size + 1) scope.names (cloFrom X.env.cells scope.names [])) u3.heap.objs.size X.env)) (compPost (model X.prog X.w) X.A X.xe use Qf (.ref D) u3.heap.objs.size) { u3 with heap := pushCells (u3.heap.push { cls := .type "dict", data := .dict #[] }) scope.names }
  have nofp : ∀ b ∈ fp, (upd G2 D (dctO g0 D [])) b = none := fun b hb => (ff3 b hb).1.1
  generalize hce : compEnvC scope (cellsFrom (u3.heap.objs.size + 1) scope.names (cloFrom X.env.cells scope.names [])) u3.heap.objs.size X.env = ce at J4 pg pt pk pe ⊢
  have cL : ce.locals = u3.heap.objs.size := by subst hce; rfl
  generalize hG3 : upd G2 D (dctO g0 D []) = G3 at J3 J4 pg pt pk pe ww0 nofp ff3
  generalize hv4 : ({ u3 with heap := pushCells (u3.heap.push { cls := .type "dict", data := .dict #[] }) scope.names } : Shared) = u4 at J4 ⊢
  have stt4 : tn 0 u4.heap := T.keep _ _ _ stt3 fun b _ o e => by rw [← hv4]; exact pushCells_keeps _ _ _ _ (Heap.get?_push_of_some _ e)
  have fpst : ∀ {σ' : L2.St} {H' : Hp} {s' : Shared}, Inv (X.blk u3 G3 scope ce fp) [] σ' H' s' → (∀ b ∈ fp, H' b = none) → ∀ b ∈ fp, FpOk (X.blk u3 G3 scope ce fp) [] H' b := fun {σ' H' s'} I' hn b hb =>
    ⟨hn b hb, (I'.ok.exf b hb).1, I'.ok.exfs b hb, .inl hb, fun x c e => (I'.ok.exf b hb).2 x c e, fun p hp => absurd (show p ∈ ([] : List (Addr × Obj)) ++ [] from hp) (by simp)⟩
  have loop : codeAny (model X.prog X.w) X.A (.compLoop (.DictComp ke ve [⟨tg, iter, ifs, 0⟩] scope pos) 0 (.ref it) (.ref D) ce) (compPost (model X.prog X.w) X.A X.xe use Qf (.ref D) u3.heap.objs.size) u4 := by
    refine compLoop_anyD (fun n s' => ∃ i H', Inv (X.blk u3 G3 scope ce fp) [] (wipe σ (mine.map (·.2))) H' s' ∧ tn i s'.heap ∧ (∀ b ∈ fp, H' b = none) ∧ W i n H') ?_ mm0 ⟨0, G3, J4, stt4, nofp, ww0⟩
    rintro n u5 ⟨i, G5, J5, stt5, nn5, ww5⟩
    rcases step1 i n G5 ww5 with ⟨stop, qq⟩ | ⟨go, Nx, hNn, step2⟩
    · have td := T.done (X.blk u3 G3 scope ce fp) rfl rfl rfl hc i [] u5 _ G5 (fun _ _ => False) J5 (fpst J5 nn5) stt5 stop
      refine thnF td fun r u6 ⟨hr, J6⟩ => ?_
      subst hr
      -- back in the def's context
      have J7 : Inv X pins σ G5 u6 := J3.call' (ch := fp) J6.os J6.base J6.hok J6.bare fun b hb => ⟨(ff3 b hb).1.2.2.2.1, (ff3 b hb).1.2.1, (ff3 b hb).1.2.2.2.2.1, (ff3 b hb).1.2.2.2.2.2⟩
      have nC : G5 u3.heap.objs.size = none := by
        have z : G5 ce.locals = none := J6.free
        rw [cL] at z
        exact z
      obtain ⟨m, hn, _⟩ := J6.loc
      have hn : u6.heap.Ns ce.locals m := hn
      rw [cL] at hn
      exact hRR D u3.heap.objs.size u6 m G5 J7 qq hn (J3.fpOk (Nat.le_refl _) nC)
    · have ti := T.item (X.blk u3 G3 scope ce fp) rfl rfl rfl hc i [] u5 _ G5 (fun _ _ => False) J5 (fpst J5 nn5) stt5 go
      refine thnF ti fun r u6 ⟨u, hr, hh6⟩ => ?_
      subst hr
      refine thnF hh6 fun _ u7 ⟨x, G7, J7, rr7, yy7, stt7, nn7⟩ => ?_
      have I7' := J7.pinned (fpst J7 nn7) (T.obj _ _ stt7)
      refine thnF (pg.run _ u7 _ G7 x u _ I7' rr7 (step2 x G7 yy7)) fun _ u8 ⟨τ8, G8, J8, hx8, p8⟩ => ?_
      refine thnF (pt.run _ u8 τ8 G8 _ J8 p8) fun b u9 ⟨G9, J9, p9⟩ => ?_
      -- the turn's end
      have fin : ∀ {s' : Shared} {H' : Hp}, Inv (X.blk u3 G3 scope ce fp) ([] ++ pinsAt fp u7.heap) τ8 H' s' → Nx H' → ∃ m, m < n ∧ ∃ i H', Inv (X.blk u3 G3 scope ce fp) [] (wipe σ (mine.map (·.2))) H' s' ∧ tn i s'.heap ∧ (∀ b ∈ fp, H' b = none) ∧ W i m H' := fun {s' H'} I' nx => by
        obtain ⟨m', hm, w'⟩ := hNn H' nx
        have pin' : ∀ b ∈ fp, ∀ o, u7.heap.get? b = some o → s'.heap.get? b = some o ∧ H' b = none := fun b hb o e =>
          let z := I'.pin (b, o) (List.mem_append_right _ (List.mem_append_right _ (mem_pinsAt hb e)))
          ⟨z.1, z.2.1⟩
        have hl : (wipe σ (mine.map (·.2))).length = τ8.length := by rw [← hx8, wipe_length]
        refine ⟨m', hm, i + 1, H', (I'.unpinned (pins := [])).weak hl (fun j v e => ?_), T.keep _ _ _ stt7 fun b hb o e => (pin' b hb o e).1, fun b hb => ?_, w'⟩
        · rw [← hx8] at e
          exact (wipe_some e).1
        · obtain ⟨o, e, _⟩ := T.obj _ _ stt7 b hb
          exact (pin' b hb o e).2
      cases b with
      | false =>
        simp only [Bool.false_eq_true, if_false] at p9 ⊢
        exact fin J9 p9
      | true =>
        simp only [if_true] at p9 ⊢
        refine thnF (pk.run _ u9 τ8 G9 _ J9 p9) fun z u10 ⟨yk, G10, J10, rr10, p10⟩ => ?_
        refine thnF (pe.run _ u10 τ8 G10 _ J10 p10) fun z2 u11 ⟨yv, G11, J11, rr11, xs, k, b, ek, hE11, kh, kb, hdp, hy11, nx⟩ => ?_
        subst ek
        cases rr10
        exact d_setK (X := X.blk u3 G3 scope ce fp) J11 (ok0.blk u3 G3 scope ce fp) hE11 kh kb hdp hy11 rr11 fun u12 J12 => fin J12 nx
  exact codeAny_compStart_dict loop (T.self X.A 0 _ _ _ stt4 loop)
/-- as a value -/
theorem pe_dcK {ke ve tg iter : Expr} {ifs : List Expr} {scope : Scope} {mine : List (Str × Nat)} {pos : Pos} {g0 : Gs} {wi : TI} {gt : TG} {tt : TT} {tk tv : TE} (ok0 : Ok g0 X) (hc : X.calm = true) (hN : X.N.Nodup) (hi : PI X tg iter wi) (ok : BlkOk X.N X.env.scope scope mine)
    (hg : ∀ (s : Shared) (H : Hp) (C : Addr) (cl : List (Str × Addr)) (fp : List Addr), PG (X.blk s H scope (compEnvC scope cl C X.env) fp) tg gt) (ht : ∀ (s : Shared) (H : Hp) (C : Addr) (cl : List (Str × Addr)) (fp : List Addr), PTs (X.blk s H scope (compEnvC scope cl C X.env) fp) ifs tt)
    (hk : ∀ (s : Shared) (H : Hp) (C : Addr) (cl : List (Str × Addr)) (fp : List Addr), PE (X.blk s H scope (compEnvC scope cl C X.env) fp) ke tk)
    (he : ∀ (s : Shared) (H : Hp) (C : Addr) (cl : List (Str × Addr)) (fp : List Addr), PE (X.blk s H scope (compEnvC scope cl C X.env) fp) ve tv) (hs : ∀ x, foldedSetIterable iter X.env x = pure x := by intro _; rfl) :
    PE X (.DictComp ke ve [⟨tg, iter, ifs, 0⟩] scope pos) (tDcK g0 wi gt tt tk tv (mine.map (·.2))) := by
  refine ⟨fun pins s σ H Q I h => ?_⟩
  rw [arm_eval_DictComp]
  refine dk_core ok0 hc hN I hi ok hg ht hk he hs h fun D C s' m H' I' q hn f => ⟨m, hn, fun h'' sb => ?_⟩
  obtain ⟨ff0, ff1, ff2, ff3, ff4, ff5⟩ := f
  exact ⟨.ref D, H', I'.turned (t' := s'.toks) (fun b o hb e => (sb.2 b hb).trans e) ff0 ff1 ff3 ff4 ff5, rfl, q⟩
end

def dcL (t : Tg) (mt : Et) (mk mv : Ev) (σ : Sl) : List D → List D × List D → Bs → Rs (List D × List D)
  | [], acc, B => .ok acc B
  | d :: ds, acc, B => match t d σ with
    | some σ' => (mt σ' B).bind fun k B1 => if k then (mk σ' B1).bind fun kd B2 => (mv σ' B2).bind fun vd B3 => (match dPut acc.1 acc.2 kd vd with
        | some acc' => dcL t mt mk mv σ ds acc' B3
        | Option.none => .bad) else dcL t mt mk mv σ ds acc B1
    | Option.none => .bad
def mDc (vs : List Nat) (t : Tg) (mi : Ei) (mt : Et) (mk mv : Ev) : Ev := fun σ B => (mi σ B).bind fun ds B1 => (noX (dcL t mt mk mv (wipeI σ vs) ds ([], []) B1)).bind fun r B2 => .ok (.dct r.1 r.2) B2
theorem dcL_cons {t : Tg} {mt : Et} {mk mv : Ev} {σ : Sl} {d : D} {ds : List D} {acc r : List D × List D} {B B' : Bs} (h : dcL t mt mk mv σ (d :: ds) acc B = .ok r B') :
    ∃ σ' k B1, t d σ = some σ' ∧ mt σ' B = .ok k B1 ∧ ((k = true ∧ ∃ kd B2 vd B3 acc', mk σ' B1 = .ok kd B2 ∧ mv σ' B2 = .ok vd B3 ∧ dPut acc.1 acc.2 kd vd = some acc' ∧ dcL t mt mk mv σ ds acc' B3 = .ok r B') ∨ (k = false ∧ dcL t mt mk mv σ ds acc B1 = .ok r B')) := by
  simp only [dcL] at h
  cases e1 : t d σ with
  | none => rw [e1] at h; cases h
  | some σ' =>
    rw [e1] at h
    simp only at h
    cases e2 : mt σ' B with
    | bad => rw [e2] at h; cases h
    | exc _ _ _ => rw [e2] at h; cases h
    | ok k B1 =>
      rw [e2] at h
      simp only [Rs.bind] at h
      refine ⟨σ', k, B1, rfl, e2, ?_⟩
      cases k with
      | false => exact .inr ⟨rfl, h⟩
      | true =>
        simp only [if_true] at h
        cases e3 : mk σ' B1 with
        | bad => rw [e3] at h; cases h
        | exc _ _ _ => rw [e3] at h; cases h
        | ok kd B2 =>
          rw [e3] at h
          simp only at h
          cases e4 : mv σ' B2 with
          | bad => rw [e4] at h; cases h
          | exc _ _ _ => rw [e4] at h; cases h
          | ok vd B3 =>
            rw [e4] at h
            simp only at h
            cases e5 : dPut acc.1 acc.2 kd vd with
            | none => rw [e5] at h; cases h
            | some acc' =>
              rw [e5] at h
              exact .inl ⟨rfl, kd, B2, vd, B3, acc', rfl, e4, e5, h⟩
section
variable {g : Gs} {E : XK} {w0 w : Wd} {H H0 : Hp} {σI : Sl} {σ : L2.St} {B : Bs} {X : Cx}
def DcInv (g : Gs) (H0 : Hp) (w : Wd) (H : Hp) (w1 : Wd) (σI : Sl) (σ : L2.St) (vs : List Nat) (t : Tg) (mt : Et) (mk mv : Ev) (ds : List D) (r : List D × List D) (B' : Bs) (Da : Addr) (i : Nat) (H' : Hp) : Prop :=
  ∃ w' B2 acc xs, Ext w H w' H' ∧ Le w1 w' ∧ S0 g H0 w' σI B2 σ H' ∧ H' Da = some (dctO g Da xs) ∧ DC g w' acc.1 acc.2 xs ∧ w'.P Da = Option.none ∧ (∀ n, w'.io n ≠ some Da) ∧ (∀ (j : Nat) (e : D), σI[j]? = some (some (true, e)) → σ[j]? ≠ some (some (V.ref Da))) ∧
    dcL t mt mk mv (wipeI σI vs) (ds.drop i) acc B2 = .ok r B'
theorem dc_at {t : Tg} {mi : Ei} {mt : Et} {mk mv : Ev} {sl vs : List Nat} {wi : TI} (hwi : wi = tIi g E H0 mi) (hsl : ∀ j ∈ sl, j ∈ vs) {Q : VK} (s : S0 g H0 w σI B σ H) (p : PostE g E w H σI σ false Q (mDc vs t mi mt mk mv σI B)) :
    tDcK g wi (tG g H0 t sl) (tIt g E0 H0 mt) (tI g E0 H0 false mk) (tI g E0 H0 false mv) vs σ H Q := by
  subst hwi
  refine ⟨w, σI, B, s, ?_⟩
  unfold mDc at p
  cases q : mi σI B with
  | bad => rw [q] at p; exact p
  | exc c y B1 => rw [q] at p; exact p
  | ok ds B1 =>
    rw [q] at p
    simp only [Rs.bind] at p
    intro w1 J H1 x1 rb1 it D hD
    have s1 := s.step x1 rb1
    cases q2 : dcL t mt mk mv (wipeI σI vs) ds ([], []) B1 with
    | bad => rw [q2] at p; exact p.elim
    | exc c y B1 => rw [q2] at p; exact p.elim
    | ok r B' =>
      rw [q2] at p
      simp only [noX] at p
      have nD : H D = Option.none := Classical.byContradiction fun z => x1.there D z hD
      have start : DcInv g H0 w H w1 σI σ vs t mt mk mv ds r B' D 0 (upd H1 D (dctO g D [])) :=
        ⟨w1, B1, ([], []), [], x1.mut nD, Le.refl _, s1.other (s1.rb.fresh_P hD) (s1.rb.fresh_io hD) (fun j e hj => s1.own_ne hj hD) (fun u q => by rw [hD] at q; cases q), upd_same, DC.nil, s1.rb.fresh_P hD, s1.rb.fresh_io hD, fun j e hj => s1.own_ne hj hD, by simpa using q2⟩
      refine ⟨fun i m H' => m = ds.length - i ∧ i ≤ ds.length ∧ DcInv g H0 w H w1 σI σ vs t mt mk mv ds r B' D i H', ⟨ds.length, by simp, Nat.zero_le _, start⟩, ?_⟩
      rintro i m H' ⟨rfl, hi, w', B2, acc, xs, x', l', s', eD, dc, np, nb, nw, q3⟩
      by_cases hlt : i < ds.length
      · refine .inr ⟨it.go i H' hlt (l'.P.trans s'.rb.sub), DcInv g H0 w H w1 σI σ vs t mt mk mv ds r B' D (i + 1), fun H2 q => ⟨ds.length - (i + 1), by omega, rfl, hlt, q⟩, fun y H2 yl => ?_⟩
        obtain ⟨w2, x2, rb2, r2⟩ := it.yld i H' y H2 ds[i] w' B2 (List.getElem?_eq_getElem hlt) l' s'.rb yl
        have s2 := s'.step x2 rb2
        rw [List.drop_eq_getElem_cons hlt] at q3
        obtain ⟨σ', k, B3, et, em, q4⟩ := dcL_cons q3
        refine ⟨w2, ds[i], wipeI σI vs, B2, σ', s2.wipe vs, r2, et, fun σ2 s3 hl hk => ⟨(wipe_eq hl fun j hj => hk j fun z => hj (hsl j z)).trans (wipe_wipe _ _), ?_⟩⟩
        have keep : ∀ {wa wb : Wd} {Ha Hb : Hp}, Ext wa Ha wb Hb → Same wb.P Hb → Ha D = some (dctO g D xs) → wa.P D = Option.none → (∀ n, wa.io n ≠ some D) → Hb D = some (dctO g D xs) ∧ wb.P D = Option.none ∧ ∀ n, wb.io n ≠ some D := by
          intro wa wb Ha Hb x sb e n1 n2
          refine ⟨x.keep D _ e n2 (nt_dct _ _ _).t, ?_, fun n z => ?_⟩
          · cases q : wb.P D with
            | none => rfl
            | some u =>
              rcases x.pf D u q with z | z | ⟨qq, z⟩
              · rw [n1] at z; cases z
              · rw [e] at z; cases z
              · have y := sb D u q
                rw [x.keep D _ e n2 (nt_dct _ _ _).t] at y; cases y
                exact ((nt_dct _ _ _).c _ _ z).elim
          · rcases x.iof n D z with z | z
            · exact n2 n z
            · rw [e] at z; cases z
        obtain ⟨eD2, np2, nb2⟩ := keep x2 rb2.sub eD np nb
        refine tIt_go s3 (fun c x B1 q => by rw [em] at q; cases q) (by rw [em]; simp) fun k' B4 q5 w3 H3 x3 s4 => ?_
        rw [em] at q5; cases q5
        obtain ⟨eD3, np3, nb3⟩ := keep x3 s4.rb.sub eD2 np2 nb2
        have sO := (s2.step x3 s4.rb)
        rcases q4 with ⟨rfl, kd, B5, vd, B6, acc', e1, e2, e3, e4⟩ | ⟨rfl, e2⟩
        · rw [if_pos rfl]
          refine tI_go s4 (fun c x B1 q => by rw [e1] at q; cases q) (by rw [e1]; simp) fun d B7 q6 w4 v H4 x4 s5 r4 => ?_
          rw [e1] at q6; cases q6
          obtain ⟨eD4, np4, nb4⟩ := keep x4 s5.rb.sub eD3 np3 nb3
          refine tI_go s5 (fun c x B1 q => by rw [e2] at q; cases q) (by rw [e2]; simp) fun d' B8 q7 w5 v' H5 x5 s6 r5 => ?_
          rw [e2] at q7; cases q7
          obtain ⟨eD5, np5, nb5⟩ := keep x5 s6.rb.sub eD4 np4 nb4
          have hk : ∃ k, keyT kd = some k := by
            unfold dPut at e3
            cases hk : keyT kd with
            | none => rw [hk] at e3; cases e3
            | some k => exact ⟨k, rfl⟩
          obtain ⟨k, hk⟩ := hk
          obtain ⟨⟨ts, rfl⟩, hn, hd⟩ := keyT_ok hk
          have r4' : Rep g w5 (.tup ts) v := Rep.mono x5.le _ _ r4
          have rr := r4'
          simp only [Rep] at rr
          obtain ⟨b, _, rfl, _⟩ := rr
          have r5' : Rep g w5 vd v' := r5
          have l5 : Le w' w5 := ((x2.le.trans x3.le).trans x4.le).trans x5.le
          have dc5 := dc.mono l5
          obtain ⟨dc6, hz⟩ := dc5.put r4' r5' hk e3
          exact ⟨xs, k, b, rfl, eD5, dc5.keys s6.rb.sub, ⟨w5, _, s6.rb.sub, r4', hn⟩, hd, hz, w5, B6, acc', _, ((((x'.trans x2).trans x3).trans x4).trans x5).mut nD, l'.trans l5, ((sO.step x4 s5.rb).step x5 s6.rb).other np5 nb5 nw (fun u q => by rw [eD5] at q; cases q; exact nt_dct _ _ _), upd_same, dc6, np5, nb5, nw, e4⟩
        · rw [if_neg (by simp)]
          exact ⟨w3, B3, acc, xs, (x'.trans x2).trans x3, (l'.trans x2.le).trans x3.le, sO, eD3, dc.mono (x2.le.trans x3.le), np3, nb3, nw, e2⟩
      · rw [List.drop_eq_nil_of_le (by omega)] at q3
        simp only [dcL] at q3
        cases q3
        obtain ⟨xx, rb'⟩ := reg_ext x' s'.rb eD nD np nb (nt_dct _ _ _)
        refine .inl ⟨it.stop i H' (by omega) (l'.P.trans s'.rb.sub), p (regW w' D (dctO g D xs)) _ H' xx rb' ?_⟩
        have dc' := dc.mono (regLe w' (o := dctO g D xs) np)
        simp only [RepB, Rep]
        exact ⟨D, xs, rfl, upd_same, dc'⟩
variable {kx vx tg iter : Expr} {ifs : List Expr} {scope : Scope} {own : List (Str × Nat)} {pos : Pos} {t : Tg} {mi : Ei} {mt : Et} {mk mv : Ev} {sl : List Nat}
theorem s_dc (c : Ok g X) (hN : X.N.Nodup) (hi : SndI g E H0 X tg iter mi) (ok : BlkOk X.N X.env.scope scope own) (hsl : ∀ j ∈ sl, j ∈ own.map (·.2))
    (hg : ∀ (s : Shared) (H : Hp) (C : Addr) (cl : List (Str × Addr)) (fp : List Addr), SndG g H0 (X.blk s H scope (compEnvC scope cl C X.env) fp) tg t sl) (ht : ∀ (s : Shared) (H : Hp) (C : Addr) (cl : List (Str × Addr)) (fp : List Addr), SndTs g E0 H0 (X.blk s H scope (compEnvC scope cl C X.env) fp) ifs mt)
    (hk : ∀ (s : Shared) (H : Hp) (C : Addr) (cl : List (Str × Addr)) (fp : List Addr), Snd g E0 H0 (X.blk s H scope (compEnvC scope cl C X.env) fp) false kx mk)
    (he : ∀ (s : Shared) (H : Hp) (C : Addr) (cl : List (Str × Addr)) (fp : List Addr), Snd g E0 H0 (X.blk s H scope (compEnvC scope cl C X.env) fp) false vx mv) (hs : ∀ x, foldedSetIterable iter X.env x = pure x := by intro _; rfl) :
    Snd g E H0 X false (.DictComp kx vx [⟨tg, iter, ifs, 0⟩] scope pos) (mDc (own.map (·.2)) t mi mt mk mv) :=
  weak (pe_dcK c c.calm hN hi ok hg ht hk he hs) fun σ H Q ⟨w, σI, B, s, p⟩ => dc_at rfl hsl s p
end
end Hf

set_option Elab.async false
set_option linter.all false
set_option maxRecDepth 100000
set_option maxHeartbeats 4000000
namespace Hf
open PySem PySem.Spec PyProof.Rows L2

/-! ### special methods of one's own classes -/
section
variable {X : Cx} {CX : CXT} {k : Nat} {fa : Addr} {sp : Sp} {E : XK} {pins : List (Addr × Obj)} {σ : L2.St} {H : Hp} {s : Shared} {Q : VK} {us : List Value} {vs : List V} {A' : Around}
theorem run_at (F : FnR X.prog X.w X.K X.mg X.base CX k fa sp) (hr : Room k A') (e0 : Env0 X.prog X.w X.K X.mg X.base A' X.stack s H) (hx : Passes CX X E) (I : Inv X pins σ H s) (r : Vals vs us) (h : sp vs H Q E) :
    wpAny (model X.prog X.w) A' (call (.ref fa) us) (EP X pins σ Q) X.xe s := by
  refine wpAny_call (codeAny_mono (F A' X.stack s H us vs Q E hr e0 r h) fun r s' hq => ?_)
  cases r with
  | error e => exact hx pins σ H s e s' I hq
  | ok fl =>
    cases fl with
    | ret u => exact I.after hq
    | next | brk | cont => exact False.elim hq
theorem run_nox {E' : Value → Shared → Prop} (F : FnR X.prog X.w X.K X.mg X.base (L2N.CX X.prog X.w) k fa sp) (hr : Room k A') (e0 : Env0 X.prog X.w X.K X.mg X.base A' X.stack s H) (I : Inv X pins σ H s) (r : Vals vs us) (h : sp vs H Q E0) :
    wpAny (model X.prog X.w) A' (call (.ref fa) us) (EP X pins σ Q) E' s := by
  refine wpAny_call (codeAny_mono (F A' X.stack s H us vs Q E0 hr e0 r h) fun r s' hq => ?_)
  cases r with
  | error e =>
    obtain ⟨_, _, _, _, _, _, _, _, _, _, _, _, z⟩ := hq
    exact z.elim
  | ok fl =>
    cases fl with
    | ret u => exact I.after hq
    | next | brk | cont => exact False.elim hq
end
/-- c has the special method n, a def that means f -/
def Dun (g : Gs) (k c : Nat) (n : Str) (f : Fn) : Prop := ∃ fa, FnR g.prog g.w g.K g.mg g.base (L2N.CX g.prog g.w) k fa (spF g f) ∧ PySem.W.findIn g.K (.ref (g.cl c)) n = some (some (.ref fa)) ∧ PySem.W.isFn g.K (.ref fa) = true ∧ g.has c = true
theorem zip_none {α β : Type} [BEq α] [LawfulBEq α] {n : α} : ∀ {l : List α} (_ : n ∉ l) (vs : List β), (l.zip vs).lookup n = Option.none
  | [], _, vs => by simp
  | a :: l, h, [] => by simp
  | a :: l, h, v :: vs => by
    rw [List.mem_cons, not_or] at h
    rw [List.zip_cons_cons, List.lookup_cons]
    have : (n == a) = false := beq_eq_false_iff_ne.mpr h.1
    rw [this]
    exact zip_none h.2 vs
section
variable {g : Gs} {E : XK} {w0 w : Wd} {H0 H : Hp} {X : Cx} {o e a b : Expr} {es : List Expr} {m ma mb : Ev} {ms : Evs} {pos p p1 p2 apos : Pos} {x n : Str} {f : Fn} {lv k c : Nat} {dfl : List D} {σI : Sl} {σ : L2.St} {B : Bs} {Q : VK} {b1 b2 bo : Bool} {i : Nat}
/-- an instance, where it stands -/
theorem inst_at {pins : List (Addr × Obj)} {σ : L2.St} {H : Hp} {s : Shared} {a C dx : Addr} {fs : List (Str × V)} (I : Inv X pins σ H s) (h : H a = some (.ins C dx fs)) : ∃ od, PySem.W.InstAt s.heap a (PySem.W.instObj C dx) C (some od) := by
  obtain ⟨mA, O, _⟩ := ins_get I.hok h
  obtain ⟨od, J, _⟩ := O.look
  exact ⟨od, J⟩
def lenOk (r : Rs D) : Rs D := match r with
  | .ok (.int i) B => if 0 ≤ i ∧ i < 2 ^ 63 then .ok (.int i) B else .bad
  | _ => .bad
/-- len(x), also of an own instance -/
def fLenA (c : Nat) (f : Fn) : D → Bs → Rs D
  | .inst c' ds, B => if c' = c then lenOk (f [.inst c' ds] B) else .bad
  | d, B => fLen d B
def rLenC (g : Gs) (c : Nat) (f : Fn) : List V → Hp → VK → Prop := fun xs H Q => ∃ a dx fs, xs = [.ref a] ∧ H a = some (.ins (g.cl c) dx fs) ∧ spF g f [.ref a] H (fun v H' => ∃ i, v = .int i ∧ 0 ≤ i ∧ i < 2 ^ 63 ∧ Q (.int i) H') E0
theorem call_lenC (ok : OkC g E lv X) (N : Dun g k c "__len__" f) (hk : k + 1 ≤ lv) : CallR X (.builtin "len") (rLenC g c f) := by
  intro pins s σ H xs us Q I r h
  obtain ⟨a, dx, fs, rfl, ha, h⟩ := h
  obtain ⟨u, rfl, ru⟩ := vals1 r
  cases ru
  obtain ⟨fa, F, hf, hfn, hc⟩ := N
  obtain ⟨prog, w', K, mg, base, A, N, s_0, H_0, env, outer, stack, ex, fn, calm, pn, xe⟩ := X
  obtain ⟨⟨h1, h2, h3, h4, h5, h6, h7, hfx⟩, h8, h9⟩ := ok
  simp only at h1 h2 h5 h6 h7
  subst h1 h2 h5 h6 h7
  obtain ⟨od, J⟩ := inst_at I ha
  have hr := (h8.mono hk).in1
  refine Calls.call_function_entry kind_len plain_len entry_len (args_len1 _) (by
    unfold Builtin.«len»
    refine wpAny_bind (m := oneArg "len" _) (wpAny_pure (wpAny_bind (m := callSpecial? (.ref a) (Str.ofString "__len__")) (PySem.W.special_fn I.kIn J hf (beq_iff_eq.mp hfn) (wpAny_mono (run_nox (E' := _) (us := [.ref a]) (vs := [.ref a]) F hr I.env0.in1 I (.cons rfl .nil) h) (fun r s' hr => ?_) fun _ _ y => y))))
    obtain ⟨v, H', I', rv, i, rfl, h0, h1, q⟩ := hr
    obtain ⟨t, rfl⟩ := rv
    refine wpAny_bind (wpAny_holding (wpAny_pure (wpAny_bind (wpAny_letGo ?_))))
    show wpAny _ _ (if i < 0 then _ else if i ≥ 2 ^ 63 then _ else _) _ _ _
    rw [if_neg (Int.not_lt.mpr h0), if_neg (by omega)]
    exact wpAny_bind (wpAny_mkInt (wpAny_pure ⟨_, rfl, ⟨.int i, H', I'.tok _, ⟨_, rfl⟩, q⟩⟩)))
theorem lenOk_go {d : D} {r : Rs D} (p : PostE g E w H σI σ false Q (lenOk r)) : PostC g E0 w H (fun v H' => ∃ i, v = .int i ∧ 0 ≤ i ∧ i < 2 ^ 63 ∧ Q (.int i) H') r := by
  unfold lenOk at p
  split at p
  · split at p
    · rename_i i B h
      intro w' v H' x rb rr
      simp only [Rep] at rr
      exact ⟨i, rr, h.1, h.2, p w' (.int i) H' x rb (rep_int g w' i)⟩
    · exact p.elim
  · exact p.elim
theorem s_lenA (ok : OkC g E lv X) (N : Dun g k c "__len__" f) (hk : k + 1 ≤ lv) (he : Snd g E H0 X false e m) (hg : Gl X "len" := by rfl) (h1 : starEach (e :: []) X.env = (false, eval e X.env) :: starEach [] X.env := by rfl) :
    Snd g E H0 X false (.Call (.Name "len" p1) [e] [] pos) (m1 (fLenA c f) m) := by
  obtain ⟨r, hc, hr⟩ : One g E H0 X (.builtin "len") fLen := o_len ok.toOk
  refine weak (pe_callB ((call_lenC ok N hk).or hc) hg (nbs ok.toOk) PySem.boot_len (pa_cons he pa_nil h1) (by decide) (by decide) h1 rfl) ?_
  rintro σ H Q ⟨w, σI, B, s, p⟩
  refine tI_bind s p fun d B1 w1 v H1 x1 s1 r1 p1 => ?_
  unfold fLenA at p1
  split at p1
  · rename_i c' ds
    split at p1
    · rename_i hc'
      subst hc'
      obtain ⟨a, dx, vs, rfl, ha, hl, hh, rr⟩ := (RepB.up r1).inst s1
      exact .inl ⟨a, dx, _, rfl, ha, w1, _, B1, s1.rb, Reps.one r1, lenOk_go (d := .none) p1⟩
    · exact p1.elim
  · exact .inr (hr w1 σI B1 σ H1 Q v d s1 r1.up p1)
/-- -x of an own instance -/
def mNegC (c : Nat) (f : Fn) (m : Ev) : Ev := fun σ B => (m σ B).bind fun d B1 => match d with
  | .inst c' ds => if c' = c then f [.inst c' ds] B1 else .bad
  | _ => .bad
def rNegC (g : Gs) (E : XK) (c : Nat) (f : Fn) : V → Hp → VK → Prop := fun x H Q => ∃ a dx fs, x = .ref a ∧ H a = some (.ins (g.cl c) dx fs) ∧ spF g f [.ref a] H Q E
theorem un_negC (ok : OkC g E lv X) (N : Dun g k c "__neg__" f) (hk : k ≤ lv) : UnR X (unaryOp .USub) (rNegC g E c f) := by
  intro pins s σ H x v Q I r h
  obtain ⟨a, dx, fs, rfl, ha, h⟩ := h
  cases r
  obtain ⟨fa, F, hf, hfn, hc⟩ := N
  obtain ⟨prog, w', K, mg, base, A, N, s_0, H_0, env, outer, stack, ex, fn, calm, pn, xe⟩ := X
  obtain ⟨⟨h1, h2, h3, h4, h5, h6, h7, hfx⟩, h8, h9⟩ := ok
  simp only at h1 h2 h5 h6 h7
  subst h1 h2 h5 h6 h7
  obtain ⟨od, J⟩ := inst_at I ha
  unfold unaryOp
  exact wpAny_holding (wpAny_bind (PySem.W.special_fn I.kIn J hf (beq_iff_eq.mp hfn) (wpAny_mono (run_at (us := [.ref a]) (vs := [.ref a]) F (h8.mono hk) I.env0 h9 I (.cons rfl .nil) h) (fun r s' hr => wpAny_pure hr) fun _ _ y => y)))
theorem s_negC (ok : OkC g E lv X) (N : Dun g k c "__neg__" f) (hk : k ≤ lv) (he : Snd g E H0 X false e m) : Snd g E H0 X false (.UnaryOp .USub e pos) (mNegC c f m) := by
  refine weak (pe_un (un_negC ok N hk) he) ?_
  rintro σ H Q ⟨w, σI, B, s, p⟩
  refine tI_bind s p fun d B1 w1 v H1 x1 s1 r1 p1 => ?_
  split at p1
  · rename_i c' ds
    split at p1
    · rename_i hc'
      subst hc'
      obtain ⟨a, dx, vs, rfl, ha, hl, hh, rr⟩ := (RepB.up r1).inst s1
      exact ⟨a, dx, _, rfl, ha, w1, _, B1, s1.rb, Reps.one r1, PostC.of s1 p1⟩
    · exact p1.elim
  · exact p1.elim
/-! ### o.m(e, ..) -/
theorem s_mth (ok : OkC g E lv X) {n : Str} (D : Mth g k c n dfl f) (hk : k ≤ lv) (ho : Snd g E H0 X false o m) (ha : Snds g E H0 X (e :: es) ms) {pl : Sem Bool}
    (hst : starEach (e :: es) X.env = (false, eval e X.env) :: starEach es X.env := by rfl) (hpl : (backTo pos (starEach es X.env)).any (·.1) = false := by rfl)
    (ht : eval (.Call (.Attribute o n apos) (e :: es) [] pos) X.env = (do
      let ov ← eval o X.env
      standAt apos.atName
      let (f, first) ← holding [ov] (getMethod ov n pl)
      callWith pos f first (backTo pos (starEach (e :: es) X.env)) (backToKw pos (keywordEach [] X.env))) := by rfl) :
    Snd g E H0 X false (.Call (.Attribute o n apos) (e :: es) [] pos) (mMth c f dfl m ms) := by
  obtain ⟨fa, fd, ps, dvs, ds, F, hm, b, hd, hr, hn, hc⟩ := D
  have C := ok.fx.cls _ hc
  obtain ⟨prog, w', K, mg, base, A, N, s_0, H_0, env, outer, stack, ex, fn, calm, pn, xe⟩ := X
  obtain ⟨⟨h1, h2, h3, h4, h5, h6, h7, hfx⟩, h8, h9⟩ := ok
  simp only at h1 h2 h5 h6 h7
  subst h1 h2 h5 h6 h7
  refine weak (pe_meth ho C.cls hm F (h8.mono hk) b hd h9 ha hst hpl ht) ?_
  rintro σ H Q ⟨w, σI, B, s, p⟩
  refine tI_bind s p fun d B1 w1 v H1 x1 s1 r1 p1 => ?_
  split at p1
  · rename_i c' es'
    split at p1
    · rename_i hc'
      subst hc'
      obtain ⟨a, dx, vs, rfl, ha, hl, hh, rr⟩ := (RepB.up r1).inst s1
      refine ⟨a, dx, _, rfl, ha, zip_none hn vs, tIs_bind s1 p1 fun ds2 B2 w2 vs2 H2 x2 s2 r2 p2 => ?_⟩
      exact ⟨w2, _, B2, s2.rb, by simp only [Reps]; exact ⟨_, _, rfl, Rep.mono x2.le _ _ r1, Reps.app r2 (hr w2)⟩, PostC.of s2 p2⟩
    · exact p1.elim
  · exact p1.elim
end
end Hf

set_option Elab.async false
set_option linter.all false
set_option maxRecDepth 100000
set_option maxHeartbeats 4000000
namespace Hf
open PySem PySem.Spec PyProof.Rows L2

/-! ### instances are made -/
section
variable {g : Gs} {E : XK} {w w' : Wd} {H H' : Hp} {B : Bs} {m : Option Addr}
theorem Ext.withMe (x : Ext { w with me := m } H w' H') : Ext w H { w' with me := w.me } H' := ⟨⟨x.le.P, x.le.io⟩, x.keep, x.pf, x.iof, x.there, rfl⟩
theorem leMe : Le w { w with me := m } := ⟨Same.refl _, fun _ _ h => h⟩
theorem RB.withMe (rb : RB g w B H) : RB g { w with me := m } B H := rb.keep leMe rfl rb.sub (Same.refl _) rb.np rb.nt
theorem ExcR.withMe {c : Nat} {x : Option D} {cls : Value} {dd : Option Addr} (h : ExcR g w c x cls dd H) : ExcR g { w with me := m } c x cls dd H := by
  unfold ExcR at h ⊢
  refine ⟨h.1, ?_⟩
  cases x with
  | none => exact h.2
  | some d =>
    obtain ⟨a, v, h1, h2, h3⟩ := h.2
    exact ⟨a, v, h1, h2, Rep.mono leMe _ _ h3⟩
end
/-- what is wanted of an __init__'s end -/
def PostN (g : Gs) (E : XK) (x : Addr) (w : Wd) (H : Hp) (Q : VK) : Rs D → Prop
  | .ok d B' => ∀ w' H', Ext w H w' H' → RB g w' B' H' → Rep g w' d (.ref x) → Q .non H'
  | .exc c y B' => ∀ w' cls dd H', Ext w H w' H' → RB g w' B' H' → ExcR g w' c y cls dd H' → E cls dd H'
  | .bad => False
/-- the promise of an __init__: what is made of the arguments -/
def spI (g : Gs) (c : Nat) (f : Fn) : Sp := fun vs H Q E => ∃ x dx ws H1 w ds B, vs = V.ref x :: ws ∧ H = upd (upd H1 dx (.own x)) x (.ins (g.cl c) dx []) ∧ H1 x = Option.none ∧ H1 dx = Option.none ∧ dx ≠ x ∧ RB g w B H1 ∧ Reps g w ds ws ∧ PostN g E x w H1 Q (f ds B)
/-- calls of the class c make instances as f says -/
def Ini (g : Gs) (k c : Nat) (f : Fn) : Prop := ∃ fI, L2.Mk g.K (g.cl c) fI ∧ FnR g.prog g.w g.K g.mg g.base (L2N.CX g.prog g.w) k fI (spI g c f) ∧ g.has c = true
section
variable {g : Gs} {E : XK} {w0 w : Wd} {H0 H : Hp} {X : Cx} {o e a b : Expr} {es : List Expr} {m ma mb : Ev} {ms : Evs} {pos p p1 p2 apos : Pos} {x n : Str} {f : Fn} {lv k c : Nat} {dfl : List D} {σI : Sl} {σ : L2.St} {B : Bs} {Q : VK} {b1 b2 bo : Bool} {i : Nat}
theorem make_go {ds : List D} {ws : List V} (rb : RB g w B H) (r : Reps g w ds ws) (p : PostC g E w H Q (f ds B)) : ∀ x dx, H x = Option.none → H dx = Option.none → dx ≠ x →
    spI g c f (V.ref x :: ws) (upd (upd H dx (.own x)) x (.ins (g.cl c) dx [])) (fun v H2 => v = .non ∧ Q (.ref x) H2) E := by
  intro x dx h1 h2 h3
  refine ⟨x, dx, ws, H, w, ds, B, rfl, rfl, h1, h2, h3, rb, r, ?_⟩
  revert p
  generalize f ds B = q
  intro p
  cases q with
  | ok d B' => exact fun w' H' y rb' rr => ⟨rfl, p w' _ H' y rb' rr⟩
  | exc c y B' => exact p
  | bad => exact p
def mMake (f : Fn) (ms : Evs) : Ev := fun σ B => (ms σ B).bind fun ds B1 => f ds B1
theorem s_make (ok : OkC g E lv X) (N : Ini g k c f) (C : ClsN g c x) (hk : k + 1 ≤ lv) (ha : Snds g E H0 X (e :: es) ms) (hg : Gl X x := by rfl) (hdb : (x == ("__debug__" : Str)) = false := by decide) (he : starEach (e :: es) X.env = (false, eval e X.env) :: starEach es X.env := by rfl) (hpl : (backTo pos (starEach es X.env)).any (·.1) = false := by rfl) :
    Snd g E H0 X false (.Call (.Name x p) (e :: es) [] pos) (mMake f ms) := by
  obtain ⟨fI, M, F, hc⟩ := N
  obtain ⟨prog, w', K, mg, base, A, N, s_0, H_0, env, outer, stack, ex, fn, calm, pn, xe⟩ := X
  obtain ⟨⟨h1, h2, h3, h4, h5, h6, h7, hfx⟩, h8, h9⟩ := ok
  simp only at h1 h2 h5 h6 h7
  subst h1 h2 h5 h6 h7
  refine weak (StX.pe_makeR M F (h8.mono hk) hg C.mg h9 ha hdb he hpl) ?_
  rintro σ H Q ⟨w, σI, B, s, p⟩
  exact tIs_bind s p fun ds B1 w1 vs H1 x1 s1 r1 p1 => make_go s1.rb r1 (PostC.of s1 p1)
/-- C(*e): the items of e -/
def mMakeS (f : Fn) (m : Ev) : Ev := fun σ B => (m σ B).bind fun d B1 => match d with
  | .tup ds => f ds B1
  | .lst ds => f ds B1
  | _ => .bad
theorem pe_makeS {C fI : Addr} {sp : Sp} {te : TE} {sp_ : Pos} (M : L2.Mk X.K C fI) (F : FnR X.prog X.w X.K X.mg X.base (L2N.CX X.prog X.w) k fI sp) (hr : Room (k + 1) X.A) (hx : Passes (L2N.CX X.prog X.w) X E) (he : PE X e te)
    (hst : starEach [.Starred e sp_] X.env = [(true, eval e X.env)]) (pins : List (Addr × Obj)) (s : Shared) (σ : L2.St) (H : Hp) (I : Inv X pins σ H s)
    (h : te σ H fun y H1 => ∃ a xs, y = V.ref a ∧ (SqT X.K H1 a xs ∨ SqL X.K H1 a xs) ∧ ∀ x dx, H1 x = Option.none → H1 dx = Option.none → dx ≠ x → sp (V.ref x :: xs) (upd (upd H1 dx (.own x)) x (.ins C dx [])) (fun v H2 => v = .non ∧ Q (.ref x) H2) E) :
    wpAny (model X.prog X.w) X.A (callWith pos (.ref C) [] (backTo pos (starEach [.Starred e sp_] X.env)) (backToKw pos (keywordEach [] X.env))) (EP X pins σ Q) X.xe s := by
  refine PySem.W.callWith_S (h₀ := X.base) I.ok.mod.kin M.kp (thn (he.run pins s σ H _ I h) fun v s1 ⟨y, H1, I1, ry, a, xs, ey, hxs, q⟩ => ?_) hst
  subst ey
  obtain rfl : v = Value.ref a := ry
  exact StX.star_any I1 hxs fun us s2 I2 rv => ⟨I2.kIn, StX.run_makeR M F hr hx I2 rv q⟩
theorem s_makeS {sp_ : Pos} (ok : OkC g E lv X) (N : Ini g k c f) (C : ClsN g c x) (hk : k + 1 ≤ lv) (he : Snd g E H0 X b1 e m) (hg : Gl X x := by rfl) (hdb : (x == ("__debug__" : Str)) = false := by decide) (hst : starEach [.Starred e sp_] X.env = [(true, eval e X.env)] := by rfl) :
    Snd g E H0 X false (.Call (.Name x p) [.Starred e sp_] [] pos) (mMakeS f m) := by
  obtain ⟨fI, M, F, hc⟩ := N
  obtain ⟨prog, w', K, mg, base, A, N, s_0, H_0, env, outer, stack, ex, fn, calm, pn, xe⟩ := X
  obtain ⟨⟨h1, h2, h3, h4, h5, h6, h7, hfx⟩, h8, h9⟩ := ok
  simp only at h1 h2 h5 h6 h7
  subst h1 h2 h5 h6 h7
  refine ⟨fun pins s σ H Q I ⟨w, σI, B, s0, p⟩ => ?_⟩
  refine wpAny_Call_Name_kw (ld_glob I hg C.mg ?_ hdb)
  refine pe_makeS M F (h8.mono hk) h9 he hst pins s σ H I ?_
  refine tI_bind s0 p fun d B1 w1 v H1 x1 s1 r1 p1 => ?_
  split at p1
  · rename_i ds
    obtain ⟨a, vs, rfl, q, r⟩ := r1.up.tup s1
    exact ⟨a, vs, rfl, .inl q, make_go s1.rb r (PostC.of s1 p1)⟩
  · rename_i ds
    obtain ⟨a, vs, rfl, q, r⟩ := r1.up.lst s1
    exact ⟨a, vs, rfl, .inr (.inl (.inl q)), make_go s1.rb r (PostC.of s1 p1)⟩
  · exact p1.elim
/-- .. C in a name of the def -/
def mMakeV (i c : Nat) (f : Fn) (m : Ev) : Ev := fun σ B => match σ[i]? with
  | some (some (false, .cls c')) => if c' = c then mMakeS f m σ B else .bad
  | _ => .bad
theorem s_makeV {sp_ : Pos} (ok : OkC g E lv X) (N : Ini g k c f) (hk : k + 1 ≤ lv) (he : Snd g E H0 X b1 e m) (hN : X.N[i]? = some x := by rfl) (hv : Vis X.env.scope x := by first | exact Or.inl rfl | exact Or.inr (Or.inl rfl) | exact Or.inr (Or.inr rfl)) (hd : (x == ("__debug__" : Str)) = false := by decide) (hcd : (x == ("__classdict__" : Str)) = false := by decide) (hst : starEach [.Starred e sp_] X.env = [(true, eval e X.env)] := by rfl)
    (ht : eval (.Call (.Name x p) [.Starred e sp_] [] pos) X.env = (do callWith pos (← eval (.Name x p) X.env) [] (backTo pos (starEach [.Starred e sp_] X.env)) (backToKw pos (keywordEach [] X.env))) := by rfl) :
    Snd g E H0 X false (.Call (.Name x p) [.Starred e sp_] [] pos) (mMakeV i c f m) := by
  obtain ⟨fI, M, F, hc⟩ := N
  obtain ⟨prog, w', K, mg, base, A, N, s_0, H_0, env, outer, stack, ex, fn, calm, pn, xe⟩ := X
  obtain ⟨⟨h1, h2, h3, h4, h5, h6, h7, hfx⟩, h8, h9⟩ := ok
  simp only at h1 h2 h5 h6 h7
  subst h1 h2 h5 h6 h7
  refine ⟨fun pins s σ H Q I ⟨w, σI, B, s0, p⟩ => ?_⟩
  unfold mMakeV at p
  split at p
  · rename_i c' hi
    split at p
    · rename_i hcc
      subst hcc
      obtain ⟨v, e1, r0⟩ := s0.sl i _ hi
      simp only [Rep] at r0
      obtain ⟨rfl, _⟩ := r0
      refine Call_ (thn ((pe_var hN hv hd hcd).run pins s σ H (fun y H1 => y = .ref (g.cl c') ∧ H1 = H) I ⟨_, e1, rfl, rfl⟩) fun u s1 ⟨y, H1, I1, ry, ey, eH⟩ => ?_) ht
      subst ey eH
      obtain rfl : u = Value.ref (g.cl c') := ry
      refine pe_makeS M F (h8.mono hk) h9 he hst pins s1 σ H1 I1 ?_
      refine tI_bind s0 p fun d B1 w1 v H1 x1 s1 r1 p1 => ?_
      split at p1
      · rename_i ds
        obtain ⟨a, vs, rfl, q, r⟩ := r1.up.tup s1
        exact ⟨a, vs, rfl, .inl q, make_go s1.rb r (PostC.of s1 p1)⟩
      · rename_i ds
        obtain ⟨a, vs, rfl, q, r⟩ := r1.up.lst s1
        exact ⟨a, vs, rfl, .inr (.inl (.inl q)), make_go s1.rb r (PostC.of s1 p1)⟩
      · exact p1.elim
    · exact p.elim
  · exact p.elim
/-! ### class methods -/
def CMt (g : Gs) (k c : Nat) (n : Str) (f : Fn) : Prop := ∃ mc pr fa, FnR g.prog g.w g.K g.mg g.base (L2N.CX g.prog g.w) k fa (spF g f) ∧ ClX.CRead g.K (g.cl c) mc ∧ ClX.CMet g.K (g.cl c) mc n pr fa ∧ g.has c = true
def mCMth (c : Nat) (f : Fn) (ms : Evs) : Ev := fun σ B => (ms σ B).bind fun ds B1 => f (.cls c :: ds) B1
theorem s_cmth (ok : OkC g E lv X) {n : Str} (N : CMt g k c n f) (C : ClsN g c x) (hk : k ≤ lv) (ha : Snds g E H0 X (e :: es) ms) (hg : Gl X x := by rfl) (hd : (x == ("__debug__" : Str)) = false := by decide) {pl : Sem Bool}
    (hst : starEach (e :: es) X.env = (false, eval e X.env) :: starEach es X.env := by rfl) (hpl : (backTo pos (starEach es X.env)).any (·.1) = false := by rfl)
    (ht : eval (.Call (.Attribute (.Name x p) n apos) (e :: es) [] pos) X.env = (do
      let ov ← eval (.Name x p) X.env
      standAt apos.atName
      let (f, first) ← holding [ov] (getMethod ov n pl)
      callWith pos f first (backTo pos (starEach (e :: es) X.env)) (backToKw pos (keywordEach [] X.env))) := by rfl) :
    Snd g E H0 X false (.Call (.Attribute (.Name x p) n apos) (e :: es) [] pos) (mCMth c f ms) := by
  obtain ⟨mc, pr, fa, F, R, M, hc⟩ := N
  obtain ⟨prog, w', K, mg, base, A, N, s_0, H_0, env, outer, stack, ex, fn, calm, pn, xe⟩ := X
  obtain ⟨⟨h1, h2, h3, h4, h5, h6, h7, hfx⟩, h8, h9⟩ := ok
  simp only at h1 h2 h5 h6 h7
  subst h1 h2 h5 h6 h7
  refine weak (ClX.pe_cmeth (pe_glob (v := .ref (g.cl c)) hg C.mg rfl hd) R M F (h8.mono hk) h9 ha hst hpl ht) ?_
  rintro σ H Q ⟨w, σI, B, s, p⟩
  exact ⟨rfl, tIs_bind s p fun ds B1 w1 vs H1 x1 s1 r1 p1 => ⟨w1, _, B1, s1.rb, by simp only [Reps, Rep]; exact ⟨_, _, rfl, ⟨rfl, hc⟩, r1⟩, PostC.of s1 p1⟩⟩
end
end Hf

set_option Elab.async false
set_option linter.all false
set_option maxRecDepth 100000
set_option maxHeartbeats 4000000
namespace Hf
open PySem PySem.Spec PyProof.Rows L2

/-! ### an __init__ keeps its promise -/
/-- the instance that a body leaves in its first name -/
def finI (c : Nat) : Ss → Rs D
  | .next σ B => match σ[(0 : Nat)]? with
    | some (some (true, .inst c' es)) => if c' = c ∧ es.length = (fldN c).length then .ok (.inst c es) B else .bad
    | _ => .bad
  | .ret _ _ => .bad
  | .exc c x B => .exc c x B
  | .bad => .bad
/-- def __init__(self, *words): k names in all -/
def mkIniS (c k : Nat) (b : Ms) : Fn := fun ds B => if ds.length ≤ sizeLine then finI c (b (some (true, .inst c []) :: some (false, .tup ds) :: List.replicate (k - 2) Option.none) B) else .bad
/-- def __init__(self, a, ..): n more parameters -/
def mkIni (c n k : Nat) (b : Ms) : Fn := fun ds B => if ds.length = n then finI c (b (some (true, .inst c []) :: (ds.map (fun d => some (false, d)) ++ List.replicate (k - (n + 1)) Option.none)) B) else .bad
section
variable {g : Gs} {E : XK} {w : Wd} {H : Hp} {σI : Sl} {σ : L2.St} {B : Bs} {Q : VK} {c k : Nat}
/-- the end of an __init__ -/
theorem fin_go {x : Addr} {m : Ss} (hn : H x = Option.none) (p : PostN g E x w H Q (finI c m)) : PostS g E { w with me := some x } H w { nx := fun _ H' => Q .non H', rt := Q } m := by
  cases m with
  | bad => exact p
  | ret d B' => exact p.elim
  | exc c y B' => exact fun w' cls dd H' rb x1 r => p _ cls dd H' x1.withMe rb.withMe r.withMe
  | next σI' B' =>
    intro w' σ' H' _ s x1
    unfold finI at p
    simp only at p
    split at p
    · rename_i c' es hi
      split at p
      · rename_i h
        obtain ⟨rfl, hl⟩ := h
        obtain ⟨a, o, e1, ha, ct, np, nb, n0⟩ := s.ow 0 _ hi
        have e2 := s.me 0 _ _ a hi e1
        rw [x1.me] at e2
        cases (show some x = some a from e2)
        simp only [Cont] at ct
        obtain ⟨dx, vs, rfl, _, hh, rr⟩ := ct
        obtain ⟨x2, rb2⟩ := reg_ext x1 s.rb ha hn np nb (nt_ins _ _ _)
        refine p _ H' x2.withMe rb2.withMe ?_
        simp only [Rep]
        exact ⟨x, dx, vs, rfl, upd_same, hl, hh, Reps.mono ((regLe w' np).trans leMe) _ _ rr⟩
      · exact p.elim
    · exact p.elim
/-- def f(a, .., *v): what is left over is a new tuple without a dict -/
theorem fn_starN {P : Program} {w : World} {K : PySem.W.Frag} {mg : Str → Option Value} {base : Heap} {CX : CXT} {N ps : List Str} {k : Nat} {sp : Sp} {nm qual pv : Str} {params : Arguments} {body : List Stmt} {scope : Scope} {f : Addr} {oc dV kV doc pm cdv ct : Value} {od an : Option Addr} {osl : Array (Option Value)}
    (lk : K.lookup f = some ⟨oc, od, .func (PySem.W.fnOf nm qual params body scope dV kV doc pm an cdv ct), osl⟩) (hcd : PySem.W.codeIn K cdv qual = true) (S : FnScope N (ps ++ [pv]) scope) (hCX : StX.CXUp CX)
    (hb : ∀ us rest : List Value, us.length = ps.length → bindArgs (PySem.W.fnOf nm qual params body scope dV kV doc pm an cdv ct) ⟨us ++ rest, []⟩ = (newTuple rest >>= fun t => pure (ps.zip us ++ [(pv, t)])))
    (hbody : ∀ (A : Around) (outer : List Env) (s : Shared) (H : Hp) (vs : List V) (Q : VK) (E : XK), Room k (A.deeper (envOfC qual scope s.heap.objs.size f cdv)) → sp vs H Q E →
      ∃ t, PSs (cxOf CX P w K mg base N qual scope f cdv A outer s H E) body t ∧ t { nx := fun _ H' => Q .non H', rt := Q } (L2.start N vs) H) :
    FnR P w K mg base CX (k + 1) f (fun vs H Q E => ∃ ws rest, vs = ws ++ rest ∧ ws.length = ps.length ∧ rest.length ≤ sizeLine ∧ ∀ p (ob : Obj), H p = Option.none → ob.dict = Option.none → sp (ws ++ [V.ref p]) (upd H p (.frz ob (.tup rest))) Q E) := by
  intro A outer s H us vs Q E hr e0 r hsp
  obtain ⟨ws, rest, rfl, hl, hz, hq⟩ := hsp
  obtain ⟨u1, u2, rfl, r1, r2⟩ := StX.vals_split r
  have free : H s.heap.objs.size = Option.none := e0.hok.fresh (Nat.le_refl _)
  have m1 : u1.length = ps.length := by rw [← r1.length]; exact hl
  have m2 : u2.length ≤ sizeLine := by rw [← r2.length]; exact hz
  refine StX.run_bnd lk hcd S hr e0 (G := fun xs H2 => ∃ p, ∃ ob : Obj, ob.dict = Option.none ∧ H p = Option.none ∧ xs = ws ++ [V.ref p] ∧ H2 = upd H p (.frz ob (.tup rest))) (fun A1 Ex Q1 h => ?_) fun s2 H2 xs ⟨p, ob, hod, hp, ex, eH⟩ hr1 => ?_
  · rw [hb u1 u2 m1]
    refine wpAny_bind (wpAny_newTuple (wpAny_pure ?_) m2)
    obtain ⟨T, hT⟩ : ∃ T : Obj, T = { cls := .type "tuple", data := .seq u2.toArray } := ⟨_, rfl⟩
    have new : ObjOk P w (upd H s.heap.objs.size (.frz T (.tup rest))) (s.heap.push T) s.heap.objs.size (.frz T (.tup rest)) := by
      subst hT; exact frz_tup hz r2 (Heap.get?_push_size _ rfl)
    have hd : T.dict = Option.none := by subst hT; rfl
    rw [← hT]
    have un := StX.un_laid (fs := frs outer) (s := s) (o := T) (u := .frz T (.tup rest)) free
    have z := h _ _ (ws ++ [V.ref s.heap.objs.size]) (u1 ++ [Value.ref s.heap.objs.size]) (StX.env0_laid e0 new) un rfl (fun e s1 => hCX outer s H _ _ E e s1 un (fun c oc qc => Heap.get?_push_of_some _ qc) rfl) (r1.append (.cons rfl .nil))
      (by rw [List.length_append, List.length_append, hl] <;> rfl) ⟨_, T, hd, free, rfl, rfl⟩
    rw [List.zip_append m1.symm] at z
    exact z
  · subst ex eH
    exact hbody A outer s2 _ _ Q E hr1 (hq p ob hp hod)
/-- the start of an __init__ with one tuple -/
theorem start_star {N : List Str} {x dx p : Addr} {ds : List D} {rest : List V} (hN : 2 ≤ N.length) (hh : g.has c = true) (rb : RB g w B H) (r : Reps g w ds rest) (h1 : H x = Option.none) (h2 : H dx = Option.none) (h3 : dx ≠ x)
    {ob : Obj} (hod : ob.dict = Option.none) (hp : (upd (upd H dx (.own x)) x (.ins (g.cl c) dx [])) p = Option.none) :
    ∃ w1, S0 g H w1 (some (true, .inst c []) :: some (false, .tup ds) :: List.replicate (N.length - 2) Option.none) B (L2.start N [V.ref x, V.ref p]) (upd (upd (upd H dx (.own x)) x (.ins (g.cl c) dx [])) p (.frz ob (.tup rest))) ∧
      Ext { w with me := some x } H w1 (upd (upd (upd H dx (.own x)) x (.ins (g.cl c) dx [])) p (.frz ob (.tup rest))) := by
  have px : p ≠ x := fun e => by subst e; rw [upd_same] at hp; cases hp
  have pd : p ≠ dx := fun e => by
    rw [upd_ne px, e, upd_same] at hp; cases hp
  have hp0 : H p = Option.none := by rw [upd_ne px, upd_ne pd] at hp; exact hp
  generalize hH2 : upd (upd (upd H dx (.own x)) x (.ins (g.cl c) dx [])) p (.frz ob (.tup rest)) = H2
  have e2 : ∀ b, b ≠ p → b ≠ x → b ≠ dx → H2 b = H b := fun b q1 q2 q3 => by rw [← hH2, upd_ne q1, upd_ne q2, upd_ne q3]
  have ex : H2 x = some (.ins (g.cl c) dx []) := by rw [← hH2, upd_ne px.symm, upd_same]
  have ep : H2 p = some (.frz ob (.tup rest)) := by rw [← hH2, upd_same]
  have hk : Same H H2 := fun b u e => by
    rw [e2 b (ne_of_none e hp0) (ne_of_none e h1) (ne_of_none e h2)]; exact e
  have npp := rb.fresh_P hp0
  have l : Le w (regW w p (.frz ob (.tup rest))) := regLe w npp
  let w1 : Wd := { regW w p (.frz ob (.tup rest)) with me := some x }
  have l1 : Le w w1 := ⟨l.P, l.io⟩
  have sub1 : Same w1.P H2 := fun b u e => by
    have e : upd w.P p (.frz ob (.tup rest)) b = some u := e
    by_cases hb : b = p
    · subst hb; rw [upd_same] at e; cases e; exact ep
    · rw [upd_ne hb] at e; exact hk b u (rb.sub b u e)
  have rb1 : RB g w1 B H2 := rb.keep l1 rfl sub1 hk (fun n a e => by
    show upd w.P p (.frz ob (.tup rest)) a = Option.none
    rw [upd_ne (fun z => rb.fresh_io hp0 n (by rw [← z]; exact e))]
    exact rb.np n a e) (nt_reg rb.nt fun ps z => (nomatch z))
  have st : L2.start N [V.ref x, V.ref p] = some (V.ref x) :: some (V.ref p) :: List.replicate (N.length - 2) Option.none := rfl
  have tail : ∀ {j : Nat} {z : Option (Bool × D)}, (List.replicate (N.length - 2) (Option.none : Option (Bool × D)))[j]? = some z → z = Option.none := fun {j z} h => by
    rw [List.getElem?_replicate] at h
    split at h <;> cases h
    rfl
  refine ⟨w1, ⟨rb1, by rw [st]; simp, fun i d h => ?_, fun i d h => ?_, fun i j d e a q1 q2 _ _ => ?_, fun i c' es a q1 q2 => ?_⟩, ⟨⟨l1.P, l1.io⟩, fun b o e _ _ => hk b o e, fun b o e => ?_, fun n a e => .inl e, fun b e z => e (by
    cases q : H b with
    | none => rfl
    | some u => rw [hk b u q] at z; cases z), rfl⟩⟩
  · rw [st]
    match i, h with
    | 0, h => cases h
    | 1, h =>
      cases h
      refine ⟨V.ref p, rfl, ?_⟩
      simp only [Rep]
      exact ⟨p, rest, rfl, .inl ⟨ob, upd_same, hod⟩, Reps.mono l1 _ _ r⟩
    | j + 2, h => cases tail h
  · rw [st]
    match i, h with
    | 0, h =>
      cases h
      refine ⟨x, _, rfl, ex, ?_, ?_, fun n => rb.fresh_io h1 n, h1⟩
      · simp only [Cont]
        exact ⟨dx, [], by simp, Nat.zero_le _, hh, by simp only [Reps]⟩
      · show upd w.P p (.frz ob (.tup rest)) x = Option.none
        rw [upd_ne px.symm]; exact rb.fresh_P h1
    | 1, h => cases h
    | j + 2, h => cases tail h
  · match i, j, q1, q2 with
    | 0, 0, _, _ => rfl
    | 0, 1, _, h => cases h
    | 0, j + 2, _, h => cases tail h
    | 1, _, h, _ => cases h
    | i + 2, _, h, _ => cases tail h
  · match i, q1 with
    | 0, _ => rw [st] at q2; cases q2; rfl
    | 1, h => cases h
    | i + 2, h => cases tail h
  · have e : upd w.P p (.frz ob (.tup rest)) b = some o := e
    by_cases hb : b = p
    · subst hb; exact .inr (.inl hp0)
    · rw [upd_ne hb] at e; exact .inl e
theorem init_star {x qual sv pv : Str} {st : Stmt} {fa : Addr} {fd : FuncData} {N : List Str} {b : Ms} (F : L2.Fun g.K x qual st fa fd) (S : FnScope N ([sv] ++ [pv]) (defScope st)) (hN : 2 ≤ N.length) (hh : g.has c = true)
    (hb : ∀ (kV doc pm : Value) (an : Option Addr) (cdv ct : Value) (us rest : List Value), us.length = [sv].length → bindArgs (PySem.W.fnOf x qual (defArgs st) (defBody st) (defScope st) .none kV doc pm an cdv ct) ⟨us ++ rest, []⟩ = (newTuple rest >>= fun t => pure ([sv].zip us ++ [(pv, t)])))
    (fx : Fx g) (hbody : ∀ (E : XK) (w0 : Wd) (H0 : Hp) (X : Cx), OkC g E k X → PassesOwn (model X.prog X.w) X.A X.env X.xe → L2N.Takes X (fun cls d _ H => E cls d H) → X.N = N → X.env.scope = defScope st → X.fn = (fun _ => true) → SndB g E w0 H0 X (defBody st) b) :
    FnR g.prog g.w g.K g.mg g.base (L2N.CX g.prog g.w) (k + 1) fa (spI g c (mkIniS c N.length b)) := by
  obtain ⟨oc, od, kV, doc, pm, an, cdv, ct, osl, rfl, lk, hcd⟩ := F.ex
  let sp0 : Sp := fun vs H Q E => ∃ x dx p H1 w ds rest B, ∃ ob : Obj, ob.dict = Option.none ∧ vs = [V.ref x, V.ref p] ∧ H = upd (upd (upd H1 dx (.own x)) x (.ins (g.cl c) dx [])) p (.frz ob (.tup rest)) ∧ H1 x = Option.none ∧ H1 dx = Option.none ∧ dx ≠ x ∧ (upd (upd H1 dx (.own x)) x (.ins (g.cl c) dx [])) p = Option.none ∧
    RB g w B H1 ∧ Reps g w ds rest ∧ PostN g E x w H1 Q (mkIniS c N.length b ds B)
  have R := fn_starN (P := g.prog) (w := g.w) (mg := g.mg) (base := g.base) (CX := L2N.CX g.prog g.w) (k := k) (sp := sp0) (ps := [sv]) (pv := pv) lk hcd S cxUpN (hb kV doc pm an cdv ct) ?_
  · refine R.imp fun vs H Q E h => ?_
    obtain ⟨x, dx, ws, H1, w, ds, B, rfl, rfl, h1, h2, h3, rb, r, p⟩ := h
    have hz : ds.length ≤ sizeLine := by
      unfold mkIniS at p
      split at p
      · assumption
      · exact p.elim
    exact ⟨[V.ref x], ws, rfl, rfl, by rw [r.len]; exact hz, fun q ob hq ho => ⟨x, dx, q, H1, w, ds, ws, B, ob, ho, rfl, rfl, h1, h2, h3, hq, rb, r, p⟩⟩
  · rintro A outer s H vs Q E hr ⟨x, dx, p, H1, w, ds, rest, B, ob, hod, rfl, rfl, h1, h2, h3, hp, rb, r, q⟩
    unfold mkIniS at q
    split at q
    · refine ⟨_, hbody E { w with me := some x } H1 _ ⟨⟨rfl, rfl, rfl, ?_, rfl, rfl, rfl, fx⟩, hr, ?_⟩ (passes_of rfl) (L2N.takes_of rfl rfl rfl rfl) rfl rfl rfl, ?_⟩
      · have := hr.un; show A.units + 3 + 100 < cLine; have h2 : A.units + 3 + 16 * k + 200 < cLine := this; omega
      · exact L2N.passes_call (L2N.takes_of rfl rfl rfl rfl) (fun _ _ _ _ h => h)
      · obtain ⟨w1, s1, x1⟩ := start_star hN hh rb r h1 h2 h3 hod hp
        refine ⟨w1, _, B, s1, x1, ?_⟩
        have z := fin_go h1 q
        refine PostS.le ?_ z
        exact ⟨x1.le.P, x1.le.io⟩
    · exact q.elim
end
end Hf

set_option Elab.async false
set_option linter.all false
set_option maxRecDepth 100000
set_option maxHeartbeats 4000000
namespace Hf
open PySem PySem.Spec PyProof.Rows L2

/-! ### boxes are made: a new container that is shared and changed -/
def boxW (w : Wd) (n : Nat) (a : Addr) : Wd := { w with io := fun m => if m = n then some a else w.io m }
section
variable {g : Gs} {E : XK} {w0 w : Wd} {H0 H : Hp} {X : Cx} {e : Expr} {m me : Ev} {pos p1 apos cpos : Pos} {σI : Sl} {σ : L2.St} {B : Bs} {Q : VK} {b1 : Bool} {x : Str} {i : Nat}
theorem box_ext {w' : Wd} {H' : Hp} {a : Addr} {o : HO} {d : D} {B' : Bs} (x : Ext w H w' H') (rb : RB g w' B' H') (e : H' a = some o) (c : Cont g w' d a o) (n : H a = Option.none) (p : w'.P a = Option.none) (i : ∀ n, w'.io n ≠ some a) :
    Ext w H (boxW w' B'.length a) H' ∧ RB g (boxW w' B'.length a) (B' ++ [d]) H' ∧ Le w' (boxW w' B'.length a) := by
  have l : Le w' (boxW w' B'.length a) := ⟨Same.refl _, fun m b h => by
    show (if m = B'.length then some a else w'.io m) = some b
    rw [if_neg (Nat.ne_of_lt (rb.dom m b h))]; exact h⟩
  have io : ∀ m b, (boxW w' B'.length a).io m = some b → (m = B'.length ∧ b = a) ∨ (m ≠ B'.length ∧ w'.io m = some b) := fun m b h => by
    have h : (if m = B'.length then some a else w'.io m) = some b := h
    by_cases hm : m = B'.length
    · rw [if_pos hm] at h; cases h; exact .inl ⟨hm, rfl⟩
    · rw [if_neg hm] at h; exact .inr ⟨hm, h⟩
  refine ⟨⟨x.le.trans l, x.keep, x.pf, fun m b h => ?_, x.there, x.me⟩, ⟨rb.sub, fun m b h => ?_, fun m k b h1 h2 => ?_, fun m b h => ?_, fun m b h => ?_, rb.tb, rb.nt⟩, l⟩
  · rcases io m b h with ⟨_, rfl⟩ | ⟨_, h⟩
    · exact .inr n
    · exact x.iof m b h
  · by_cases hm : m < B'.length
    · rw [List.getElem?_append_left hm] at h
      obtain ⟨a', o', h1, h2, h3⟩ := rb.get m b h
      exact ⟨a', o', l.io _ _ h1, h2, h3.mono l⟩
    · rw [List.getElem?_append_right (Nat.le_of_not_lt hm)] at h
      have hm2 : m - B'.length = 0 := by
        have := (List.getElem?_eq_some_iff.mp h).1
        simp at this; exact this
      rw [hm2] at h
      cases h
      have : m = B'.length := by omega
      subst this
      exact ⟨a, o, by show (if _ then _ else _) = _; rw [if_pos rfl], e, c.mono l⟩
  · rcases io m b h1 with ⟨r1, r2⟩ | ⟨r1, r2⟩ <;> rcases io k b h2 with ⟨q1, q2⟩ | ⟨q1, q2⟩
    · rw [r1, q1]
    · subst r2; exact (i _ q2).elim
    · subst q2; exact (i _ r2).elim
    · exact rb.inj m k b r2 q2
  · rcases io m b h with ⟨_, rfl⟩ | ⟨_, h⟩
    · exact p
    · exact rb.np m b h
  · rw [List.length_append]
    rcases io m b h with ⟨rfl, _⟩ | ⟨_, h⟩
    · simp
    · have := rb.dom m b h
      omega
def mBox (m : Ev) : Ev := fun σ B => (m σ B).bind fun d B1 => .ok (.box B1.length) (B1 ++ [d])
theorem s_box (he : SndF g E H0 X e m) : Snd g E H0 X false e (mBox m) := by
  refine weak he ?_
  rintro σ H Q ⟨w, σI, B, s, p⟩
  refine ⟨w, σI, B, s, ?_⟩
  unfold mBox at p
  revert p
  generalize m σI B = q
  intro p
  cases q with
  | bad => exact p
  | exc c y B' => exact p
  | ok d B' =>
    intro w' a o H' x rb ha c n pp io z
    obtain ⟨x2, rb2, l⟩ := box_ext x rb ha c n pp io
    refine p _ (.ref a) H' x2 rb2 ?_
    simp only [RepB, Rep]
    exact ⟨a, rfl, by show (if _ then _ else _) = _; rw [if_pos rfl]⟩
/-- x.pop(e), x a name of a box -/
def mPopB (i : Nat) (m : Ev) : Ev := fun σ B => match σ[i]? with
  | some (some (false, .box n)) => match B[n]? with
    | some (.lst _) => (m σ B).bind fun k B1 => match k with
      | .int k => match B1[n]? with
        | some (.lst ds) => if 0 ≤ k ∧ k < 2 ^ 63 then (match ds[k.toNat]? with
          | some d => .ok d (B1.set n (.lst (ds.eraseIdx k.toNat)))
          | Option.none => .bad) else .bad
        | _ => .bad
      | _ => .bad
    | _ => .bad
  | _ => .bad
theorem s_popB (he : Snd g E H0 X b1 e me) (hN : X.N[i]? = some x := by rfl) (hv : Vis X.env.scope x := by first | exact Or.inl rfl | exact Or.inr (Or.inl rfl) | exact Or.inr (Or.inr rfl)) (hd : (x == ("__debug__" : Str)) = false := by decide) (hcd : (x == ("__classdict__" : Str)) = false := by decide)
    (hbase : attributeBase (.Name x p1) "pop" X.env (eval (.Name x p1) X.env) = eval (.Name x p1) X.env := by rfl)
    (hfew : ((backTo cpos (starEach [e] X.env)).all (fun x => !x.1) && (backToKw cpos (keywordEach [] X.env)).all (fun x => x.1.isSome) && decide ([e].length + ([] : List Keyword).length + (if ([] : List Keyword).isEmpty then 0 else 1) < 30)) = true := by rfl)
    (hline : (apos.endLine == cpos.line) = true := by rfl) (hs : starEach [e] X.env = (false, eval e X.env) :: starEach [] X.env := by rfl) (hpl : (backTo cpos (starEach [] X.env)).any (·.1) = false := by rfl) :
    Snd g E H0 X false (.Call (.Attribute (.Name x p1) "pop" apos) [e] [] cpos) (mPopB i me) := by
  refine weak (pe_bm PySem.F.plainAttrs_list PySem.F.slot_list_pop PySem.F.type_list_pop mt_popAt (pe_var hN hv hd hcd) (pa_cons he pa_nil hs) hbase hfew hline hs hpl) ?_
  rintro σ H Q ⟨w, σI, B, s, p⟩
  unfold mPopB at p
  split at p
  · rename_i n hi
    split at p
    · rename_i ds0 hb
      obtain ⟨v, e1, r0⟩ := s.sl i _ hi
      have r0' := r0
      simp only [Rep] at r0'
      obtain ⟨a, rfl, ha⟩ := r0'
      obtain ⟨a', o, h1, h2, c⟩ := s.rb.get _ _ hb
      rw [ha] at h1; cases h1
      simp only [Cont] at c
      obtain ⟨vs0, rfl, _⟩ := c
      refine ⟨_, e1, tyL h2, tI_bind s p fun k B1 w1 kv H1 x1 s1 r1 p1 => ?_⟩
      split at p1
      · rename_i k
        split at p1
        · rename_i ds hb1
          split at p1
          · rename_i hk
            split at p1
            · rename_i d hd
              have ha1 := x1.le.io _ _ ha
              obtain ⟨a2, o2, h3, h4, c2⟩ := s1.rb.get _ _ hb1
              rw [ha1] at h3; cases h3
              simp only [Cont] at c2
              obtain ⟨vs, rfl, rr⟩ := c2
              obtain ⟨u, e2, ru⟩ := Reps.get rr hd
              have hlt : k.toNat < vs.length := (List.getElem?_eq_some_iff.mp e2).1
              refine ⟨a, vs, k, k.toNat, u, rfl, by rw [r1.up.int s1], h4, by omega, hk.2, ?_, e2, ?_⟩
              · unfold seqIndex?
                have h0 : ¬ k < 0 := by omega
                simp only [h0, if_false]
                rw [if_pos (by rw [Bool.and_eq_true, decide_eq_true_eq, decide_eq_true_eq]; omega)]
              · refine p1 w1 u _ ?_ (s1.rb.mut ha1 (by simp only [Cont]; exact ⟨_, rfl, rr.erase _⟩)) ru
                exact (Ext.refl w1 H1).mutB ha1
            · exact p1.elim
          · exact p1.elim
        · exact p1.elim
      · exact p1.elim
    · exact p.elim
  · exact p.elim
end
/-! ### repr -/
structure OkG (g : Gs) (E : XK) (lv : Nat) (X : Cx) : Prop extends OkC g E lv X where
  gd : X.A.guards = some []
theorem OkG.blk {g : Gs} {E : XK} {lv : Nat} {X : Cx} (k : OkG g E lv X) (s : Shared) (H : Hp) (scope : Scope) (env : Env) (fp : List Addr) : OkG g E0 lv (X.blk s H scope env fp) := ⟨k.toOkC.blk s H scope env fp, k.gd⟩
def reprOk (d : D) : Bool := (match d with
  | .tup _ => true
  | .lst _ => true
  | _ => false) && (toPy d).canLay0 && (toPy d).showable && !(toPy d).hasDict && decide ((toPy d).depth < 50) && decide ((toPy d).shown.length ≤ sizeLine)
def fRepr : D → Bs → Rs D := fun d B => match d with
  | .int i => if decide (i.natAbs.log2 < 1920) then .ok (.str (PyData.shown (.int i))) B else .bad
  | .bool b => .ok (.str (PyData.shown (.bool b))) B
  | .none => .ok (.str (PyData.shown .none)) B
  | .str x => if decide ((PySem.reprText x).length ≤ sizeLine) then .ok (.str (PyData.shown (.str x))) B else .bad
  | .dct [] [] => .ok (.str (PyData.shown (.dict []))) B
  | d => if reprOk d then .ok (.str (toPy d).shown) B else .bad
def rRepr (K : PySem.W.Frag) : List V → Hp → VK → Prop := fun xs H Q => ∃ a d, xs = [.ref a] ∧ Dp K H (.ref a) d ∧ d.showable = true ∧ d.hasDict = false ∧ d.depth < 50 ∧ d.shown.length ≤ sizeLine ∧ Q (.str d.shown) H
theorem call_reprD {X : Cx} (hg : X.A.guards = some []) (hu : X.A.units + 100 < cLine) : CallR X (.builtin "repr") (rRepr X.K) := by
  intro pins s σ H xs us Q I r h
  obtain ⟨a, d, rfl, hd, h1, h2, h3, h4, q⟩ := h
  obtain ⟨u, rfl, ru⟩ := vals1 r
  obtain ⟨as, rd⟩ := Dp.reads I d (.ref a) u hd ru
  obtain rfl : u = Value.ref a := ru
  exact repr_of_reads' rd h1 (fun z => by rw [h2] at z; cases z) hg (by omega) (fun _ _ e => e) (fun h' t tk hk => ⟨.str _, H, I.kept hk, ⟨_, rfl⟩, q⟩) h4
section
variable {g : Gs} {E : XK} {H0 : Hp} {X : Cx} {lv : Nat}
theorem callR_or {f : Value} {r1 r2 : List V → Hp → VK → Prop} (h1 : CallR X f r1) (h2 : CallR X f r2) : CallR X f (fun xs H Q => r1 xs H Q ∨ r2 xs H Q) := fun pins s σ H xs us Q I r h => h.elim (h1 pins s σ H xs us Q I r) (h2 pins s σ H xs us Q I r)
theorem call_reprI : CallR X (.builtin "repr") (fun xs H Q => ∃ i, xs = [.int i] ∧ i.natAbs.log2 < 1920 ∧ Q (.str (PyData.shown (.int i))) H) := by
  intro pins s σ H xs us Q I r h
  obtain ⟨i, rfl, hz, q⟩ := h
  obtain ⟨u, rfl, t, rfl⟩ := vals1 r
  exact PySem.P.repr_of_int hz ⟨.str _, H, I.tok _, ⟨_, rfl⟩, q⟩
theorem call_reprB : CallR X (.builtin "repr") (fun xs H Q => ∃ b, xs = [.bl b] ∧ Q (.str (PyData.shown (.bool b))) H) := by
  intro pins s σ H xs us Q I r h
  obtain ⟨b, rfl, q⟩ := h
  obtain ⟨u, rfl, ru⟩ := vals1 r
  obtain rfl : u = Value.bool b := ru
  exact PySem.P.repr_of_bool ⟨.str _, H, I.tok _, ⟨_, rfl⟩, q⟩
theorem call_reprN : CallR X (.builtin "repr") (fun xs H Q => xs = [.non] ∧ Q (.str (PyData.shown .none)) H) := by
  intro pins s σ H xs us Q I r h
  obtain ⟨rfl, q⟩ := h
  obtain ⟨u, rfl, ru⟩ := vals1 r
  obtain rfl : u = Value.none := ru
  exact PySem.P.repr_of_none ⟨.str _, H, I.tok _, ⟨_, rfl⟩, q⟩
theorem call_reprS : CallR X (.builtin "repr") (fun xs H Q => ∃ x, xs = [.str x] ∧ (PySem.reprText x).length ≤ sizeLine ∧ Q (.str (PyData.shown (.str x))) H) := by
  intro pins s σ H xs us Q I r h
  obtain ⟨x, rfl, hz, q⟩ := h
  obtain ⟨u, rfl, t, rfl⟩ := vals1 r
  exact PySem.P.repr_of_str ⟨.str _, H, I.tok _, ⟨_, rfl⟩, q⟩ hz
theorem call_reprE (hg : X.A.guards = some []) (hu : X.A.units + 100 < cLine) : CallR X (.builtin "repr") (fun xs H Q => ∃ a, xs = [.ref a] ∧ H a = some (dctO g a []) ∧ Q (.str (PyData.shown (.dict []))) H) := by
  intro pins s σ H xs us Q I r h
  obtain ⟨a, rfl, ha, q⟩ := h
  obtain ⟨u, rfl, ru⟩ := vals1 r
  obtain rfl : u = Value.ref a := ru
  have hok := I.hok a _ ha
  obtain ⟨⟨hs, _, _, _, ys, hp, o, es, ep, ho, hx, hd, he⟩, _, _⟩ := hok
  cases hp
  have hes : es.toList = [] := he
  have rd : Reads s.heap (.ref a) (.dict []) ((a :: []) ++ []) := .dict ho hx.1 hd (by rw [hes]; exact .nil) (by rw [hes]; exact .nil)
  refine repr_of_reads' rd rfl (fun _ z => ?_) hg (by simp only [PyData.depth, PyData.depthKv]; omega) (fun _ _ e => e) (fun h' t tk hk => ⟨.str _, H, I.kept hk, ⟨_, rfl⟩, q⟩) (by decide +kernel)
  simp at z
  subst z
  simp at hs
def rReprG (g : Gs) : List V → Hp → VK → Prop := fun xs H Q => rRepr g.K xs H Q ∨ (∃ i, xs = [.int i] ∧ i.natAbs.log2 < 1920 ∧ Q (.str (PyData.shown (.int i))) H) ∨ (∃ b, xs = [.bl b] ∧ Q (.str (PyData.shown (.bool b))) H) ∨ (xs = [.non] ∧ Q (.str (PyData.shown .none)) H) ∨
  (∃ x, xs = [.str x] ∧ (PySem.reprText x).length ≤ sizeLine ∧ Q (.str (PyData.shown (.str x))) H) ∨ (∃ a, xs = [.ref a] ∧ H a = some (dctO g a []) ∧ Q (.str (PyData.shown (.dict []))) H)
theorem call_reprG (c : OkG g E lv X) : CallR X (.builtin "repr") (rReprG g) := callR_or (c.K ▸ call_reprD c.gd c.un) (callR_or call_reprI (callR_or call_reprB (callR_or call_reprN (callR_or call_reprS (call_reprE c.gd c.un)))))
theorem repr_go {w : Wd} {σI : Sl} {B : Bs} {σ : L2.St} {H : Hp} {Q : VK} {x : V} {d : D} (s : S0 g H0 w σI B σ H) (r : RepO g w σI σ d x) (p : PostE g E w H σI σ false Q (fRepr d B)) : rReprG g [x] H Q := by
  unfold fRepr at p
  split at p
  · split at p
    · rename_i i h
      rw [r.int s]
      exact .inr (.inl ⟨_, rfl, of_decide_eq_true h, p.nowR s (rep_str g w _)⟩)
    · exact p.elim
  · rw [r.bool s]
    exact .inr (.inr (.inl ⟨_, rfl, p.nowR s (rep_str g w _)⟩))
  · rw [r.none s]
    exact .inr (.inr (.inr (.inl ⟨rfl, p.nowR s (rep_str g w _)⟩)))
  · split at p
    · rename_i i h
      rw [r.str s]
      exact .inr (.inr (.inr (.inr (.inl ⟨_, rfl, of_decide_eq_true h, p.nowR s (rep_str g w _)⟩))))
    · exact p.elim
  · obtain ⟨a, xs, rfl, ha, h1, _, _⟩ := r.dct s
    have hx : xs = [] := by
      cases xs with
      | nil => rfl
      | cons _ _ => simp at h1
    subst hx
    exact .inr (.inr (.inr (.inr (.inr ⟨a, rfl, ha, p.nowR s (rep_str g w _)⟩))))
  · split at p
    · rename_i h
      unfold reprOk at h
      simp only [Bool.and_eq_true, decide_eq_true_eq, Bool.not_eq_true'] at h
      obtain ⟨⟨⟨⟨⟨h0, h1⟩, h2⟩, h3⟩, h4⟩, h5⟩ := h
      have hd := r.dp s h1
      have key : ∃ a, x = .ref a := by
        split at h0
        · obtain ⟨a, _, e, _⟩ := r.tup s; exact ⟨a, e⟩
        · obtain ⟨a, _, e, _⟩ := r.lst s; exact ⟨a, e⟩
        · cases h0
      obtain ⟨a, rfl⟩ := key
      exact .inl ⟨a, _, rfl, hd, h2, h3, h4, h5, p.nowR s (rep_str g w _)⟩
    · exact p.elim
theorem o_repr (c : OkG g E lv X) : One g E H0 X (.builtin "repr") fRepr := ⟨_, call_reprG c, fun w σI B σ H Q x d s r p => repr_go s r p⟩
end
/-! ### defs that ask for repr: promises where no repr is under way -/
structure FnG (P : Program) (w : World) (K : PySem.W.Frag) (mg : Str → Option Value) (base : Heap) (CX : CXT) (k : Nat) (f : Addr) (fd : FuncData) (ps : List Str) (sp : Sp) : Prop where
  len : ∀ vs H Q E, sp vs H Q E → vs.length = ps.length
  run : ∀ (A : Around) (outer : List Env) (s : Shared) (H : Hp) (args : Args) (us : List Value) (vs : List V) (Q : VK) (E : XK), A.guards = some [] → Room k A → Env0 P w K mg base A outer s H → BindsTo s fd args (ps.zip us) → Vals vs us → sp vs H Q E →
    codeAny (model P w) A (.call (.ref f) args) (CR CX outer P w H s Q E) s
theorem _root_.L2.FnOk.toG {P : Program} {w : World} {K : PySem.W.Frag} {mg : Str → Option Value} {base : Heap} {CX : CXT} {k : Nat} {f : Addr} {fd : FuncData} {ps : List Str} {sp : Sp} (F : FnOk P w K mg base CX k f fd ps sp) : FnG P w K mg base CX k f fd ps sp :=
  ⟨F.len, fun A outer s H args us vs Q E _ => F.run A outer s H args us vs Q E⟩
theorem FnG.mono {P : Program} {w : World} {K : PySem.W.Frag} {mg : Str → Option Value} {base : Heap} {CX : CXT} {j k : Nat} {f : Addr} {fd : FuncData} {ps : List Str} {sp : Sp} (F : FnG P w K mg base CX j f fd ps sp) (h : j ≤ k) : FnG P w K mg base CX k f fd ps sp :=
  ⟨F.len, fun A outer s H args us vs Q E hg hr => F.run A outer s H args us vs Q E hg (hr.mono h)⟩
def DefG (g : Gs) (k : Nat) (x : Str) (dfl : List D) (f : Fn) : Prop := ∃ (fa : Addr) (fd : FuncData) (ps : List Str) (dvs : List V) (ds : List Value), FnG g.prog g.w g.K g.mg g.base (L2N.CX g.prog g.w) k fa fd ps (spF g f) ∧ g.mg x = some (.ref fa) ∧ PySem.W.keepIn g.K (.ref fa) = true ∧ Binds g.K fd ps ds ∧ Vals dvs ds ∧ ∀ w, Reps g w dfl dvs
theorem Def.toG {g : Gs} {k : Nat} {x : Str} {dfl : List D} {f : Fn} (d : Def g k x dfl f) : DefG g k x dfl f := by
  obtain ⟨fa, fd, ps, dvs, ds, F, r⟩ := d
  exact ⟨fa, fd, ps, dvs, ds, F.toG, r⟩
section
variable {g : Gs} {E : XK} {w0 w : Wd} {H0 H : Hp} {X : Cx} {e : Expr} {es : List Expr} {ms : Evs} {pos p : Pos} {x : Str} {f : Fn} {lv k : Nat} {dfl : List D} {σI : Sl} {σ : L2.St} {B : Bs} {Q : VK}
theorem run_g {CX : CXT} {fa : Addr} {fd : FuncData} {ps : List Str} {sp : Sp} {ds us : List Value} {dvs vs : List V} {pins : List (Addr × Obj)} {s : Shared} (F : FnG X.prog X.w X.K X.mg X.base CX k fa fd ps sp) (hg : X.A.guards = some []) (hr : Room k X.A) (hb : Binds X.K fd ps ds) (hd : Vals dvs ds) (hx : Passes CX X E)
    (I : Inv X pins σ H s) (r : Vals vs us) (h : sp (vs ++ dvs) H Q E) : wpAny (model X.prog X.w) X.A (call (.ref fa) us) (EP X pins σ Q) X.xe s := by
  have r2 : Vals (vs ++ dvs) (us ++ ds) := r.append hd
  refine wpAny_call (codeAny_mono (F.run X.A X.stack s H ⟨us, []⟩ (us ++ ds) (vs ++ dvs) Q E hg hr I.env0 (hb s us I.kIn (by rw [← r2.length]; exact F.len _ _ _ _ h)) r2 h) fun r s' hq => ?_)
  cases r with
  | error e => exact hx pins σ H s e s' I hq
  | ok fl =>
    cases fl with
    | ret u => exact I.after hq
    | next | brk | cont => exact hq.elim
theorem s_callG (c : OkG g E lv X) (d : DefG g k x dfl f) (hk : k ≤ lv) (ha : Snds g E H0 X (e :: es) ms) (hg : Gl X x := by rfl) (hdb : (x == ("__debug__" : Str)) = false := by decide) (he : starEach (e :: es) X.env = (false, eval e X.env) :: starEach es X.env := by rfl) (hpl : (backTo pos (starEach es X.env)).any (·.1) = false := by rfl) :
    Snd g E H0 X false (.Call (.Name x p) (e :: es) [] pos) (mCall f dfl ms) := by
  obtain ⟨fa, fd, ps, dvs, ds, F, hm, kp, b, hd, hr⟩ := d
  obtain ⟨prog, w', K, mg, base, A, N, s_0, H_0, env, outer, stack, ex, fn, calm, pn, xe⟩ := X
  obtain ⟨⟨⟨h1, h2, h3, h4, h5, h6, h7, hfx⟩, h8, h9⟩, h10⟩ := c
  simp only at h1 h2 h5 h6 h7
  subst h1 h2 h5 h6 h7
  refine weak (t := tCall (spF g f) dvs E (tIs g E H0 ms)) ⟨fun pins s σ H Q I h => ?_⟩ (call_go rfl hr)
  refine wpAny_Call_Name_kw (ld_glob I hg hm (PySem.W.callWith_K (h₀ := g.base) I.ok.mod.kin kp (thn (ha.run pos pins s σ H _ I h) fun us s1 ⟨vs, H1, I1, r, q⟩ => ⟨I1.kIn, run_g F h10 (h8.mono hk) b hd h9 I1 r q⟩) he hpl) hdb)
/-- a def whose body asks for repr -/
theorem def_okG {qual : Str} {st : Stmt} {fa : Addr} {fd : FuncData} {N ps : List Str} {n : Nat} {b : Ms} (F : L2.Fun g.K x qual st fa fd) (S : FnScope N ps (defScope st)) (hn : ps.length = n) (hN : n ≤ N.length)
    (fx : Fx g) (hb : ∀ (E : XK) (w0 : Wd) (H0 : Hp) (X : Cx), OkG g E k X → PassesOwn (model X.prog X.w) X.A X.env X.xe → L2N.Takes X (fun cls d _ H => E cls d H) → X.N = N → X.env.scope = defScope st → X.fn = (fun _ => true) → SndB g E w0 H0 X (defBody st) b) :
    FnG g.prog g.w g.K g.mg g.base (L2N.CX g.prog g.w) (k + 1) fa fd ps (spF g (mkFn n N.length b)) := by
  obtain ⟨oc, od, kV, doc, pm, an, cdv, ct, osl, rfl, lk, hcd⟩ := F.ex
  have hl : ∀ vs H Q E, spF g (mkFn n N.length b) vs H Q E → vs.length = ps.length := fun vs H Q E h => by
    obtain ⟨w, ds, B, rb, r, p⟩ := h
    unfold mkFn at p
    split at p
    · rename_i e; rw [r.len, e, hn]
    · exact p.elim
  refine ⟨hl, fun A outer s H args us vs Q E hg hr e0 hbd r h => ?_⟩
  refine StX.run_bnd lk hcd S hr e0 (G := fun xs H2 => xs = vs ∧ H2 = H) (fun A' Ex Q' hq => hbd _ _ _ _ (hq s H vs us e0 Un.refl rfl (fun _ _ z => z) r (hl _ _ _ _ h) ⟨rfl, rfl⟩)) ?_
  rintro s2 H2 xs ⟨rfl, rfl⟩ hr'
  obtain ⟨w, ds, B, rb, r, p⟩ := h
  unfold mkFn at p
  split at p
  · rename_i e
    refine ⟨_, hb E w H2 _ ⟨⟨⟨rfl, rfl, rfl, ?_, rfl, rfl, rfl, fx⟩, hr', ?_⟩, hg⟩ (passes_of rfl) (L2N.takes_of rfl rfl rfl rfl) rfl rfl rfl, ?_⟩
    · have := hr'.un; show A.units + 3 + 100 < cLine; have h2 : A.units + 3 + 16 * k + 200 < cLine := this; omega
    · exact L2N.passes_call (L2N.takes_of rfl rfl rfl rfl) (fun _ _ _ _ h => h)
    · refine ⟨w, _, B, start_at rb r e hN, Ext.refl _ _, ?_⟩
      revert p
      generalize b _ B = q
      intro p
      cases q with
      | next σI' B' => exact fun w' σ H' _ s x => p w' .non H' x s.rb (rep_none g w')
      | ret d B' => exact fun w' v H' rb x r => p w' v H' x rb r
      | exc c y B' => exact fun w' cls dd H' rb x r => p w' cls dd H' x rb r
      | bad => exact p
  · exact p.elim
end
end Hf

set_option Elab.async false
set_option linter.all false
set_option maxRecDepth 100000
set_option maxHeartbeats 4000000
namespace Hf
open PySem PySem.Spec PyProof.Rows L2

/-! ### the built-ins by their names -/
theorem bt_len : bootBuiltins "len" = some (.builtin "len") := by decide +kernel
theorem bt_all : bootBuiltins "all" = some (.builtin "all") := by decide +kernel
theorem bt_any : bootBuiltins "any" = some (.builtin "any") := by decide +kernel
theorem bt_sum : bootBuiltins "sum" = some (.builtin "sum") := by decide +kernel
theorem bt_max : bootBuiltins "max" = some (.builtin "max") := by decide +kernel
theorem bt_min : bootBuiltins "min" = some (.builtin "min") := by decide +kernel
theorem bt_sorted : bootBuiltins "sorted" = some (.builtin "sorted") := by decide +kernel
theorem bt_repr : bootBuiltins "repr" = some (.builtin "repr") := by decide +kernel
theorem bt_tuple : bootBuiltins "tuple" = some (.type "tuple") := by decide +kernel
theorem bt_list : bootBuiltins "list" = some (.type "list") := by decide +kernel
theorem bt_int : bootBuiltins "int" = some (.type "int") := by decide +kernel
theorem bt_str : bootBuiltins "str" = some (.type "str") := by decide +kernel
section
variable {g : Gs} {E : XK} {w0 w : Wd} {H0 H : Hp} {X : Cx} {a b e : Expr} {ma mb m : Ev} {pos p1 : Pos} {b1 b2 : Bool} {lv : Nat} {st : Stmt}
theorem q_len (c : Ok g X) (he : Snd g E H0 X b1 e m) (hg : Gl X "len" := by rfl) (h1 : starEach (e :: []) X.env = (false, eval e X.env) :: starEach [] X.env := by rfl) : Snd g E H0 X false (.Call (.Name "len" p1) [e] [] pos) (m1 fLen m) := s_b1 (o_len c) bt_len (nbs c) he hg (by decide) (by decide) h1
theorem q_all (c : Ok g X) (he : Snd g E H0 X b1 e m) (hg : Gl X "all" := by rfl) (h1 : starEach (e :: []) X.env = (false, eval e X.env) :: starEach [] X.env := by rfl) : Snd g E H0 X false (.Call (.Name "all" p1) [e] [] pos) (m1 fAll m) := s_b1 (o_all c) bt_all (nbs c) he hg (by decide) (by decide) h1
theorem q_any (c : Ok g X) (he : Snd g E H0 X b1 e m) (hg : Gl X "any" := by rfl) (h1 : starEach (e :: []) X.env = (false, eval e X.env) :: starEach [] X.env := by rfl) : Snd g E H0 X false (.Call (.Name "any" p1) [e] [] pos) (m1 fAny m) := s_b1 (o_any c) bt_any (nbs c) he hg (by decide) (by decide) h1
theorem q_sum (c : Ok g X) (he : Snd g E H0 X b1 e m) (hg : Gl X "sum" := by rfl) (h1 : starEach (e :: []) X.env = (false, eval e X.env) :: starEach [] X.env := by rfl) : Snd g E H0 X false (.Call (.Name "sum" p1) [e] [] pos) (m1 fSum m) := s_b1 (o_sum c) bt_sum (nbs c) he hg (by decide) (by decide) h1
theorem q_max1 (c : Ok g X) (he : Snd g E H0 X b1 e m) (hg : Gl X "max" := by rfl) (h1 : starEach (e :: []) X.env = (false, eval e X.env) :: starEach [] X.env := by rfl) : Snd g E H0 X false (.Call (.Name "max" p1) [e] [] pos) (m1 fMax1 m) := s_b1 (o_max1 c) bt_max (nbs c) he hg (by decide) (by decide) h1
theorem q_min1 (c : Ok g X) (he : Snd g E H0 X b1 e m) (hg : Gl X "min" := by rfl) (h1 : starEach (e :: []) X.env = (false, eval e X.env) :: starEach [] X.env := by rfl) : Snd g E H0 X false (.Call (.Name "min" p1) [e] [] pos) (m1 fMin1 m) := s_b1 (o_min1 c) bt_min (nbs c) he hg (by decide) (by decide) h1
theorem q_max2 (c : Ok g X) (ha : Snd g E H0 X b1 a ma) (hb : Snd g E H0 X b2 b mb) (hg : Gl X "max" := by rfl) (h1 : starEach (a :: [b]) X.env = (false, eval a X.env) :: starEach [b] X.env := by rfl) (h2 : starEach (b :: []) X.env = (false, eval b X.env) :: starEach [] X.env := by rfl) (hpl : (backTo pos (starEach [b] X.env)).any (·.1) = false := by rfl) :
    Snd g E H0 X false (.Call (.Name "max" p1) [a, b] [] pos) (mBin fMax2 ma mb) := s_b2 (o_max2 c) bt_max (nbs c) ha hb hg (by decide) (by decide) h1 h2 hpl
theorem q_min2 (c : Ok g X) (ha : Snd g E H0 X b1 a ma) (hb : Snd g E H0 X b2 b mb) (hg : Gl X "min" := by rfl) (h1 : starEach (a :: [b]) X.env = (false, eval a X.env) :: starEach [b] X.env := by rfl) (h2 : starEach (b :: []) X.env = (false, eval b X.env) :: starEach [] X.env := by rfl) (hpl : (backTo pos (starEach [b] X.env)).any (·.1) = false := by rfl) :
    Snd g E H0 X false (.Call (.Name "min" p1) [a, b] [] pos) (mBin fMin2 ma mb) := s_b2 (o_min2 c) bt_min (nbs c) ha hb hg (by decide) (by decide) h1 h2 hpl
theorem q_repr (c : OkG g E lv X) (he : Snd g E H0 X b1 e m) (hg : Gl X "repr" := by rfl) (h1 : starEach (e :: []) X.env = (false, eval e X.env) :: starEach [] X.env := by rfl) : Snd g E H0 X false (.Call (.Name "repr" p1) [e] [] pos) (m1 fRepr m) := s_b1 (o_repr c) bt_repr (nbs c.toOk) he hg (by decide) (by decide) h1
theorem q_sorted (c : Ok g X) (he : Snd g E H0 X b1 e m) (hg : Gl X "sorted" := by rfl) (h1 : starEach (e :: []) X.env = (false, eval e X.env) :: starEach [] X.env := by rfl) : SndF g E H0 X (.Call (.Name "sorted" p1) [e] [] pos) (m1 fSrt m) := f_b1 (o_sorted c) bt_sorted (nbs c) he hg (by decide) (by decide) h1
theorem q_tuple (c : Ok g X) (he : Snd g E H0 X b1 e m) (hg : Gl X "tuple" := by rfl) (h1 : starEach (e :: []) X.env = (false, eval e X.env) :: starEach [] X.env := by rfl) : Snd g E H0 X false (.Call (.Name "tuple" p1) [e] [] pos) (m1 fTupO m) := s_ty1 (o_tuple c) bt_tuple (nbs c) he hg (by decide) (by decide) h1
theorem q_list (c : Ok g X) (he : Snd g E H0 X b1 e m) (hg : Gl X "list" := by rfl) (h1 : starEach (e :: []) X.env = (false, eval e X.env) :: starEach [] X.env := by rfl) : SndF g E H0 X (.Call (.Name "list" p1) [e] [] pos) (m1 fLstO m) := f_ty1 (o_list c) bt_list (nbs c) he hg (by decide) (by decide) h1
theorem q_int (c : Ok g X) (he : Snd g E H0 X b1 e m) (hg : Gl X "int" := by rfl) (h1 : starEach (e :: []) X.env = (false, eval e X.env) :: starEach [] X.env := by rfl) : Snd g E H0 X false (.Call (.Name "int" p1) [e] [] pos) (m1 fInt m) := s_ty1 o_int bt_int (nbs c) he hg (by decide) (by decide) h1
theorem q_str (c : Ok g X) (he : Snd g E H0 X b1 e m) (hg : Gl X "str" := by rfl) (h1 : starEach (e :: []) X.env = (false, eval e X.env) :: starEach [] X.env := by rfl) : Snd g E H0 X false (.Call (.Name "str" p1) [e] [] pos) (m1 fStrI m) := s_ty1 o_str bt_str (nbs c) he hg (by decide) (by decide) h1
/-- what is not reached may be anything -/
def mBad : Ms := fun _ _ => .bad
theorem z_bad : SndS g E w0 H0 X st mBad := ⟨fun pins s σ H Q I q => by
  obtain ⟨_, _, _, _, _, z⟩ := q
  exact z.elim⟩
/-- [..] * k: a new list -/
def fMulL : D → D → Bs → Rs D
  | .lst a, .int k, B => if decide (k < 1000) && decide (-1000 < k) && decide (a.length ≤ 1000) then .ok (.lst (List.replicate k.toNat a).flatten) B else .bad
  | _, _, _ => .bad
theorem f_mul (ha : Snd g E H0 X b1 a ma) (hb : Snd g E H0 X b2 b mb) : SndF g E H0 X (.BinOp a .Mult b pos) (mBin fMulL ma mb) := by
  refine weak (pe_op op_rep ha hb) ?_
  rintro σ H Q ⟨w, σI, B, s, p⟩
  refine tI_bindF s p fun d B1 w1 v H1 x1 s1 r1 p1 => ?_
  refine tI_bindF s1 p1 fun d2 B2 w2 v2 H2 x2 s2 r2 p2 => ?_
  unfold fMulL at p2
  split at p2
  · split at p2
    · rename_i ds k h
      simp only [Bool.and_eq_true, decide_eq_true_eq] at h
      obtain ⟨⟨h1, h2⟩, h3⟩ := h
      obtain ⟨a, vs, rfl, q1, r⟩ := (r1.up.mono x2.le).lst s2
      refine ⟨a, k, vs, rfl, r2.up.int s2, q1, by omega, by omega, ?_, fun q hq => p2.newL s2 (r.rep _) hq⟩
      rw [r.len, sizeLine_eq]
      have a1 : ds.length * k.toNat ≤ 1000 * 1000 := Nat.mul_le_mul h3 (by omega)
      omega
    · exact p2.elim
  · exact p2.elim
/-- a, b = x, y -/
theorem z_par2 {i j : Nat} {x y : Str} {px py pt : Pos} {kt k2 : Nat} {pt2 : Pos} (c : Ok g X) (hN : X.N.Nodup) (ha : Snd g E H0 X false a ma) (hb : Snd g E H0 X false b mb) (hw : swappedStores [.Tuple [.Name x px, .Name y py] kt pt] (.Tuple [a, b] k2 pt2) X.env = pure (some [x, y]) := by rfl)
    (hi : X.N[i]? = some x := by rfl) (hj : X.N[j]? = some y := by rfl) (hij : i ≠ j := by decide) (hx : X.env.scope.names.lookup x = some .local := by rfl) (hy : X.env.scope.names.lookup y = some .local := by rfl)
    (hs : swapsWithSole [.Tuple [.Name x px, .Name y py] kt pt] (.Tuple [a, b] k2 pt2) pos.line X.env = pure false := by rfl) (h1 : starEach [a, b] X.env = (false, eval a X.env) :: starEach [b] X.env := by rfl) (h2 : starEach [b] X.env = (false, eval b X.env) :: starEach [] X.env := by rfl) :
    SndS g E w0 H0 X (.Assign [.Tuple [.Name x px, .Name y py] kt pt] (.Tuple [a, b] k2 pt2) pos) (mAsg (gT (gsC (gN i) (gsC (gN j) gs0))) (mTup (mCons ma (mCons mb mNil)))) := by
  refine weakS (ps_par c.calm hN hi hj hij hx hy (pa_cons ha (pa_cons hb pa_nil h2) h1) hw hs) ?_
  rintro D σ H ⟨w, σI, B, s, x0, p⟩
  unfold mAsg mTup mCons mNil at p
  cases qa : ma σI B with
  | bad => simp only [qa, Rs.bind, Rs.st] at p; exact p.elim
  | exc cc yy B1 =>
    simp only [qa, Rs.bind, Rs.st] at p
    refine tI_go s (fun c x B1 q w' cls dd H' x' rb r => ?_) (by rw [qa]; simp) fun d B1 q => by rw [qa] at q; cases q
    rw [qa] at q; cases q
    exact p w' cls dd H' rb (x0.trans x') r
  | ok d1 B1 =>
    simp only [qa, Rs.bind] at p
    refine tI_go s (fun c x B1 q => by rw [qa] at q; cases q) (by rw [qa]; simp) fun d B1' q w1 v H1 x1 s1 r1 => ?_
    rw [qa] at q; cases q
    cases qb : mb σI B1 with
    | bad => simp only [qb, Rs.bind, Rs.st] at p; exact p.elim
    | exc cc yy B2 =>
      simp only [qb, Rs.bind, Rs.st] at p
      refine tI_go s1 (fun c x B1 q w' cls dd H' x' rb r => ?_) (by rw [qb]; simp) fun d B1 q => by rw [qb] at q; cases q
      rw [qb] at q; cases q
      exact p w' cls dd H' rb ((x0.trans x1).trans x') r
    | ok d2 B2 =>
      simp only [qb, Rs.bind] at p
      refine tI_go s1 (fun c x B1 q => by rw [qb] at q; cases q) (by rw [qb]; simp) fun d B1' q w2 v2 H2 x2 s2 r2 => ?_
      rw [qb] at q; cases q
      have hz : szL [d1, d2] = true := decide_eq_true (show 2 ≤ sizeLine by rw [sizeLine_eq]; omega)
      simp only [hz, if_true, Rs.st, gT, gsC, gN, gs0, Option.bind] at p
      exact ⟨v, v2, rfl, PostS.le (x1.le.trans x2.le) p w2 _ H2 (Le.refl _) ((s2.set i (Rep.mono x2.le _ _ r1)).set j r2) ((x0.trans x1).trans x2)⟩
theorem z_par3 {i j l : Nat} {c3 : Expr} {mc : Ev} {x y z : Str} {px py pz pt : Pos} {kt k2 : Nat} {pt2 : Pos} (c : Ok g X) (hN : X.N.Nodup) (ha : Snd g E H0 X false a ma) (hb : Snd g E H0 X false b mb) (hc : Snd g E H0 X false c3 mc) (hw : swappedStores [.Tuple [.Name x px, .Name y py, .Name z pz] kt pt] (.Tuple [a, b, c3] k2 pt2) X.env = pure (some [x, y, z]) := by rfl)
    (hi : X.N[i]? = some x := by rfl) (hj : X.N[j]? = some y := by rfl) (hl : X.N[l]? = some z := by rfl) (hij : i ≠ j := by decide) (hil : i ≠ l := by decide) (hjl : j ≠ l := by decide) (hx : X.env.scope.names.lookup x = some .local := by rfl) (hy : X.env.scope.names.lookup y = some .local := by rfl) (hz : X.env.scope.names.lookup z = some .local := by rfl)
    (hs : swapsWithSole [.Tuple [.Name x px, .Name y py, .Name z pz] kt pt] (.Tuple [a, b, c3] k2 pt2) pos.line X.env = pure false := by rfl) (h1 : starEach [a, b, c3] X.env = (false, eval a X.env) :: starEach [b, c3] X.env := by rfl) (h2 : starEach [b, c3] X.env = (false, eval b X.env) :: starEach [c3] X.env := by rfl) (h3 : starEach [c3] X.env = (false, eval c3 X.env) :: starEach [] X.env := by rfl) :
    SndS g E w0 H0 X (.Assign [.Tuple [.Name x px, .Name y py, .Name z pz] kt pt] (.Tuple [a, b, c3] k2 pt2) pos) (mAsg (gT (gsC (gN i) (gsC (gN j) (gsC (gN l) gs0)))) (mTup (mCons ma (mCons mb (mCons mc mNil))))) := by
  refine weakS (ps_par3 c.calm hN hi hj hl hij hil hjl hx hy hz (pa_cons ha (pa_cons hb (pa_cons hc pa_nil h3) h2) h1) hw hs) ?_
  rintro D σ H ⟨w, σI, B, s, x0, p⟩
  unfold mAsg mTup mCons mNil at p
  cases qa : ma σI B with
  | bad => simp only [qa, Rs.bind, Rs.st] at p; exact p.elim
  | exc cc yy B1 =>
    simp only [qa, Rs.bind, Rs.st] at p
    refine tI_go s (fun c x B1 q w' cls dd H' x' rb r => ?_) (by rw [qa]; simp) fun d B1 q => by rw [qa] at q; cases q
    rw [qa] at q; cases q
    exact p w' cls dd H' rb (x0.trans x') r
  | ok d1 B1 =>
    simp only [qa, Rs.bind] at p
    refine tI_go s (fun c x B1 q => by rw [qa] at q; cases q) (by rw [qa]; simp) fun d B1' q w1 v H1 x1 s1 r1 => ?_
    rw [qa] at q; cases q
    cases qb : mb σI B1 with
    | bad => simp only [qb, Rs.bind, Rs.st] at p; exact p.elim
    | exc cc yy B2 =>
      simp only [qb, Rs.bind, Rs.st] at p
      refine tI_go s1 (fun c x B1 q w' cls dd H' x' rb r => ?_) (by rw [qb]; simp) fun d B1 q => by rw [qb] at q; cases q
      rw [qb] at q; cases q
      exact p w' cls dd H' rb ((x0.trans x1).trans x') r
    | ok d2 B2 =>
      simp only [qb, Rs.bind] at p
      refine tI_go s1 (fun c x B1 q => by rw [qb] at q; cases q) (by rw [qb]; simp) fun d B1' q w2 v2 H2 x2 s2 r2 => ?_
      rw [qb] at q; cases q
      cases qc : mc σI B2 with
      | bad => simp only [qc, Rs.bind, Rs.st] at p; exact p.elim
      | exc cc yy B2 =>
        simp only [qc, Rs.bind, Rs.st] at p
        refine tI_go s2 (fun c x B1 q w' cls dd H' x' rb r => ?_) (by rw [qc]; simp) fun d B1 q => by rw [qc] at q; cases q
        rw [qc] at q; cases q
        exact p w' cls dd H' rb (((x0.trans x1).trans x2).trans x') r
      | ok d3 B3 =>
        simp only [qc, Rs.bind] at p
        refine tI_go s2 (fun c x B1 q => by rw [qc] at q; cases q) (by rw [qc]; simp) fun d B1' q w3 v3 H3 x3 s3 r3 => ?_
        rw [qc] at q; cases q
        have hz : szL [d1, d2, d3] = true := decide_eq_true (show 3 ≤ sizeLine by rw [sizeLine_eq]; omega)
        simp only [hz, if_true, Rs.st, gT, gsC, gN, gs0, Option.bind] at p
        exact ⟨v, v2, v3, rfl, PostS.le ((x1.le.trans x2.le).trans x3.le) p w3 _ H3 (Le.refl _) (((s3.set i (Rep.mono (x2.le.trans x3.le) _ _ r1)).set j (Rep.mono x3.le _ _ r2)).set l r3) (((x0.trans x1).trans x2).trans x3)⟩
/-- self.f = e in an __init__, f the j-th field -/
def mFldJ (c j : Nat) (m : Ev) : Ms := fun σ B => match σ[(0 : Nat)]? with
  | some (some (true, .inst _ ds)) => if ds.length = j then mFldSet c m σ B else .bad
  | _ => .bad
end
end Hf

set_option Elab.async false
set_option linter.all false
set_option maxRecDepth 100000
set_option maxHeartbeats 4000000
namespace Hf
open PySem PySem.Spec PyProof.Rows L2

/-! ### the head: the law's call, no repr under way -/
theorem law_callG {P : Program} {w : World} {K : PySem.W.Frag} {mg mb : Str → Option Value} {CX : CXT} {k : Nat} {fa a : Addr} {fd : FuncData} {x : Str} {sp : Sp} {s₁ : Shared} {vs : List Value} {ns : List Int}
    (KX : K.In s₁.heap) (hns : s₁.heap.Ns mainGlobals mg) (hb : s₁.heap.Ns builtinsNs mb) (hbb : ∀ x : Str, x ≠ "__name__" → mb x = bootBuiltins x) (hlim : s₁.heap.NoLimit) (hg : s₁.gens = #[])
    (ha : s₁.heap.get? a = some { cls := .type "list", data := .seq vs.toArray }) (hi : IntsAre vs ns) (hl : ns.length ≤ sizeLine) (hr : Room k callerA)
    (F : ∀ base : Heap, K.In base → base.Ns mainGlobals mg → FnG P w K mg base CX k fa fd [x] sp) (hbind : ∀ (s : Shared) (uu : Value), BindsTo s fd ⟨[uu], []⟩ [(x, uu)])
    (hsp : ∀ H : Hp, Only H → SqL K H a (ns.map V.int) → sp [.ref a] H (fun v _ => v = .bl true) fun _ _ _ => False)
    (hCX : ∀ H e s', CX [] H s₁ (fun _ _ _ => False) e s' → False) :
    codeAny (model P w) callerA (.call (.ref fa) ⟨[.ref a], []⟩) (fun r s' => r = .ok (.ret (.bool true)) ∧ OldK s₁.heap s'.heap ∧ s'.os = s₁.os ∧ AllBare s'.gens) s₁ := by
  have rvs := vals_ints hi
  have lenVs := hi.length
  -- from an abstract heap in which nothing but the script may be tracked
  have main1 : ∀ H : Hp, Only H → SqL K H a (ns.map V.int) → HOk P w H s₁.heap → (∀ b, H b ≠ none → b = a) → (H a ≠ none → K.lookup a = none) →
      codeAny (model P w) callerA (.call (.ref fa) ⟨[.ref a], []⟩) (fun r s' => r = .ok (.ret (.bool true)) ∧ OldK s₁.heap s'.heap ∧ s'.os = s₁.os ∧ AllBare s'.gens) s₁ := by
    intro H hOn hSq hHO hAd hKn
    have inB : ∀ {b : Addr} {o : Obj}, s₁.heap.get? b = some o → H b = none → (hidT s₁.heap H).get? b = some o := fun e n => hidT_get e n
    have notD : ∀ {b : Addr} {o : Obj} {es : Array DictEntry} {ep : Nat}, s₁.heap.get? b = some o → o.data = .dict es ep → H b = none := fun {b o es ep} e d => by
      cases qq : H b with
      | none => rfl
      | some uu =>
        have ee : b = a := hAd b (by rw [qq]; simp)
        subst ee
        rw [ha] at e; cases e
        have dd' : Data.seq vs.toArray _ = Data.dict es ep := d
        cases dd'
    have nsB : ∀ {b : Addr} {m : Str → Option Value}, s₁.heap.Ns b m → (hidT s₁.heap H).Ns b m := fun {b m} ⟨o, es, ep, e, d, r⟩ => ⟨o, es, ep, inB e (notD e d), d, r⟩
    have hKB : K.In (hidT s₁.heap H) := fun b o e => inB (KX b o e) (by
      cases qq : H b with
      | none => rfl
      | some uu =>
        have ee : b = a := hAd b (by rw [qq]; simp)
        subst ee
        rw [hKn (by rw [qq]; simp)] at e; cases e)
    have hMod : Mod K mg (hidT s₁.heap H) := ⟨hKB, nsB hns, ⟨mb, nsB hb, hbb⟩, let ⟨mc, h1, h2⟩ := hlim; ⟨mc, nsB h1, h2⟩⟩
    have env1 : Env0 P w K mg (hidT s₁.heap H) callerA [] s₁ H := ⟨rfl, hMod, fun b o e => of_hidT e, Nat.le_of_eq (hidT_size _ _), trivial, fun b hb => absurd (show b ∈ ([] : List Addr) from hb) (by simp), hHO, .of_eq hg⟩
    refine codeAny_mono ((F _ hKB (nsB hns)).run callerA [] s₁ H ⟨[.ref a], []⟩ [.ref a] [.ref a] _ _ rfl hr env1 (hbind s₁ (.ref a)) (.cons rfl .nil) (hsp H hOn hSq)) fun r s' h => ?_
    cases r with
    | error e => exact (hCX H e s' h).elim
    | ok fl =>
      cases fl with
      | next => exact False.elim h
      | brk => exact False.elim h
      | cont => exact False.elim h
      | ret uu =>
        obtain ⟨v, H', os, bar, unn, hHO', rr', qq⟩ := h
        have qq' : v = .bl true := qq
        subst qq'
        obtain rfl : uu = Value.bool true := rr'
        refine ⟨rfl, OldK.of_keep fun b o e => ?_, os, bar⟩
        cases qq : H b with
        | none => exact unn.keep b o e qq (by intro zz; exact absurd (show b ∈ ([] : List Addr) from zz) (by simp)) (by simp)
        | some uu =>
          rcases hOn b with zz | ⟨obj, xx, zz⟩
          · rw [qq] at zz; cases zz
          · have zz2 := unn.frzs b obj _ zz
            obtain ⟨ee1, _⟩ := hHO b _ zz
            obtain ⟨ee2, _⟩ := hHO' b _ zz2
            rw [e] at ee1; cases ee1
            exact ee2
  cases hkk : K.lookup a with
  | some o =>
    -- the script is one of the module's own objects
    have e := KX a o hkk
    rw [ha] at e
    cases e
    refine main1 (fun _ => none) (fun _ => .inl rfl) (.inr ⟨_, vs.toArray, _, hkk, rfl, rfl, rfl, by rw [List.size_toArray, lenVs]; exact hl, by simpa using rvs⟩) (fun b uu zz => by have zz' : (none : Option HO) = some uu := zz; cases zz') (fun b zz => absurd rfl zz) fun zz => absurd rfl zz
  | none =>
    refine main1 (fun b => if b = a then some (.frz { cls := .type "list", data := .seq vs.toArray } (.lst (ns.map V.int))) else none) (fun b => ?_) (.inl (.inr ⟨{ cls := .type "list", data := .seq vs.toArray }, if_pos rfl⟩)) (fun b uu zz => ?_) (fun b zz => ?_) fun _ => hkk
    · by_cases hb : b = a
      · exact .inr ⟨_, _, if_pos hb⟩
      · exact .inl (if_neg hb)
    · by_cases hb : b = a
      · have zz' := (if_pos hb).symm.trans zz
        cases zz'
        subst hb
        exact ⟨ha, by rw [List.length_map]; exact hl, vs, _, rvs, ha⟩
      · have zz' := (if_neg hb).symm.trans zz
        cases zz'
    · by_cases hb : b = a
      · exact hb
      · exact absurd (if_neg hb) zz

theorem walkG {l : PySem.W.OpenLaw} {n k : Nat} {q : Program} {loose : List Str} {XP : (Str → Option Value) → Heap → Prop} {YP : World → Heap → Prop} {d : DefRec} {K : Params → PySem.W.Frag} {CX : World → CXT} {sp : World → Sp} {x : Str}
    (hn : l.most = some n) (hn2 : n ≤ sizeLine) (hdf : d.params.defaults = []) (hr : Room k callerA) (hY : ∀ (w : World) (h : Heap), YP w h → (K w.params).In h)
    (F : ∀ (w : World) (mg : Str → Option Value) (fa : Addr) (h : Heap), (K w.params).In h → h.Ns mainGlobals mg → mg d.name = some (.ref fa) → ∃ fd : FuncData, (∀ (s : Shared) (u : Value), BindsTo s fd ⟨[u], []⟩ [(x, u)]) ∧
      ∀ base : Heap, (K w.params).In base → base.Ns mainGlobals mg → FnG l.prog w (K w.params) mg base (CX w) k fa fd [x] (sp w))
    (hsp : ∀ (w : World) (H : Hp) (a : Addr) (ns : List Int), ns.length ≤ n → (∀ z ∈ ns, Builtin.Int.intBits z ≤ 1048576) → Only H → SqL (K w.params) H a (ns.map V.int) → sp w [.ref a] H (fun v _ => v = .bl true) fun _ _ _ => False)
    (hCX : ∀ (w : World) (H : Hp) (s : Shared) (e : Value) (s' : Shared), CX w [] H s (fun _ _ _ => False) e s' → False) : PySem.W.WalkO q loose XP YP l.row.toRowW d [] (fun f vs => PySem.call f vs) := by
  refine Att.attach_callB hn hdf fun w s₀ s₁ mg mb fa o pm cd doc a vs ns G Y ho hd hcd hmg hobj hints hlen hbits hg => ?_
  obtain ⟨fd, hb, hF⟩ := F w mg fa _ (hY w _ Y) G.T.g hmg
  exact law_callG (hY w _ Y) G.T.g G.T.b G.T.builtins G.T.nolimit hg hobj hints (Nat.le_trans hlen hn2) hr hF hb (fun H hO hS => hsp w H a ns hlen hbits hO hS) fun H e s' => hCX w H s₁ e s'
/-- the law's promise: a script of whole numbers is handed in, True comes out -/
def spL (K : PySem.W.Frag) : Sp := fun vs H Q _ => ∃ (a : Addr) (ns : List Int), vs = [.ref a] ∧ SqL K H a (ns.map V.int) ∧ ns.length ≤ 63 ∧ Only H ∧ ∀ H', Q (.bl true) H'
theorem top_promise {P : Program} {w : World} {K : PySem.W.Frag} {mg : Str → Option Value} {base : Heap} {CX : CXT} {k : Nat} {fa : Addr} {fd : FuncData} {x : Str} {g : Gs} {f : Fn} (hg : g.K = K) (ht : g.tabs = []) (F : FnG P w K mg base CX k fa fd [x] (spF g f))
    (hf : ∀ ns : List Int, ns.length ≤ 63 → ∃ B, f [.scr (ns.map D.int)] [] = .ok (.bool true) B) : FnG P w K mg base CX k fa fd [x] (spL K) := by
  subst hg
  have imp : ∀ vs H Q E, spL g.K vs H Q E → spF g f vs H Q E := by
    rintro vs H Q E ⟨a, ns, rfl, hS, hl, hO, hq⟩
    obtain ⟨B, hB⟩ := hf ns hl
    refine ⟨{ P := H, io := fun _ => Option.none }, [.scr (ns.map D.int)], [], ⟨Same.refl _, fun n b e => by simp at e, fun _ _ _ e => (nomatch e), fun _ _ e => (nomatch e), fun _ _ e => (nomatch e), fun p hp => (by rw [ht] at hp; cases hp), fun b ps e => by
      rcases hO b with z | ⟨o, x, z⟩
      · have e' : H b = some (.tbl ps) := e
        rw [z] at e'; cases e'
      · have e' : H b = some (.tbl ps) := e
        rw [z] at e'; cases e'⟩, ?_, ?_⟩
    · simp only [Reps, Rep]
      exact ⟨_, _, rfl, ⟨a, ns.map V.int, rfl, hS, reps_ints g _ ns⟩, rfl⟩
    · rw [hB]
      intro w' v H' _ _ r
      simp only [Rep] at r
      subst r
      exact hq H'
  exact ⟨fun vs H Q E h => F.len vs H Q E (imp _ _ _ _ h), fun A outer s H args us vs Q E hg hr e0 hb r h => F.run A outer s H args us vs Q E hg hr e0 hb r (imp _ _ _ _ h)⟩
/-! ### isinstance's answers from a class's record -/
theorem kit_obj {K : PySem.W.Frag} {C : Addr} {b : String} (h : PySem.W.mroIn K C (.type b) = some false) (hm : PySem.W.kitMeta b = true := by decide +kernel) : PySem.W.kitOne K (.ref C) (.type b) = some false := by
  have e : (Value.ref C == Value.type b) = false := beq_eq_false_iff_ne.mpr (fun z => nomatch z)
  unfold PySem.W.kitOne PySem.W.kitCls
  simp only [e, Bool.false_eq_true, if_false, hm, if_true]
  exact h
theorem kit_self {K : PySem.W.Frag} {C : Addr} : PySem.W.kitOne K (.ref C) (.ref C) = some true := by
  unfold PySem.W.kitOne
  rw [if_pos (beq_self_eq_true _)]
theorem mro_no (C : Addr) : ∀ T ∈ ["NoneType", "int", "bool", "str", "list", "tuple", "dict"], (fastBuiltinMro T).map (·.contains (Value.ref C)) = some false := by
  intro T h
  simp only [List.mem_cons, List.not_mem_nil, or_false] at h
  rcases h with rfl | rfl | rfl | rfl | rfl | rfl | rfl <;> kernel_rfl
theorem kit_own {K : PySem.W.Frag} {C : Addr} {T : String} (hT : T ∈ ["NoneType", "int", "bool", "str", "list", "tuple", "dict"]) (hi : PySem.W.isClsIn K C = true) (ht : PySem.W.typeIn K (.ref C) = some (.type "type")) : PySem.W.kitOne K (.type T) (.ref C) = some false := by
  have e : (Value.type T == Value.ref C) = false := beq_eq_false_iff_ne.mpr (fun z => nomatch z)
  have hc : (PySem.W.clsIn K C).isSome = true := hi
  unfold PySem.W.kitOne PySem.W.kitCls
  simp only [e, Bool.false_eq_true, if_false, hc, ht, beq_self_eq_true, Bool.and_self, if_true]
  exact mro_no C T hT
end Hf

set_option Elab.async false
set_option linter.all false
set_option maxRecDepth 100000
set_option maxHeartbeats 8000000
namespace Hf
open PySem PySem.Spec PyProof.Rows L2

/-! ### a set of whole numbers, made of a list -/
theorem dd_more {ks : List Int} {i : Nat} {k : Int} (h : ks[i]? = some k) : (dd (ks.take (i + 1))).length = if decide (k ∈ ks.take i) = true then (dd (ks.take i)).length else (dd (ks.take i)).length + 1 := by
  have e : ks.take (i + 1) = ks.take i ++ [k] := by rw [List.take_add_one, h]; rfl
  by_cases c : k ∈ ks.take i
  · rw [decide_eq_true c, if_pos rfl]
    refine nodup_len (nodup_dd _) (nodup_dd _) fun a => ?_
    rw [mem_dd, mem_dd, e, List.mem_append, List.mem_singleton]
    exact ⟨fun h => h.elim id fun h => h ▸ c, .inl⟩
  · rw [decide_eq_false c, if_neg (by decide)]
    have : (dd (ks.take i)).length + 1 = (k :: dd (ks.take i)).length := rfl
    rw [this]
    refine nodup_len (nodup_dd _) (List.nodup_cons.mpr ⟨fun h => c (mem_dd.mp h), nodup_dd _⟩) fun a => ?_
    rw [mem_dd, e, List.mem_append, List.mem_singleton, List.mem_cons, mem_dd]
    exact ⟨fun h => h.elim .inr .inl, fun h => h.elim .inr .inl⟩
section
variable {P : Program} {w : World} {A : Around}
theorem set_update_ints {I : Addr} {fp wr : List Addr} {G : Array GenState → Array GenState → Prop} {n : Nat} {Pv : Nat → Value → Prop} {St : Nat → Shared → Prop} {R : Result → Shared → Prop}
    (W : WalksS P w A.in1 I fp wr G n Pv St) (S : Addr) (hSf : S ∉ fp) (ks : List Int) (hn : n = ks.length) (hfew : ks.length < 64) (hval : ∀ i v, Pv i v → ∃ k t, ks[i]? = some k ∧ v = .int k t)
    (h0 : Heap) (hS0 : h0.get? S = none) (hw0 : ∀ b ∈ wr, h0.get? b = none) :
    ∀ (k i : Nat) (s : Shared), n - i = k → i ≤ n → St i s → (∀ b o, h0.get? b = some o → s.heap.get? b = some o) → SetR w s.heap S (fun j => decide (j ∈ ks.take i)) (dd (ks.take i)).length →
      (∀ s', Moved (S :: wr) G s s' → SetR w s'.heap S (fun j => decide (j ∈ ks)) (dd ks).length → (∀ b o, h0.get? b = some o → s'.heap.get? b = some o) → R (.ok (.ret .none)) s') →
      codeAny (model P w) A (.builtin "set.update.loop" ⟨[.ref S, .ref I], []⟩) R s := by
  have hSw : S ∉ wr := fun h => hSf (W.sub _ h)
  have hsub : ∀ b ∈ wr, b ∈ S :: wr := fun b hb => List.mem_cons_of_mem _ hb
  have keepM : ∀ {s s' : Shared}, Moved wr G s s' → (∀ b o, h0.get? b = some o → s.heap.get? b = some o) → ∀ b o, h0.get? b = some o → s'.heap.get? b = some o := fun hm hkp b o e =>
    hm.heap b o (fun hb => by rw [hw0 b hb] at e; cases e) (hkp b o e)
  intro k
  induction k with
  | zero =>
    intro i s hk' hi hst hkp hS hR
    have hin : i = n := by omega
    subst hin
    refine codeAny_builtin PyProof.Rows.F.entry_set_update_loop ?_
    rw [Around.under_plainId PyProof.Rows.F.plain_set_update_loop _]
    show wpAny _ A.in1 (pyNext (.ref I) >>= _) _ _ s
    refine wpAny_bind (W.done s _ _ hst fun s' hm => ?_)
    show wpAny _ A.in1 (ret Value.none) _ _ s'
    have hS' := hS.at fun o e => hm.heap S o hSw e
    rw [hn, List.take_length] at hS'
    exact wpAny_pure (hR s' (hm.mono hsub) hS' (keepM hm hkp))
  | succ k ih =>
    intro i s hk' hi hst hkp hS hR
    have hlt : i < n := by omega
    refine codeAny_builtin PyProof.Rows.F.entry_set_update_loop ?_
    rw [Around.under_plainId PyProof.Rows.F.plain_set_update_loop _]
    show wpAny _ A.in1 (pyNext (.ref I) >>= _) _ _ s
    refine wpAny_bind (W.item i s _ _ hlt hst fun v s' hP hst' hm => ?_)
    obtain ⟨x, t, hx, rfl⟩ := hval i v hP
    have hkp' := keepM hm hkp
    have hS' : SetR w s'.heap S (fun j => decide (j ∈ ks.take i)) (dd (ks.take i)).length := hS.at fun o e => hm.heap S o hSw e
    have few : (dd (ks.take i)).length < 64 := Nat.lt_of_le_of_lt (dd_le _) (by rw [List.length_take]; omega)
    show wpAny _ A.in1 (holding [Value.int x t] (setAdd S (.int x t)) >>= _) _ _ s'
    refine wpAny_bind (wpAny_holding ?_)
    unfold setAdd
    refine wpAny_holding ?_
    refine wpAny_bind ((intKind P w).pyHash (intKind_is P w x t) ?_)
    refine setR_add_hashed (s := { s' with toks := s'.toks + 1 }) hS' (by unfold scanBound; omega) fun h' hsb hS2 => ?_
    have hS3 : SetR w h' S (fun j => decide (j ∈ ks.take (i + 1))) (dd (ks.take (i + 1))).length := by
      rw [dd_more hx]
      refine hS2.congr fun j => ?_
      have e : ks.take (i + 1) = ks.take i ++ [x] := by rw [List.take_add_one, hx]; rfl
      rw [e]
      simp
    have hkp2 : ∀ b o, h0.get? b = some o → h'.get? b = some o := fun b o e => (hsb.2 b (fun z => by rw [z, hS0] at e; cases e)).trans (hkp' b o e)
    refine wpAny_pure ⟨plainId_quiet PyProof.Rows.F.plain_set_update_loop _, ih (i + 1) _ (by omega) hlt (W.frame _ s' _ _ hst' (Nat.le_add_right _ _) fun b hb o e => ?_) hkp2 hS3 fun s'' hm'' hS'' hkp'' => ?_⟩
    · rw [hsb.2 b (fun h : b = S => hSf (by rw [← h]; exact hb))]; exact e
    · refine hR s'' (Moved.trans W.gtrans ((hm.mono hsub).then_heap (Nat.le_add_right _ _) fun b o hb e => ?_) hm'') hS'' hkp''
      rw [hsb.2 b (fun h : b = S => hb (by rw [h]; exact List.mem_cons_self))]; exact e
end
section
variable {g : Gs} {E : XK} {H0 : Hp} {X : Cx}
theorem sub_list_set : isSubtype (.type "list") (.type "set") = pure false := by
  rw [isSubtype_type]; kernel_rfl
theorem sub_list_frozenset : isSubtype (.type "list") (.type "frozenset") = pure false := by
  rw [isSubtype_type]; kernel_rfl
theorem ints_at : ∀ {us : List Value} {xs : List Int}, IntsAre us xs → ∀ (i : Nat) (v : Value), us[i]? = some v → ∃ k t, xs[i]? = some k ∧ v = .int k t
  | _, _, .nil, i, v, h => by simp at h
  | _, _, .cons n t hr, 0, v, h => by simp at h; exact ⟨n, t, rfl, h.symm⟩
  | _, _, .cons n t hr, i + 1, v, h => by
    simp only [List.getElem?_cons_succ] at h ⊢
    exact ints_at hr i v h
def rSetOf (K : PySem.W.Frag) (w : World) : List V → Hp → VK → Prop := fun vs H Q => ∃ (l : Addr) (ns : List Int), vs = [V.ref l] ∧ (SqL K H l (ns.map V.int) ∨ SqT K H l (ns.map V.int)) ∧ ns.length < 64 ∧
  ∀ p, H p = none → Q (.ref p) (upd H p (SetO w p (fun j => decide (j ∈ ns)) (dd ns).length))
theorem cr_setOf (hc : X.calm = true) : CallR X (.type "set") (rSetOf X.K X.w) := by
  intro pins s σ H vs us Q I r h
  obtain ⟨l, ns, rfl, hs, hfew, q⟩ := h
  rw [Vals.ref1 r]
  have hh : X.A.handled = Option.none := I.ok.hd hc
  have hz1 : (s.heap.push (newSet X.w)).objs.size = s.heap.objs.size + 1 := Heap.size_push ..
  have hS : (s.heap.push (newSet X.w)).get? s.heap.objs.size = some (newSet X.w) := Heap.get?_push_size _ rfl
  have fin : ∀ (h' : Heap) (tk : Nat), SetR X.w h' s.heap.objs.size (fun j => decide (j ∈ ns)) (dd ns).length → (∀ b o, s.heap.get? b = some o → h'.get? b = some o) → EP X pins σ Q (.ref s.heap.objs.size) { s with heap := h', toks := tk } := fun h' tk hT hk' =>
    ⟨.ref _, upd H s.heap.objs.size (SetO X.w s.heap.objs.size (fun j => decide (j ∈ ns)) (dd ns).length), I.laid (t' := tk) hk' (Nat.le_refl _) (setO_new hT), rfl, q _ (I.hok.fresh (Nat.le_refl _))⟩
  have fresh : ∀ (ito : Obj), SetR X.w ((s.heap.push (newSet X.w)).push ito) s.heap.objs.size (fun j => decide (j ∈ ns.take 0)) (dd (ns.take 0)).length := fun ito => by
    have h1 := (setR_fresh (h := s.heap) X.w).at (h' := (s.heap.push (newSet X.w)).push ito) fun o e => Heap.get?_push_of_some _ e
    exact h1.congr fun k => by simp
  have val : ∀ its : List Value, Vals (ns.map V.int) its → ∀ (i : Nat) (v : Value), its.toArray[i]? = some v → ∃ k t, ns[i]? = some k ∧ v = .int k t := fun its rv i v hv => ints_at rv.ints i v (by simpa using hv)
  rcases hs with hs | hs
  · obtain ⟨its, rv, ⟨⟨cls, od, data, sl⟩, ho, hcl, n, hd⟩, hz⟩ := let ⟨its, rv, p, hz⟩ := I.list hs; (⟨its, rv, p.isList, hz⟩ : ∃ its, Vals (ns.map V.int) its ∧ s.heap.IsList l its.toArray ∧ _)
    simp only at hcl hd
    subst hcl hd
    have hlS : l < s.heap.objs.size := Heap.lt_size ho
    have hsz : its.toArray.size = ns.length := by rw [List.size_toArray, ← rv.length, List.length_map]
    refine set_of (P := X.prog) (w := X.w) (Fin := fun h => SetR X.w h s.heap.objs.size (fun j => decide (j ∈ ns)) (dd ns).length) ho sub_list_set sub_list_frozenset (by decide) (fun A' E' s2 Q' h1 h2 => wpAny_pyIter_list ⟨_, h1, rfl, _, rfl⟩ h2) (fun R hR => ?_) fun h' tk hT hk' => fin h' tk hT hk'
    have Wk := (Walks.list (prog := X.prog) (w := X.w) (A := X.A.in1.in1.in1) (by simp [hh]) (s.heap.push (newSet X.w)).objs.size l (Nat.ne_of_lt (by rw [hz1]; exact Nat.lt_succ_of_lt hlS)) its.toArray).toS
    refine set_update_ints Wk s.heap.objs.size ?_ ns hsz hfew (fun i v hv => val its rv i v hv) s.heap (heap_none (Nat.le_refl _)) (fun b hb => ?_) (its.toArray.size - 0) 0 _ (by omega) (Nat.zero_le _)
      ⟨⟨_, Heap.get?_push_size _ rfl, rfl, rfl⟩, ⟨_, Heap.get?_push_of_some _ (Heap.get?_push_of_some _ ho), rfl, _, rfl⟩⟩ (fun b o e => Heap.get?_push_of_some _ (Heap.get?_push_of_some _ e)) (fresh _) ?_
    · simp only [List.mem_cons, List.not_mem_nil, or_false, not_or]
      exact ⟨Nat.ne_of_lt (by rw [hz1]; exact Nat.lt_succ_self _), Nat.ne_of_gt hlS⟩
    · rw [List.mem_singleton.mp hb]
      exact heap_none (by rw [hz1]; exact Nat.le_succ _)
    · rintro ⟨h', g2, d', tk', os'⟩ hm' hT hkp
      have eg : g2 = s.gens := hm'.gens
      have ed : d' = s.drawn := hm'.drawn
      have eo : os' = s.os := hm'.os
      subst eg ed eo
      exact hR h' tk' hT hkp
  · obtain ⟨its, rv, ⟨⟨cls, od, data, sl⟩, ho, hcl, n, hd⟩, hz⟩ := I.tuple hs
    simp only at hcl hd
    subst hcl hd
    have hlS : l < s.heap.objs.size := Heap.lt_size ho
    have hsz : its.toArray.size = ns.length := by rw [List.size_toArray, ← rv.length, List.length_map]
    refine set_of (P := X.prog) (w := X.w) (Fin := fun h => SetR X.w h s.heap.objs.size (fun j => decide (j ∈ ns)) (dd ns).length) ho sub_tuple_set sub_tuple_frozenset (by decide) (fun A' E' s2 Q' h1 h2 => wpAny_pyIter_tuple ⟨_, h1, rfl, _, rfl⟩ h2) (fun R hR => ?_) fun h' tk hT hk' => fin h' tk hT hk'
    have Wk := (Walks.tuple (prog := X.prog) (w := X.w) (A := X.A.in1.in1.in1) (by simp [hh]) (s.heap.push (newSet X.w)).objs.size l (Nat.ne_of_lt (by rw [hz1]; exact Nat.lt_succ_of_lt hlS)) its.toArray).toS
    refine set_update_ints Wk s.heap.objs.size ?_ ns hsz hfew (fun i v hv => val its rv i v hv) s.heap (heap_none (Nat.le_refl _)) (fun b hb => ?_) (its.toArray.size - 0) 0 _ (by omega) (Nat.zero_le _)
      ⟨⟨_, Heap.get?_push_size _ rfl, rfl, rfl⟩, ⟨_, Heap.get?_push_of_some _ (Heap.get?_push_of_some _ ho), rfl, _, rfl⟩⟩ (fun b o e => Heap.get?_push_of_some _ (Heap.get?_push_of_some _ e)) (fresh _) ?_
    · simp only [List.mem_cons, List.not_mem_nil, or_false, not_or]
      exact ⟨Nat.ne_of_lt (by rw [hz1]; exact Nat.lt_succ_self _), Nat.ne_of_gt hlS⟩
    · rw [List.mem_singleton.mp hb]
      exact heap_none (by rw [hz1]; exact Nat.le_succ _)
    · rintro ⟨h', g2, d', tk', os'⟩ hm' hT hkp
      have eg : g2 = s.gens := hm'.gens
      have ed : d' = s.drawn := hm'.drawn
      have eo : os' = s.os := hm'.os
      subst eg ed eo
      exact hR h' tk' hT hkp
/-! ### sorted(set(xs)), len(set(xs)) -/
variable {e : Expr} {m : Ev} {b1 : Bool} {p p2 q pos : Pos}
theorem srt_of_set {ns ks : List Int} (h1 : ns.Pairwise (· < ·)) (h2 : ∀ k, k ∈ ns ↔ decide (k ∈ ks) = true) : ns = srt (dd ks) := by
  refine srt_uniq ((List.perm_ext_iff_of_nodup (List.Pairwise.imp (fun h => Int.ne_of_lt h) h1) (nodup_dd ks)).mpr fun a => ?_) (List.Pairwise.imp (fun h => Int.le_of_lt h) h1)
  rw [h2, mem_dd, decide_eq_true_eq]
def fSrtSet : D → Bs → Rs D
  | .lst ds, B => match intsA ds with
    | some ns => if ns.length < 64 then .ok (.lst ((srt (dd ns)).map D.int)) B else .bad
    | Option.none => .bad
  | .tup ds, B => match intsA ds with
    | some ns => if ns.length < 64 then .ok (.lst ((srt (dd ns)).map D.int)) B else .bad
    | Option.none => .bad
  | _, _ => .bad
theorem newL2 {w : Wd} {σI : Sl} {B : Bs} {σ : L2.St} {H : Hp} {Q : VK} {ds : List D} {vs : List V} {p p' : Addr} {o : HO} (s : S0 g H0 w σI B σ H) (h : PostF g E w H Q (.ok (.lst ds) B)) (r : Reps g w ds vs) (hp : H p = Option.none) (hp' : upd H p o p' = Option.none) : Q (.ref p') (upd (upd H p o) p' (.lst vs)) := by
  have h0 : H p' = Option.none := by
    unfold upd at hp'
    split at hp'
    · cases hp'
    · exact hp'
  exact h w p' _ _ ((Ext.lay hp).trans (Ext.lay hp')) ((s.rb.lay hp).lay hp') upd_same (by simp only [Cont]; exact ⟨vs, rfl, r⟩) h0 (s.rb.fresh_P h0) (s.rb.fresh_io h0) (by simp)
theorem f_srtSet (ok : Ok g X) (ha : Snd g E H0 X b1 e m) (hg : Gl X "sorted" := by rfl) (hg2 : Gl X "set" := by rfl) (na : starEach [e] X.env = (false, eval e X.env) :: starEach [] X.env := by rfl)
    (nb : starEach [.Call (.Name "set" p2) [e] [] q] X.env = (false, eval (.Call (.Name "set" p2) [e] [] q) X.env) :: starEach [] X.env := by rfl) :
    SndF g E H0 X (.Call (.Name "sorted" p) [.Call (.Name "set" p2) [e] [] q] [] pos) (m1 fSrtSet m) := by
  have h1 := pe_callTy (p := p2) (pos := q) (cr_setOf ok.calm) hg2 (nbs ok) PyProof.Rows.boot_set (pa_cons ha pa_nil na) (by decide) (by decide) na rfl
  refine weak (pe_callB (cr_sortedSet ok.calm) hg (nbs ok) bt_sorted (pa_cons h1 pa_nil nb) (by decide) (by decide) nb rfl) ?_
  rintro σ H Q ⟨w, σI, B, s, p⟩
  refine tI_bindF s p fun d B1 w1 v H1 x1 s1 r1 p1 => ?_
  unfold fSrtSet at p1
  split at p1
  · split at p1
    · rename_i ns hn
      split at p1
      · rename_i hl
        have r := r1.up
        rw [intsA_map hn] at r
        obtain ⟨a, vs, rfl, q, r⟩ := r.lst s1
        rw [r.ints] at q
        exact ⟨a, ns, rfl, .inl (.inl (.inl q)), hl, fun p hp => ⟨p, _, _, rfl, upd_same, Nat.lt_of_le_of_lt (dd_le ns) hl, fun ns' p' k1 k2 k3 k4 => by
          rw [srt_of_set k1 k2]
          exact newL2 s1 p1 (reps_ints g w1 _) hp k4⟩⟩
      · exact p1.elim
    · exact p1.elim
  · split at p1
    · rename_i ns hn
      split at p1
      · rename_i hl
        have r := r1.up
        rw [intsA_map hn] at r
        obtain ⟨a, vs, rfl, q, r⟩ := r.tup s1
        rw [r.ints] at q
        exact ⟨a, ns, rfl, .inr (ok.K ▸ q), hl, fun p hp => ⟨p, _, _, rfl, upd_same, Nat.lt_of_le_of_lt (dd_le ns) hl, fun ns' p' k1 k2 k3 k4 => by
          rw [srt_of_set k1 k2]
          exact newL2 s1 p1 (reps_ints g w1 _) hp k4⟩⟩
      · exact p1.elim
    · exact p1.elim
  · exact p1.elim
end
/-! ### defs with defaults -/
section
variable {g : Gs} {k : Nat}
theorem fund_mk {K : PySem.W.Frag} {x qual : Str} {st : Stmt} {f : Addr} {oc : Value} {od an : Option Addr} {osl : Array (Option Value)} {dV kV doc pm cdv ct : Value} {dvs : List V} (l : K.lookup f = some ⟨oc, od, .func (PySem.W.fnOf x qual (defArgs st) (defBody st) (defScope st) dV kV doc pm an cdv ct), osl⟩)
    (c : PySem.W.codeIn K cdv qual = true) (kp : PySem.W.keepIn K (.ref f) = true) (hd : dvs ≠ []) (hD : ∃ (T : Addr) (o : Obj) (its : List Value) (n : Nat), dV = .ref T ∧ K.lookup T = some o ∧ o.data = .seq its.toArray n ∧ Vals dvs its) :
    FunD K x qual (defArgs st) (defBody st) (defScope st) dvs [] f (PySem.W.fnOf x qual (defArgs st) (defBody st) (defScope st) dV kV doc pm an cdv ct) := ⟨⟨oc, od, dV, kV, doc, pm, an, cdv, ct, osl, rfl, l, c, .inr ⟨hd, hD⟩, .inl rfl⟩, kp⟩
theorem def_okD {x qual : Str} {st : Stmt} {fa : Addr} {fd : FuncData} {N ps : List Str} {n : Nat} {b : Ms} {dvs : List V} {kws : List (Str × V)} (F : FunD g.K x qual (defArgs st) (defBody st) (defScope st) dvs kws fa fd) (S : FnScope N ps (defScope st)) (hn : ps.length = n) (hN : n ≤ N.length)
    (fx : Fx g) (hb : ∀ (E : XK) (w0 : Wd) (H0 : Hp) (X : Cx), OkC g E k X → PassesOwn (model X.prog X.w) X.A X.env X.xe → L2N.Takes X (fun cls d _ H => E cls d H) → X.N = N → X.env.scope = defScope st → X.fn = (fun _ => true) → SndB g E w0 H0 X (defBody st) b) :
    FnOk g.prog g.w g.K g.mg g.base (L2N.CX g.prog g.w) (k + 1) fa fd ps (spF g (mkFn n N.length b)) := by
  refine F.ok S (fun vs H Q E h => ?_) (fun cdv A outer s H vs Q E hr h => ?_)
  · obtain ⟨w, ds, B, rb, r, p⟩ := h
    unfold mkFn at p
    split at p
    · rename_i e; rw [r.len, e, hn]
    · exact p.elim
  · obtain ⟨w, ds, B, rb, r, p⟩ := h
    unfold mkFn at p
    split at p
    · rename_i e
      refine ⟨_, hb E w H _ ⟨⟨rfl, rfl, rfl, ?_, rfl, rfl, rfl, fx⟩, hr, ?_⟩ (passes_of rfl) (L2N.takes_of rfl rfl rfl rfl) rfl rfl rfl, ?_⟩
      · have := hr.un; show A.units + 3 + 100 < cLine; have h2 : A.units + 3 + 16 * k + 200 < cLine := this; omega
      · exact L2N.passes_call (L2N.takes_of rfl rfl rfl rfl) (fun _ _ _ _ h => h)
      · refine ⟨w, _, B, start_at rb r e hN, Ext.refl _ _, ?_⟩
        revert p
        generalize b _ B = q
        intro p
        cases q with
        | next σI' B' => exact fun w' σ H' _ s x => p w' .non H' x s.rb (rep_none g w')
        | ret d B' => exact fun w' v H' rb x r => p w' v H' x rb r
        | exc c y B' => exact fun w' cls dd H' rb x r => p w' cls dd H' x rb r
        | bad => exact p
    · exact p.elim
end
end Hf

set_option Elab.async false
set_option linter.all false
set_option maxRecDepth 100000
set_option maxHeartbeats 8000000
namespace Hf
open PySem PySem.Spec PyProof.Rows L2
section
variable {g : Gs} {E : XK} {w0 w : Wd} {H0 H : Hp} {X : Cx} {e : Expr} {pos p : Pos} {x : Str} {f : Fn} {lv k : Nat} {dfl : List D} {σI : Sl} {σ : L2.St} {B : Bs} {Q : VK}
theorem s_callG0 (c : OkG g E lv X) (d : DefG g k x dfl f) (hk : k ≤ lv) (hg : Gl X x := by rfl) (hdb : (x == ("__debug__" : Str)) = false := by decide) : Snd g E H0 X false (.Call (.Name x p) [] [] pos) (mCall f dfl mNil) := by
  obtain ⟨fa, fd, ps, dvs, ds, F, hm, kp, b, hd, hr⟩ := d
  obtain ⟨prog, w', K, mg, base, A, N, s_0, H_0, env, outer, stack, ex, fn, calm, pn, xe⟩ := X
  obtain ⟨⟨⟨h1, h2, h3, h4, h5, h6, h7, hfx⟩, h8, h9⟩, h10⟩ := c
  simp only at h1 h2 h5 h6 h7
  subst h1 h2 h5 h6 h7
  refine weak (t := tCall (spF g f) dvs E tNil) ⟨fun pins s σ H Q I h => ?_⟩ ?_
  · refine wpAny_Call_Name_kw (ld_glob I hg hm ?_ hdb)
    exact PySem.W.callWith_K0 I.kIn kp (run_g (us := []) F h10 (h8.mono hk) b hd h9 I .nil h)
  · rintro σ H Q ⟨w, σI, B, s, p⟩
    exact ⟨w, [] ++ dfl, B, s.rb, Reps.app (by simp only [Reps]) (hr w), PostC.of s p⟩
end
end Hf

set_option Elab.async false
set_option linter.all false
set_option maxRecDepth 100000
set_option maxHeartbeats 8000000
namespace Hf
open PySem PySem.Spec PyProof.Rows L2
section
variable {g : Gs} {E : XK} {w0 w : Wd} {H0 H : Hp} {X : Cx} {o e a b : Expr} {es : List Expr} {m ma mb mo : Ev} {ms : Evs} {pos p p1 p2 apos cpos : Pos} {x n : Str} {f : Fn} {lv k c : Nat} {dfl : List D} {σI : Sl} {σ : L2.St} {B : Bs} {Q : VK} {b1 b2 bo : Bool} {i : Nat}
/-! ### t.index(x), l.index(x): the first place of an equal one -/
def ixD (d : D) : List D → Option Nat
  | [] => Option.none
  | z :: r => if PyData.eqv (toPy z) (toPy d) then some 0 else (ixD d r).map (· + 1)
theorem ixD_some {d : D} : ∀ {l : List D} {j : Nat}, ixD d l = some j → ∃ z, (toPys l)[j]? = some z ∧ PyData.eqv z (toPy d) = true ∧ ∀ (m : Nat) (z' : PyData), m < j → (toPys l)[m]? = some z' → PyData.eqv z' (toPy d) = false
  | [], j, h => by cases h
  | z :: r, j, h => by
    unfold ixD at h
    split at h
    · rename_i e
      cases h
      exact ⟨toPy z, by simp [toPys], e, fun m _ hm => absurd hm (Nat.not_lt_zero _)⟩
    · rename_i e
      obtain ⟨q, h1, rfl⟩ := Option.map_eq_some_iff.mp h
      obtain ⟨z1, a1, a2, a3⟩ := ixD_some h1
      refine ⟨z1, by simpa [toPys] using a1, a2, fun m z' hm hz => ?_⟩
      cases m with
      | zero =>
        have : z' = toPy z := by simpa [toPys] using hz.symm
        rw [this]; exact Bool.eq_false_iff.mpr e
      | succ m => exact a3 m z' (by omega) (by simpa [toPys] using hz)
def fIdx : D → D → Bs → Rs D
  | .tup ds, d, B => if shp (.tup ds) && shp d then (match ixD d ds with
    | some j => .ok (.int (j : Nat)) B
    | Option.none => .bad) else .bad
  | .lst ds, d, B => if shp (.lst ds) && shp d then (match ixD d ds with
    | some j => .ok (.int (j : Nat)) B
    | Option.none => .bad) else .bad
  | _, _, _ => .bad
def rIdxT (K : PySem.W.Frag) : V → List V → Hp → VK → Prop := fun x xs H Q => ∃ (a : Addr) (y : V) (d : PyData) (ds : List PyData) (j : Nat) (z : PyData), x = V.ref a ∧ xs = [y] ∧ Dp K H (V.ref a) (.tuple ds) ∧ Dp K H y d ∧
  SeqAt.shaped (.tuple ds) = true ∧ SeqAt.shaped d = true ∧ ds[j]? = some z ∧ PyData.eqv z d = true ∧ (∀ (m : Nat) (z' : PyData), m < j → ds[m]? = some z' → PyData.eqv z' d = false) ∧ Q (.int (j : Nat)) H
theorem mt_idxT (hu : X.A.units + 65 < cLine) : MtR X "tuple.index" (rIdxT X.K) := by
  intro pins s σ H x xs v us Q I rx rxs h
  obtain ⟨t, y, d, ds, j, z, rfl, rfl, hl, hy, sl, sd, hz, hzj, hno, q⟩ := h
  cases rx
  obtain ⟨uy, rfl, ry⟩ := vals1 rxs
  obtain ⟨bs, r1⟩ := Dp.reads I d y uy hy ry
  have hxs : PyData.canLayAll0 ds = true := SeqAt.canLay_of_shaped sl
  have hroom : X.A.units + 1 + min (PyData.depthAll ds) d.depth < cLine := room_in_shaped sd hu
  cases hl with
  | tup hs ha =>
    obtain ⟨its, rv, ⟨⟨cls, dd, data, sls⟩, ho, hc, n, hdt⟩, hlen⟩ := I.tuple hs
    simp only at hc hdt
    subst hc hdt
    obtain ⟨as, h4⟩ := Dp.readsAll I ds _ its ha rv
    have hn : its.length = ds.length := SeqAt.ReadsAll.length ds its as h4
    have hmap : its.map (SeqAt.readOf s.heap) = ds := SeqAt.readsAll_map ds its as hxs h4
    obtain ⟨hjd, _⟩ := List.getElem?_eq_some_iff.mp hz
    have hjl : j < its.length := by omega
    have hj : j < its.toArray.size := by simpa using hjl
    have at_ : ∀ (q : Nat) (hq : q < its.toArray.size) (z1 : PyData), ds[q]? = some z1 → SeqAt.readOf s.heap its.toArray[q] = z1 := by
      intro q hq z1 e
      have ql : q < its.length := by simpa using hq
      rw [← hmap, List.getElem?_map, List.getElem?_eq_getElem ql] at e
      have e1 : SeqAt.readOf s.heap its[q] = z1 := Option.some.inj e
      simpa using e1
    refine call_meets PySem.F.slot_tuple_index ⟨_, ho, rfl⟩ PySem.F.entry_tuple_index (PySem.F.args_tuple_index_2 _ _)
      (TI.tuple_indexAt t its.toArray n dd sls uy (fun u => PyData.eqv (SeqAt.readOf s.heap u) d) j hj ?_ ?_) ⟨ho, SeqAt.items_eqAt (vs := its.toArray) (show ReadsAll s.heap its.toArray.toList ds as from h4) r1 hxs (SeqAt.canLay_of_shaped sd) hroom, ?_⟩
    · show PyData.eqv (SeqAt.readOf s.heap its.toArray[j]) d = true
      rw [at_ j hj z hz]; exact hzj
    · intro q hq hqj
      have qd : q < ds.length := by omega
      have e := List.getElem?_eq_getElem qd
      show PyData.eqv (SeqAt.readOf s.heap its.toArray[q]) d = false
      rw [at_ q hq _ e]; exact hno q _ hqj e
    · exact ⟨.int (j : Nat), H, I.tok _, ⟨_, rfl⟩, q⟩
/-- an own tuple that has no dict -/
def tBMt (K : PySem.W.Frag) (r : V → List V → Hp → VK → Prop) (to : TE) (t : TA) : TE := fun σ H Q => to σ H fun x H1 => (∃ a xs, x = V.ref a ∧ SqN K H1 a xs) ∧ t σ H1 fun vs H2 => r x vs H2 Q
theorem sqN_is {pins : List (Addr × Obj)} {σ : L2.St} {H : Hp} {s : Shared} {a : Addr} {xs : List V} (I : Inv X pins σ H s) (h : SqN X.K H a xs) : s.TypeIs (.ref a) "tuple" ∧ ∀ q, (Value.ref a) = .ref q → ∃ ob, s.heap.get? q = some ob ∧ ob.dict = Option.none := by
  rcases h with ⟨ob, h, hd⟩ | ⟨ob, us, j, hk, hc, hd, _⟩
  · obtain ⟨e, _, _, _, o2, e2, hc, _⟩ := I.hok _ _ h
    rw [e] at e2; cases e2
    exact ⟨⟨ob, e, hc⟩, fun q z => by cases z; exact ⟨ob, e, hd⟩⟩
  · have e := I.kIn _ _ hk
    exact ⟨⟨ob, e, hc⟩, fun q z => by cases z; exact ⟨ob, e, hd⟩⟩
theorem pe_bmT {nm : Str} {id : String} {r : V → List V → Hp → VK → Prop} {to : TE} {t : TA} (pa : PlainAttrs "tuple") (slot : Slot "tuple" nm id) (hty : typeOf (.builtin id) = pure (.type "method_descriptor")) (hm : MtR X id r) (ho : PE X o to) (ha : PA X (e :: es) t)
    (hbase : attributeBase o nm X.env (eval o X.env) = eval o X.env)
    (hfew : ((backTo cpos (starEach (e :: es) X.env)).all (fun x => !x.1) && (backToKw cpos (keywordEach [] X.env)).all (fun x => x.1.isSome)
      && decide ((e :: es).length + ([] : List Keyword).length + (if ([] : List Keyword).isEmpty then 0 else 1) < 30)) = true)
    (hline : (apos.endLine == cpos.line) = true) (hs : starEach (e :: es) X.env = (false, eval e X.env) :: starEach es X.env) (hplain : (backTo cpos (starEach es X.env)).any (·.1) = false) :
    PE X (.Call (.Attribute o nm apos) (e :: es) [] cpos) (tBMt X.K r to t) := by
  refine ⟨fun pins s σ H Q I h => ?_⟩
  refine wpAny_Call_method_late hbase hfew hline rfl (thn (ho.run pins s σ H _ I h) fun v s1 ⟨x, H1, I1, r1, ⟨t0, xs, ex, hn⟩, q1⟩ => ?_)
  subst ex
  cases r1
  obtain ⟨h1, h2⟩ := sqN_is I1 hn
  refine ⟨"tuple", id, pa, slot, hty, h1, h2, ?_⟩
  have hA := ha.run cpos pins s1 σ H1 _ I1 q1
  rw [hs] at hA ⊢
  refine Calls.callWith_builtin (by show (false || (backTo cpos (starEach es X.env)).any (·.1)) = false; rw [hplain] <;> rfl) (Calls.evalArgs_plain ?_)
  exact thn hA fun us s2 ⟨vs, H2, I2, r2, q2⟩ => hm pins s2 σ H2 (.ref t0) vs (.ref t0) us Q I2 rfl r2 q2
/-- only of tuples -/
def isTu : D → Bs → Rs D
  | .tup ds, B => .ok (.tup ds) B
  | _, _ => .bad
def mIdxT (mo me : Ev) : Ev := fun σ B => (mo σ B).bind fun o B1 => (isTu o B1).bind fun o B2 => (me σ B2).bind fun d B3 => fIdx o d B3
theorem s_idxT (ok : Ok g X) (ho : Snd g E H0 X b1 o mo) (he : Snd g E H0 X false e m)
    (hbase : attributeBase o "index" X.env (eval o X.env) = eval o X.env := by rfl)
    (hfew : ((backTo cpos (starEach [e] X.env)).all (fun x => !x.1) && (backToKw cpos (keywordEach [] X.env)).all (fun x => x.1.isSome) && decide ([e].length + ([] : List Keyword).length + (if ([] : List Keyword).isEmpty then 0 else 1) < 30)) = true := by rfl)
    (hline : (apos.endLine == cpos.line) = true := by rfl) (hs : starEach [e] X.env = (false, eval e X.env) :: starEach [] X.env := by rfl) (hpl : (backTo cpos (starEach [] X.env)).any (·.1) = false := by rfl) :
    Snd g E H0 X false (.Call (.Attribute o "index" apos) [e] [] cpos) (mIdxT mo m) := by
  refine weak (pe_bmT PySem.F.plainAttrs_tuple PySem.F.slot_tuple_index PySem.F.type_tuple_index (mt_idxT (by have := ok.un; omega)) ho (pa_cons he pa_nil hs) hbase hfew hline hs hpl) ?_
  rintro σ H Q ⟨w, σI, B, s, p⟩
  refine tI_bind s p fun d B1 w1 v H1 x1 s1 r1 p1 => ?_
  cases d <;> first | exact p1.elim | skip
  rename_i ds
  obtain ⟨a0, vs0, e0, q0, rr0⟩ := r1.up.tupN s1
  refine ⟨⟨a0, vs0, e0, ok.K ▸ q0⟩, ?_⟩
  refine tI_bind s1 p1 fun d2 B2 w2 v2 H2 x2 s2 r2 p2 => ?_
  unfold fIdx at p2
  simp only at p2
  split at p2
  · rename_i hsh
    obtain ⟨sh1, sh2⟩ := Bool.and_eq_true_iff.mp hsh
    split at p2
    · rename_i j hj
      obtain ⟨z, z1, z2, z3⟩ := ixD_some hj
      have rt : RepO g w2 σI σ (.tup ds) v := r1.up.mono x2.le
      have dp := rt.dp s2 (SeqAt.canLay_of_shaped sh1)
      subst e0
      exact ⟨a0, v2, toPy d2, toPys ds, j, z, rfl, rfl, ok.K ▸ dp, ok.K ▸ r2.up.dp s2 (SeqAt.canLay_of_shaped sh2), sh1, sh2, z1, z2, z3, p2.nowR s2 (rep_int g w2 _)⟩
    · exact p2.elim
  · exact p2.elim
def isLi : D → Bs → Rs D
  | .lst ds, B => .ok (.lst ds) B
  | _, _ => .bad
def mIdxL (mo me : Ev) : Ev := fun σ B => (mo σ B).bind fun o B1 => (isLi o B1).bind fun o B2 => (me σ B2).bind fun d B3 => fIdx o d B3
theorem s_idxL (ok : Ok g X) (ho : Snd g E H0 X b1 o mo) (he : Snd g E H0 X false e m)
    (hbase : attributeBase o "index" X.env (eval o X.env) = eval o X.env := by rfl)
    (hfew : ((backTo cpos (starEach [e] X.env)).all (fun x => !x.1) && (backToKw cpos (keywordEach [] X.env)).all (fun x => x.1.isSome) && decide ([e].length + ([] : List Keyword).length + (if ([] : List Keyword).isEmpty then 0 else 1) < 30)) = true := by rfl)
    (hline : (apos.endLine == cpos.line) = true := by rfl) (hs : starEach [e] X.env = (false, eval e X.env) :: starEach [] X.env := by rfl) (hpl : (backTo cpos (starEach [] X.env)).any (·.1) = false := by rfl) :
    Snd g E H0 X false (.Call (.Attribute o "index" apos) [e] [] cpos) (mIdxL mo m) := by
  refine weak (pe_bm PySem.F.plainAttrs_list PySem.F.slot_list_index PySem.F.type_list_index (mt_indexD (by have := ok.un; omega)) ho (pa_cons he pa_nil hs) hbase hfew hline hs hpl) ?_
  rintro σ H Q ⟨w, σI, B, s, p⟩
  refine tI_bind s p fun d B1 w1 v H1 x1 s1 r1 p1 => ?_
  cases d <;> first | exact p1.elim | skip
  rename_i ds
  obtain ⟨a0, vs0, e0, q0, rr0⟩ := r1.up.lst s1
  subst e0
  refine ⟨tyL q0, ?_⟩
  refine tI_bind s1 p1 fun d2 B2 w2 v2 H2 x2 s2 r2 p2 => ?_
  unfold fIdx at p2
  simp only at p2
  split at p2
  · rename_i hsh
    obtain ⟨sh1, sh2⟩ := Bool.and_eq_true_iff.mp hsh
    split at p2
    · rename_i j hj
      obtain ⟨z, z1, z2, z3⟩ := ixD_some hj
      have rt : RepO g w2 σI σ (.lst ds) (.ref a0) := r1.up.mono x2.le
      have dp := rt.dp s2 (SeqAt.canLay_of_shaped sh1)
      exact ⟨a0, v2, toPy d2, toPys ds, j, z, rfl, rfl, ok.K ▸ dp, ok.K ▸ r2.up.dp s2 (SeqAt.canLay_of_shaped sh2), sh1, sh2, z1, z2, z3, p2.nowR s2 (rep_int g w2 _)⟩
    · exact p2.elim
  · exact p2.elim
/-! ### x[e], x(e, ..), e in x of an own instance -/
/-- c has the special method n, a def that means f, and is a function of the text -/
def DunF (g : Gs) (k c : Nat) (n : Str) (f : Fn) : Prop := ∃ fa, FnR g.prog g.w g.K g.mg g.base (L2N.CX g.prog g.w) k fa (spF g f) ∧ PySem.W.findIn g.K (.ref (g.cl c)) n = some (some (.ref fa)) ∧ PySem.W.isFn g.K (.ref fa) = true ∧ PySem.W.fnIn g.K fa = true ∧ g.has c = true
def rIxC (g : Gs) (E : XK) (c : Nat) (f : Fn) : R2 := fun x y H Q => ∃ a dx fs, x = .ref a ∧ H a = some (.ins (g.cl c) dx fs) ∧ spF g f [.ref a, y] H Q E
theorem pe_ixC {ta tb : TE} (ok : OkC g E lv X) (N : DunF g k c "__getitem__" f) (hk : k + 1 ≤ lv) (ha : PE X a ta) (hb : PE X b tb) (hs : ∀ o i, subscripted b true o i = runValue (.builtin "lifetime.subscript" ⟨[o, i], []⟩)) :
    PE X (.Subscript a b pos) (tOp (rIxC g E c f) ta tb) := by
  refine ⟨fun pins s σ H Q I h => ?_⟩
  refine Subscript_ (binT ha hb I h fun v u s2 x y H2 I2 rx ry q => ?_)
  obtain ⟨q0, dx, fs, rfl, hi, q⟩ := q
  cases rx
  obtain ⟨fa, F, hf, hfn, hfi, hc⟩ := N
  obtain ⟨prog, w', K, mg, base, A, N, s_0, H_0, env, outer, stack, ex, fn, calm, pn, xe⟩ := X
  obtain ⟨⟨h1, h2, h3, h4, h5, h6, h7, hfx⟩, h8, h9⟩ := ok
  simp only at h1 h2 h5 h6 h7
  subst h1 h2 h5 h6 h7
  obtain ⟨od, J⟩ := inst_at I2 hi
  obtain ⟨mf, Fm⟩ := I2.fr
  exact PySem.W.sub_K Fm I2.ok.mod.kin J hf hfi hfn (run_at (us := [.ref q0, u]) (vs := [.ref q0, y]) F (h8.mono hk).in1 I2.env0.in1 h9 I2 (.cons rfl (.cons ry .nil)) q) (hs _ _)
/-- the first value is an instance of c: f of it and the others -/
def insF (c : Nat) (f : Fn) (d : D) (ds : List D) (B : Bs) : Rs D := match d with
  | .inst c' es => if c' = c then f (.inst c' es :: ds) B else .bad
  | _ => .bad
def mIxC (c : Nat) (f : Fn) (ma mb : Ev) : Ev := fun σ B => (ma σ B).bind fun d B1 => (mb σ B1).bind fun i B2 => insF c f d [i] B2
theorem s_ixC (ok : OkC g E lv X) (N : DunF g k c "__getitem__" f) (hk : k + 1 ≤ lv) (ha : Snd g E H0 X false a ma) (hb : Snd g E H0 X false b mb) (hs : ∀ o i, subscripted b true o i = runValue (.builtin "lifetime.subscript" ⟨[o, i], []⟩) := by exact fun _ _ => rfl) :
    Snd g E H0 X false (.Subscript a b pos) (mIxC c f ma mb) := by
  refine weak (pe_ixC ok N hk ha hb hs) ?_
  rintro σ H Q ⟨w, σI, B, s, p⟩
  refine tI_bind s p fun d B1 w1 v H1 x1 s1 r1 p1 => ?_
  refine tI_bind s1 p1 fun d2 B2 w2 v2 H2 x2 s2 r2 p2 => ?_
  unfold insF at p2
  split at p2
  · rename_i c' ds
    split at p2
    · rename_i hc'
      subst hc'
      obtain ⟨q0, dx, vs, rfl, hi, hl, hh, rr⟩ := ((RepB.up r1).mono x2.le).inst s2
      refine ⟨q0, dx, _, rfl, hi, w2, _, B2, s2.rb, ?_, PostC.of s2 p2⟩
      simp only [Reps]
      exact ⟨_, _, rfl, Rep.mono x2.le _ _ r1, _, _, rfl, r2, rfl⟩
    · exact p2.elim
  · exact p2.elim
/-- x(e, ..) of an own instance -/
def mCallO (c : Nat) (f : Fn) (m : Ev) (ms : Evs) : Ev := fun σ B => (m σ B).bind fun d B1 => match d with
  | .inst c' fs => if c' = c then (ms σ B1).bind fun ds B2 => f (.inst c' fs :: ds) B2 else .bad
  | _ => .bad
theorem s_callO (ok : OkC g E lv X) (N : DunF g k c "__call__" f) (hk : k ≤ lv) (hf : Snd g E H0 X false o m) (ha : Snds g E H0 X (e :: es) ms)
    (ht : eval (.Call o (e :: es) [] pos) X.env = (do callWith pos (← eval o X.env) [] (backTo pos (starEach (e :: es) X.env)) (backToKw pos (keywordEach [] X.env))) := by rfl)
    (he : starEach (e :: es) X.env = (false, eval e X.env) :: starEach es X.env := by rfl) (hpl : (backTo pos (starEach es X.env)).any (·.1) = false := by rfl) : Snd g E H0 X false (.Call o (e :: es) [] pos) (mCallO c f m ms) := by
  obtain ⟨fa, F, hfd, hfn, hfi, hc⟩ := N
  obtain ⟨prog, w', K, mg, base, A, N, s_0, H_0, env, outer, stack, ex, fn, calm, pn, xe⟩ := X
  obtain ⟨⟨h1, h2, h3, h4, h5, h6, h7, hfx⟩, h8, h9⟩ := ok
  simp only at h1 h2 h5 h6 h7
  subst h1 h2 h5 h6 h7
  refine weak (StX.pe_callO hf ⟨hfd, hfn, hfi⟩ F (h8.mono hk) h9 ha ht he hpl) ?_
  rintro σ H Q ⟨w, σI, B, s, p⟩
  refine tI_bind s p fun d B1 w1 v H1 x1 s1 r1 p1 => ?_
  split at p1
  · rename_i c' es'
    split at p1
    · rename_i hc'
      subst hc'
      obtain ⟨q0, dx, vs, rfl, hi, hl, hh, rr⟩ := (RepB.up r1).inst s1
      refine ⟨q0, rfl, tIs_bind s1 p1 fun ds B2 w2 vs2 H2 x2 s2 r2 p2 => ?_⟩
      obtain ⟨q1, dx1, vs1, e1, hi1, _⟩ := ((RepB.up r1).mono x2.le).inst s2
      cases e1
      refine ⟨.inr ⟨dx1, _, hi1⟩, w2, _, B2, s2.rb, ?_, PostC.of s2 p2⟩
      simp only [Reps]
      exact ⟨_, _, rfl, Rep.mono x2.le _ _ r1, r2⟩
    · exact p1.elim
  · exact p1.elim
/-- e in x, e not in x of an own instance -/
def toBn (neg : Bool → Bool) : Rs D → Rs D
  | .ok (.bool b) B => .ok (.bool (neg b)) B
  | _ => .bad
def fInC (c : Nat) (f : Fn) (neg : Bool → Bool) : D → D → Bs → Rs D
  | x, .inst c' es, B => if c' = c then toBn neg (f [.inst c' es, x] B) else .bad
  | _, _, _ => .bad
def rInC (g : Gs) (E : XK) (c : Nat) (f : Fn) (neg : Bool → Bool) : R2 := fun x y H Q => ∃ a dx fs, y = .ref a ∧ H a = some (.ins (g.cl c) dx fs) ∧ spF g f [.ref a, x] H (fun r H' => ∃ b, r = .bl b ∧ Q (.bl (neg b)) H') E
theorem toBn_go {r : Rs D} {neg : Bool → Bool} (p : PostE g E w H σI σ false Q (toBn neg r)) : PostC g E w H (fun v H' => ∃ b, v = .bl b ∧ Q (.bl (neg b)) H') r := by
  unfold toBn at p
  split at p
  · rename_i b B
    intro w' v H' x rb rr
    simp only [Rep] at rr
    exact ⟨b, rr, p w' (.bl (neg b)) H' x rb (rep_bool g w' _)⟩
  · exact p.elim
theorem op_inC (ok : OkC g E lv X) (N : DunF g k c "__contains__" f) (hk : k ≤ lv) : OpR X (compareOp .In) (rInC g E c f fun b => b) := by
  intro pins s σ H x y v u Q I rx ry h
  obtain ⟨q0, dx, fs, rfl, hi, q⟩ := h
  cases ry
  obtain ⟨fa, F, hf, hfn, hfi, hc⟩ := N
  obtain ⟨prog, w', K, mg, base, A, N, s_0, H_0, env, outer, stack, ex, fn, calm, pn, xe⟩ := X
  obtain ⟨⟨h1, h2, h3, h4, h5, h6, h7, hfx⟩, h8, h9⟩ := ok
  simp only at h1 h2 h5 h6 h7
  subst h1 h2 h5 h6 h7
  obtain ⟨od, J⟩ := inst_at I hi
  obtain ⟨mf, Fm⟩ := I.fr
  refine PySem.W.in_K Fm I.ok.mod.kin J hf hfn (wpAny_mono (run_at (us := [.ref q0, v]) (vs := [.ref q0, x]) F (h8.mono hk) I.env0 h9 I (.cons rfl (.cons rx .nil)) q) (fun r s1 hr => ?_) fun _ _ z => z)
  obtain ⟨z, H1, I1, rz, b, rfl, q1⟩ := hr
  obtain rfl : r = .bool b := rz
  exact wpAny_pure ⟨.bl b, H1, I1, rfl, q1⟩
theorem op_notinC (ok : OkC g E lv X) (N : DunF g k c "__contains__" f) (hk : k ≤ lv) : OpR X (compareOp .NotIn) (rInC g E c f fun b => !b) := by
  intro pins s σ H x y v u Q I rx ry h
  obtain ⟨q0, dx, fs, rfl, hi, q⟩ := h
  cases ry
  obtain ⟨fa, F, hf, hfn, hfi, hc⟩ := N
  obtain ⟨prog, w', K, mg, base, A, N, s_0, H_0, env, outer, stack, ex, fn, calm, pn, xe⟩ := X
  obtain ⟨⟨h1, h2, h3, h4, h5, h6, h7, hfx⟩, h8, h9⟩ := ok
  simp only at h1 h2 h5 h6 h7
  subst h1 h2 h5 h6 h7
  obtain ⟨od, J⟩ := inst_at I hi
  obtain ⟨mf, Fm⟩ := I.fr
  refine PySem.W.notIn_K Fm I.ok.mod.kin J hf hfn (wpAny_mono (run_at (us := [.ref q0, v]) (vs := [.ref q0, x]) F (h8.mono hk) I.env0 h9 I (.cons rfl (.cons rx .nil)) q) (fun r s1 hr => ?_) fun _ _ z => z)
  obtain ⟨z, H1, I1, rz, b, rfl, q1⟩ := hr
  obtain rfl : r = .bool b := rz
  exact wpAny_pure ⟨.bl (!b), H1, I1, rfl, q1⟩
theorem in_go {neg : Bool → Bool} (ha : Snd g E H0 X false a ma) (hb : Snd g E H0 X false b mb) : ∀ σ H Q, tI g E H0 false (mBin (fInC c f neg) ma mb) σ H Q → tOp (rInC g E c f neg) (tI g E H0 false ma) (tI g E H0 false mb) σ H Q := by
  rintro σ H Q ⟨w, σI, B, s, p⟩
  refine tI_bind s p fun d B1 w1 v H1 x1 s1 r1 p1 => ?_
  refine tI_bind s1 p1 fun d2 B2 w2 v2 H2 x2 s2 r2 p2 => ?_
  unfold fInC at p2
  split at p2
  · rename_i x0 c' es B0
    split at p2
    · rename_i hc'
      subst hc'
      obtain ⟨q0, dx, vs, rfl, hi, hl, hh, rr⟩ := (RepB.up r2).inst s2
      refine ⟨q0, dx, _, rfl, hi, w2, _, B2, s2.rb, ?_, toBn_go p2⟩
      simp only [Reps]
      exact ⟨_, _, rfl, r2, _, _, rfl, Rep.mono x2.le _ _ r1, rfl⟩
    · exact p2.elim
  · exact p2.elim
theorem s_inC (ok : OkC g E lv X) (N : DunF g k c "__contains__" f) (hk : k ≤ lv) (ha : Snd g E H0 X false a ma) (hb : Snd g E H0 X false b mb) (hm : behindInMarks .In b = false := by rfl) : Snd g E H0 X false (.Compare a [.In] [b] pos) (mBin (fInC c f fun b => b) ma mb) :=
  weak (pe_cmpR (op_inC ok N hk) ha hb hm) (in_go ha hb)
theorem s_notinC (ok : OkC g E lv X) (N : DunF g k c "__contains__" f) (hk : k ≤ lv) (ha : Snd g E H0 X false a ma) (hb : Snd g E H0 X false b mb) (hm : behindInMarks .NotIn b = false := by rfl) : Snd g E H0 X false (.Compare a [.NotIn] [b] pos) (mBin (fInC c f fun b => !b) ma mb) :=
  weak (pe_cmpR (op_notinC ok N hk) ha hb hm) (in_go ha hb)
/-! ### a, b = x, []: one of both is an own container -/
def mPar2S (i j : Nat) (ma mb : Ev) : Ms := fun σ B => (ma σ B).st fun d B1 => (mb σ B1).st fun e B2 => .next ((σ.set i (some (false, d))).set j (some (true, e))) B2
def mPar2F (i j : Nat) (ma mb : Ev) : Ms := fun σ B => (ma σ B).st fun d B1 => (mb σ B1).st fun e B2 => .next ((σ.set i (some (true, d))).set j (some (false, e))) B2
theorem z_par2S {i j : Nat} {x y : Str} {px py pt : Pos} {kt k2 : Nat} {pt2 : Pos} (c : Ok g X) (hN : X.N.Nodup) (ha : Snd g E H0 X false a ma) (hb : SndF g E H0 X b mb) (hw : swappedStores [.Tuple [.Name x px, .Name y py] kt pt] (.Tuple [a, b] k2 pt2) X.env = pure (some [x, y]) := by rfl)
    (hi : X.N[i]? = some x := by rfl) (hj : X.N[j]? = some y := by rfl) (hij : i ≠ j := by decide) (hx : X.env.scope.names.lookup x = some .local := by rfl) (hy : X.env.scope.names.lookup y = some .local := by rfl)
    (hs : swapsWithSole [.Tuple [.Name x px, .Name y py] kt pt] (.Tuple [a, b] k2 pt2) pos.line X.env = pure false := by rfl) (h1 : starEach [a, b] X.env = (false, eval a X.env) :: starEach [b] X.env := by rfl) (h2 : starEach [b] X.env = (false, eval b X.env) :: starEach [] X.env := by rfl) :
    SndS g E w0 H0 X (.Assign [.Tuple [.Name x px, .Name y py] kt pt] (.Tuple [a, b] k2 pt2) pos) (mPar2S i j ma mb) := by
  refine weakS (ps_par c.calm hN hi hj hij hx hy (pa_cons ha (pa_cons hb pa_nil h2) h1) hw hs) ?_
  rintro D σ H ⟨w, σI, B, s, x0, p⟩
  refine st_go s x0 p fun d B1 w1 v H1 x1 x2 s1 r1 p1 => ?_
  refine st_goF s1 x1 p1 fun e B2 w2 q ob H2 y1 y2 s2 e2 ct n pp io z p2 => ?_
  refine ⟨v, .ref q, rfl, p2 w2 _ H2 (Le.refl _) ((s2.set i (Rep.mono y2.le _ _ r1)).setO j e2 ct pp io (x1.none0 n) (fun l f hl => ?_) z) y1⟩
  by_cases hli : l = i
  · subst hli
    simp [List.getElem?_set] at hl
  · rw [List.getElem?_set_ne (Ne.symm hli)] at hl
    rw [List.getElem?_set_ne (Ne.symm hli)]
    exact s1.own_ne hl n
theorem z_par2F {i j : Nat} {x y : Str} {px py pt : Pos} {kt k2 : Nat} {pt2 : Pos} (c : Ok g X) (hN : X.N.Nodup) (ha : SndF g E H0 X a ma) (hb : Snd g E H0 X false b mb) (hw : swappedStores [.Tuple [.Name x px, .Name y py] kt pt] (.Tuple [a, b] k2 pt2) X.env = pure (some [x, y]) := by rfl)
    (hi : X.N[i]? = some x := by rfl) (hj : X.N[j]? = some y := by rfl) (hij : i ≠ j := by decide) (hx : X.env.scope.names.lookup x = some .local := by rfl) (hy : X.env.scope.names.lookup y = some .local := by rfl)
    (hs : swapsWithSole [.Tuple [.Name x px, .Name y py] kt pt] (.Tuple [a, b] k2 pt2) pos.line X.env = pure false := by rfl) (h1 : starEach [a, b] X.env = (false, eval a X.env) :: starEach [b] X.env := by rfl) (h2 : starEach [b] X.env = (false, eval b X.env) :: starEach [] X.env := by rfl) :
    SndS g E w0 H0 X (.Assign [.Tuple [.Name x px, .Name y py] kt pt] (.Tuple [a, b] k2 pt2) pos) (mPar2F i j ma mb) := by
  refine weakS (ps_par c.calm hN hi hj hij hx hy (pa_cons ha (pa_cons hb pa_nil h2) h1) hw hs) ?_
  rintro D σ H ⟨w, σI, B, s, x0, p⟩
  refine st_goF s x0 p fun e B1 w1 q ob H1 x1 x2 s1 e1 ct n pp io z p1 => ?_
  refine st_go s1 x1 p1 fun d B2 w2 v H2 y1 y2 s2 r p2 => ?_
  refine ⟨.ref q, v, rfl, p2 w2 _ H2 (Le.refl _) ((s2.setO i (y2.keep _ _ e1 io ct.nt.t) (Cont.mono y2.le ct) ?_ ?_ (x0.none0 n) (fun l f hl => s.own_ne hl n) z).set j r) y1⟩
  · cases hp : w2.P q with
    | none => rfl
    | some u =>
      rcases y2.pf _ _ hp with h | h | ⟨qq, h⟩
      · rw [pp] at h; cases h
      · rw [e1] at h; cases h
      · have y := s2.rb.sub _ _ hp
        rw [y2.keep _ _ e1 io ct.nt.t] at y; cases y
        exact (ct.nt.c _ _ h).elim
  · intro k hk
    rcases y2.iof _ _ hk with h | h
    · exact io k h
    · rw [e1] at h; cases h
theorem z_par2SC {i j : Nat} {x y : Str} {px py pt : Pos} {kt k2 : Nat} {pt2 : Pos} (c : Ok g X) (hN : X.N.Nodup) (ha : Snd g E H0 X false a ma) (hb : SndF g E H0 X b mb)
    (hi : X.N[i]? = some x := by rfl) (hj : X.N[j]? = some y := by rfl) (hij : i ≠ j := by decide) (hx : Loc X.env.scope x := by first | exact .inl rfl | exact .inr rfl) (hy : Loc X.env.scope y := by first | exact .inl rfl | exact .inr rfl)
    (hs : swapsWithSole [.Tuple [.Name x px, .Name y py] kt pt] (.Tuple [a, b] k2 pt2) pos.line X.env = pure false := by rfl) (hw : swappedStores [.Tuple [.Name x px, .Name y py] kt pt] (.Tuple [a, b] k2 pt2) X.env = pure none := by rfl)
    (h1 : starEach [a, b] X.env = (false, eval a X.env) :: starEach [b] X.env := by rfl) (h2 : starEach [b] X.env = (false, eval b X.env) :: starEach [] X.env := by rfl)
    (h3 : (assignEach [.Tuple [.Name x px, .Name y py] kt pt] X.env).map (·.2) = [assign (.Tuple [.Name x px, .Name y py] kt pt) X.env] := by rfl)
    (h4 : (assignEach [.Name x px, .Name y py] X.env).length = 2 := by rfl) (h5 : (assignEach [.Name x px, .Name y py] X.env).findIdx? (·.1) = none := by rfl)
    (h6 : (assignEach [.Name x px, .Name y py] X.env).map (·.2) = assign (.Name x px) X.env :: (assignEach [.Name y py] X.env).map (·.2) := by rfl) (h7 : (assignEach [.Name y py] X.env).map (·.2) = assign (.Name y py) X.env :: (assignEach [] X.env).map (·.2) := by rfl)
    (f1 : X.fn x = true ∨ X.env.scope.names.lookup x = some .local := by first | exact .inl rfl | exact .inr rfl) (f2 : X.fn y = true ∨ X.env.scope.names.lookup y = some .local := by first | exact .inl rfl | exact .inr rfl) :
    SndS g E w0 H0 X (.Assign [.Tuple [.Name x px, .Name y py] kt pt] (.Tuple [a, b] k2 pt2) pos) (mPar2S i j ma mb) := by
  refine weakS (ps_asg (pe_tupN (pa_cons ha (pa_cons hb pa_nil h2) h1)) (pg_tup c.calm (pgs_cons (pg_name hN hi hx f1) (pgs_cons (pg_name hN hj hy f2) pgs_nil h7) h6) h4 h5) hs hw h3) ?_
  rintro D σ H ⟨w, σI, B, s, x0, p⟩
  refine st_go s x0 p fun d B1 w1 v H1 x1 x2 s1 r1 p1 => ?_
  refine st_goF s1 x1 p1 fun e B2 w2 q ob H2 y1 y2 s2 e2 ct n pp io z p2 => ?_
  refine ⟨by show 2 ≤ sizeLine; decide, fun t tb ht hd => ⟨t, _, rfl, .inl (.inr ⟨tb, upd_same⟩), rfl, v, _, rfl, .ref q, _, rfl, rfl, ?_⟩⟩
  have qt : q ≠ t := ne_of_none e2 ht
  have s3 := s2.step (Ext.lay (o := .frz tb (.tup [v, V.ref q])) ht) (s2.rb.lay ht)
  refine p2 w2 _ _ (Le.refl _) ((s3.set i (Rep.mono y2.le _ _ r1)).setO j (by rw [upd_ne qt]; exact e2) ct pp io (x1.none0 n) (fun l f hl => ?_) z) (y1.trans (Ext.lay ht))
  by_cases hli : l = i
  · subst hli
    simp [List.getElem?_set] at hl
  · rw [List.getElem?_set_ne (Ne.symm hli)] at hl
    rw [List.getElem?_set_ne (Ne.symm hli)]
    exact s1.own_ne hl n
theorem z_par2FC {i j : Nat} {x y : Str} {px py pt : Pos} {kt k2 : Nat} {pt2 : Pos} (c : Ok g X) (hN : X.N.Nodup) (ha : SndF g E H0 X a ma) (hb : Snd g E H0 X false b mb)
    (hi : X.N[i]? = some x := by rfl) (hj : X.N[j]? = some y := by rfl) (hij : i ≠ j := by decide) (hx : Loc X.env.scope x := by first | exact .inl rfl | exact .inr rfl) (hy : Loc X.env.scope y := by first | exact .inl rfl | exact .inr rfl)
    (hs : swapsWithSole [.Tuple [.Name x px, .Name y py] kt pt] (.Tuple [a, b] k2 pt2) pos.line X.env = pure false := by rfl) (hw : swappedStores [.Tuple [.Name x px, .Name y py] kt pt] (.Tuple [a, b] k2 pt2) X.env = pure none := by rfl)
    (h1 : starEach [a, b] X.env = (false, eval a X.env) :: starEach [b] X.env := by rfl) (h2 : starEach [b] X.env = (false, eval b X.env) :: starEach [] X.env := by rfl)
    (h3 : (assignEach [.Tuple [.Name x px, .Name y py] kt pt] X.env).map (·.2) = [assign (.Tuple [.Name x px, .Name y py] kt pt) X.env] := by rfl)
    (h4 : (assignEach [.Name x px, .Name y py] X.env).length = 2 := by rfl) (h5 : (assignEach [.Name x px, .Name y py] X.env).findIdx? (·.1) = none := by rfl)
    (h6 : (assignEach [.Name x px, .Name y py] X.env).map (·.2) = assign (.Name x px) X.env :: (assignEach [.Name y py] X.env).map (·.2) := by rfl) (h7 : (assignEach [.Name y py] X.env).map (·.2) = assign (.Name y py) X.env :: (assignEach [] X.env).map (·.2) := by rfl)
    (f1 : X.fn x = true ∨ X.env.scope.names.lookup x = some .local := by first | exact .inl rfl | exact .inr rfl) (f2 : X.fn y = true ∨ X.env.scope.names.lookup y = some .local := by first | exact .inl rfl | exact .inr rfl) :
    SndS g E w0 H0 X (.Assign [.Tuple [.Name x px, .Name y py] kt pt] (.Tuple [a, b] k2 pt2) pos) (mPar2F i j ma mb) := by
  refine weakS (ps_asg (pe_tupN (pa_cons ha (pa_cons hb pa_nil h2) h1)) (pg_tup c.calm (pgs_cons (pg_name hN hi hx f1) (pgs_cons (pg_name hN hj hy f2) pgs_nil h7) h6) h4 h5) hs hw h3) ?_
  rintro D σ H ⟨w, σI, B, s, x0, p⟩
  refine st_goF s x0 p fun e B1 w1 q ob H1 x1 x2 s1 e1 ct n pp io z p1 => ?_
  refine st_go s1 x1 p1 fun d B2 w2 v H2 y1 y2 s2 r p2 => ?_
  refine ⟨by show 2 ≤ sizeLine; decide, fun t tb ht hd => ⟨t, _, rfl, .inl (.inr ⟨tb, upd_same⟩), rfl, .ref q, _, rfl, v, _, rfl, rfl, ?_⟩⟩
  have e2 := y2.keep _ _ e1 io ct.nt.t
  have qt : q ≠ t := ne_of_none e2 ht
  have s3 := s2.step (Ext.lay (o := .frz tb (.tup [V.ref q, v])) ht) (s2.rb.lay ht)
  refine p2 w2 _ _ (Le.refl _) ((s3.setO i (by rw [upd_ne qt]; exact e2) (Cont.mono y2.le ct) ?_ ?_ (x0.none0 n) (fun l f hl => s.own_ne hl n) z).set j r) (y1.trans (Ext.lay ht))
  · cases hp : w2.P q with
    | none => rfl
    | some u =>
      rcases y2.pf _ _ hp with h | h | ⟨qq, h⟩
      · rw [pp] at h; cases h
      · rw [e1] at h; cases h
      · have y := s2.rb.sub _ _ hp
        rw [y2.keep _ _ e1 io ct.nt.t] at y; cases y
        exact (ct.nt.c _ _ h).elim
  · intro k hk
    rcases y2.iof _ _ hk with h | h
    · exact io k h
    · rw [e1] at h; cases h
end
end Hf

set_option Elab.async false
set_option linter.all false
set_option maxRecDepth 100000
set_option maxHeartbeats 8000000
namespace Hf
open PySem PySem.Spec PyProof.Rows L2

/-! ### calls by the parameters' names -/
/-- the values in the parameters' order: pi tells for each parameter which of the named values it is -/
def permL {α : Type} (pi : List Nat) (ws : List α) : List α := pi.filterMap fun i => ws[i]?
theorem permL_reps {g : Gs} {w : Wd} {ds : List D} {vs : List V} (r : Reps g w ds vs) : ∀ pi : List Nat, Reps g w (permL pi ds) (permL pi vs)
  | [] => by simp [permL, Reps]
  | i :: pi => by
    have ih := permL_reps r pi
    unfold permL at ih ⊢
    rw [List.filterMap_cons, List.filterMap_cons]
    cases q : ds[i]? with
    | none =>
      have e : vs[i]? = none := by
        have := List.getElem?_eq_none_iff.mp q
        exact List.getElem?_eq_none_iff.mpr (by rw [r.len]; exact this)
      rw [e]; exact ih
    | some d =>
      obtain ⟨v, e, rv⟩ := Reps.get r q
      rw [e]
      simp only [Reps]
      exact ⟨v, _, rfl, rv, ih⟩
theorem permL_vals {vs : List V} {us : List Value} (r : Vals vs us) : ∀ pi : List Nat, Vals (permL pi vs) (permL pi us)
  | [] => .nil
  | i :: pi => by
    have ih := permL_vals r pi
    unfold permL at ih ⊢
    rw [List.filterMap_cons, List.filterMap_cons]
    cases q : vs[i]? with
    | none => rw [Vals.none_of r q]; exact ih
    | some v =>
      obtain ⟨u, e, rv⟩ := Vals.get r q
      rw [e]
      exact .cons rv ih
/-- m values by place, then named ones -/
def KwB (K : PySem.W.Frag) (fd : FuncData) (ps ks : List Str) (m : Nat) (pi : List Nat) : Prop := ∀ (s : Shared) (us ws : List Value), K.In s.heap → us.length = m → ws.length = ks.length → BindsTo s fd ⟨us, ks.zip ws⟩ (ps.zip (us ++ permL pi ws))
theorem kw_mk {K : PySem.W.Frag} {x qual : Str} {st : Stmt} {f : Addr} {fd : FuncData} {ps ks : List Str} {m : Nat} {pi : List Nat} (F : L2.Fun K x qual st f fd) (h : KwB K fd ps ks m pi) : KwB K fd ps ks m pi := h
abbrev SndK (g : Gs) (E : XK) (H0 : Hp) (X : Cx) (kws : List Keyword) (m : Evs) : Prop := PK X kws (tIs g E H0 m)
section
variable {g : Gs} {E : XK} {w0 w : Wd} {H0 H : Hp} {X : Cx} {e o a b : Expr} {es : List Expr} {m ma mb : Ev} {ms : Evs} {pos p apos kpos : Pos} {x : Str} {f : Fn} {lv k c : Nat} {σI : Sl} {σ : L2.St} {B : Bs} {Q : VK} {kws : List Keyword} {ks : List Str} {pi : List Nat} {nm : Option Str}
theorem weakK {t t' : TA} (h : PK X kws t) (i : ∀ σ H Q, t' σ H Q → t σ H Q) : PK X kws t' := ⟨fun pos pins s σ H Q I q => h.run pos pins s σ H Q I (i σ H Q q)⟩
theorem k_nil : SndK g E H0 X [] mNil := weakK pk_nil fun σ H Q ⟨w, σI, B, s, p⟩ => p w [] H (Ext.refl _ _) s.rb (by simp only [Reps])
theorem k_cons (he : Snd g E H0 X false e m) (hr : SndK g E H0 X kws ms) : SndK g E H0 X (⟨nm, e, kpos⟩ :: kws) (mCons m ms) := by
  refine weakK (pk_cons he hr) ?_
  rintro σ H Q ⟨w, σI, B, s, p⟩
  refine tI_bindA s p fun d B1 w1 v H1 x1 s1 r1 p1 => ?_
  refine tIs_bindA s1 p1 fun ds B2 w2 vs H2 x2 s2 r2 p2 => ?_
  refine p2 w2 _ H2 (Ext.refl _ _) s2.rb ?_
  simp only [Reps]
  exact ⟨v, vs, rfl, Rep.mono x2.le _ _ r1, r2⟩
def DefK (g : Gs) (k : Nat) (x : Str) (ks : List Str) (pi : List Nat) (f : Fn) : Prop := ∃ (fa : Addr) (fd : FuncData) (ps : List Str), FnOk g.prog g.w g.K g.mg g.base (L2N.CX g.prog g.w) k fa fd ps (spF g f) ∧ g.mg x = some (.ref fa) ∧ PySem.W.keepIn g.K (.ref fa) = true ∧ KwB g.K fd ps ks 0 pi
def named (n : Nat) (pi : List Nat) (f : List D → Bs → Rs D) (ds : List D) (B : Bs) : Rs D := if ds.length = n then f (permL pi ds) B else .bad
def mCallK (f : Fn) (n : Nat) (pi : List Nat) (ms : Evs) : Ev := fun σ B => (ms σ B).bind (named n pi f)
theorem run_kw {CX : CXT} {fa : Addr} {fd : FuncData} {ps : List Str} {sp : Sp} {us ws : List Value} {vs : List V} {pins : List (Addr × Obj)} {s : Shared} {n : Nat} (F : FnOk X.prog X.w X.K X.mg X.base CX k fa fd ps sp) (hr : Room k X.A) (hb : KwB X.K fd ps ks n pi) (hx : Passes CX X E) (I : Inv X pins σ H s)
    (hn : us.length = n) (hl : ws.length = ks.length) (r : Vals vs (us ++ permL pi ws)) (h : sp vs H Q E) :
    codeAny (model X.prog X.w) X.A (.call (.ref fa) ⟨us, ks.zip ws⟩) (fun r s' => match r with | .ok (.ret v) => EP X pins σ Q v s' | .ok _ => False | .error e => X.xe e s') s := by
  refine codeAny_mono (F.run X.A X.stack s H ⟨us, ks.zip ws⟩ (us ++ permL pi ws) vs Q E hr I.env0 (hb s us ws I.kIn hn hl) r h) fun z s' hq => ?_
  cases z with
  | error e => exact hx pins σ H s e s' I hq
  | ok fl => cases fl with
    | ret u => exact I.after hq
    | next | brk | cont => exact hq.elim
theorem kw_len {zs : List V} {ws : List Value} {n : Nat} (r : Vals zs ws) (h : zs.length = n) : ws.length = n := by rw [← r.length]; exact h
/-- f(k = v, ..) -/
theorem s_callK (c : OkC g E lv X) (d : DefK g k x ks pi f) (hk : k ≤ lv) (ha : SndK g E H0 X kws ms) (hg : Gl X x := by rfl) (hdb : (x == ("__debug__" : Str)) = false := by decide) (hall : (backToKw pos (keywordEach kws X.env)).all (·.1.isSome) = true := by rfl)
    (hks : (backToKw pos (keywordEach kws X.env)).filterMap (·.1) = ks := by rfl) (hpl : ((backTo pos (starEach [] X.env)).any (·.1) || (backToKw pos (keywordEach kws X.env)).any (·.1.isNone)) = false := by rfl) :
    Snd g E H0 X false (.Call (.Name x p) [] kws pos) (mCallK f ks.length pi ms) := by
  obtain ⟨fa, fd, ps, F, hm, kp, hb⟩ := d
  obtain ⟨prog, w', K, mg, base, A, N, s_0, H_0, env, outer, stack, ex, fn, calm, pn, xe⟩ := X
  obtain ⟨⟨h1, h2, h3, h4, h5, h6, h7, hfx⟩, h8, h9⟩ := c
  simp only at h1 h2 h5 h6 h7
  subst h1 h2 h5 h6 h7
  refine ⟨fun pins s σ H Q I ⟨w, σI, B, s0, p⟩ => ?_⟩
  refine wpAny_Call_Name_kw (ld_glob I hg hm ?_ hdb)
  have hp : tIs g E H0 ms σ H fun zs H2 => zs.length = ks.length ∧ spF g f (permL pi zs) H2 Q E := tIs_bind s0 p fun ds B1 w1 vs H1 x1 s1 r1 p1 => by
    unfold named at p1
    split at p1
    · rename_i hl
      exact ⟨r1.len.trans hl, w1, _, B1, s1.rb, permL_reps r1 pi, PostC.of s1 p1⟩
    · exact p1.elim
  refine PySem.W.callWith_KW0 (h₀ := g.base) I.ok.mod.kin kp hall (thn (ha.run pos pins s σ H _ I hp) fun ws s2 ⟨zs, H2, I2, rz, hl, q2⟩ => ⟨I2.kIn, ?_⟩) hpl
  rw [hks]
  exact wpAny_call (run_kw F (h8.mono hk) hb h9 I2 rfl (kw_len rz hl) (permL_vals rz pi) q2)
/-! ### x.m() -/
theorem s_mth0 (ok : OkC g E lv X) {n : Str} (D : Mth g k c n [] f) (hk : k ≤ lv) (ho : Snd g E H0 X false o m) {pl : Sem Bool}
    (ht : eval (.Call (.Attribute o n apos) [] [] pos) X.env = (do
      let ov ← eval o X.env
      standAt apos.atName
      let (f, first) ← holding [ov] (getMethod ov n pl)
      callWith pos f first (backTo pos (starEach [] X.env)) (backToKw pos (keywordEach [] X.env))) := by rfl) :
    Snd g E H0 X false (.Call (.Attribute o n apos) [] [] pos) (mMth c f [] m mNil) := by
  obtain ⟨fa, fd, ps, dvs, ds, F, hm, b, hd, hr, hn, hc⟩ := D
  have C := ok.fx.cls _ hc
  obtain ⟨prog, w', K, mg, base, A, N, s_0, H_0, env, outer, stack, ex, fn, calm, pn, xe⟩ := X
  obtain ⟨⟨h1, h2, h3, h4, h5, h6, h7, hfx⟩, h8, h9⟩ := ok
  simp only at h1 h2 h5 h6 h7
  subst h1 h2 h5 h6 h7
  refine weak (pe_meth0 ho C.cls hm F (h8.mono hk) b hd h9 ht) ?_
  rintro σ H Q ⟨w, σI, B, s, p⟩
  refine tI_bind s p fun d B1 w1 v H1 x1 s1 r1 p1 => ?_
  split at p1
  · rename_i c' es'
    split at p1
    · rename_i hc'
      subst hc'
      obtain ⟨a, dx, vs, rfl, ha, hl, hh, rr⟩ := (RepB.up r1).inst s1
      refine ⟨a, dx, _, rfl, ha, zip_none hn vs, ?_⟩
      exact ⟨w1, _, B1, s1.rb, by simp only [Reps]; exact ⟨_, _, rfl, r1, Reps.app (by simp only [Reps]) (hr w1)⟩, PostC.of s1 p1⟩
    · exact p1.elim
  · exact p1.elim
/-! ### C.m(k = v, ..), m a class method -/
def CMtK (g : Gs) (k c : Nat) (n : Str) (ks : List Str) (pi : List Nat) (f : Fn) : Prop := ∃ mc pr fa fd ps, FnOk g.prog g.w g.K g.mg g.base (L2N.CX g.prog g.w) k fa fd ps (spF g f) ∧ ClX.CRead g.K (g.cl c) mc ∧ ClX.CMet g.K (g.cl c) mc n pr fa ∧ g.has c = true ∧ KwB g.K fd ps ks 1 pi
def mCMthK (c : Nat) (f : Fn) (n : Nat) (pi : List Nat) (ms : Evs) : Ev := fun σ B => (ms σ B).bind (named n pi fun ds B1 => f (.cls c :: ds) B1)
theorem s_cmthK (ok : OkC g E lv X) {n : Str} (N : CMtK g k c n ks pi f) (C : ClsN g c x) (hk : k ≤ lv) (ha : SndK g E H0 X kws ms) (hg : Gl X x := by rfl) (hd : (x == ("__debug__" : Str)) = false := by decide) {pl : Sem Bool} (hall : (backToKw pos (keywordEach kws X.env)).all (·.1.isSome) = true := by rfl)
    (hks : (backToKw pos (keywordEach kws X.env)).filterMap (·.1) = ks := by rfl) (hpl : ((backTo pos (starEach [] X.env)).any (·.1) || (backToKw pos (keywordEach kws X.env)).any (·.1.isNone)) = false := by rfl)
    (ht : eval (.Call (.Attribute (.Name x p) n apos) [] kws pos) X.env = (do
      let ov ← eval (.Name x p) X.env
      standAt apos.atName
      let (f, first) ← holding [ov] (getMethod ov n pl)
      callWith pos f first (backTo pos (starEach [] X.env)) (backToKw pos (keywordEach kws X.env))) := by rfl) :
    Snd g E H0 X false (.Call (.Attribute (.Name x p) n apos) [] kws pos) (mCMthK c f ks.length pi ms) := by
  obtain ⟨mc, pr, fa, fd, ps, F, R, M, hc, hb⟩ := N
  obtain ⟨prog, w', K, mg, base, A, N, s_0, H_0, env, outer, stack, ex, fn, calm, pn, xe⟩ := X
  obtain ⟨⟨h1, h2, h3, h4, h5, h6, h7, hfx⟩, h8, h9⟩ := ok
  simp only at h1 h2 h5 h6 h7
  subst h1 h2 h5 h6 h7
  refine ⟨fun pins s σ H Q I ⟨w, σI, B, s0, p⟩ => ?_⟩
  have hp : tIs g E H0 ms σ H fun zs H2 => zs.length = ks.length ∧ spF g f (.ref (g.cl c) :: permL pi zs) H2 Q E := tIs_bind s0 p fun ds B1 w1 vs H1 x1 s1 r1 p1 => by
    unfold named at p1
    split at p1
    · rename_i hl
      refine ⟨r1.len.trans hl, w1, _, B1, s1.rb, ?_, PostC.of s1 p1⟩
      simp only [Reps, Rep]
      exact ⟨_, _, rfl, ⟨rfl, hc⟩, permL_reps r1 pi⟩
    · exact p1.elim
  refine PySem.W.methodCall_KW (pl := pl) (thn ((pe_glob (v := .ref (g.cl c)) hg C.mg rfl hd).run pins s σ H (fun y H1 => y = .ref (g.cl c) ∧ H1 = H) I ⟨rfl, rfl⟩) fun u s1 ⟨y, H1, I1, ry, ey, eH⟩ => ?_) ht
  subst ey eH
  obtain rfl : u = Value.ref (g.cl c) := ry
  refine ClX.getmethcm_ok I1 R M fun s2 I2 => ?_
  refine PySem.W.callWith_of hpl (PySem.W.keeps_M M.fi) (evalArgs_kw2_nil hall (thn (ha.run pos _ s2 σ H1 _ I2 hp) fun ws s3 ⟨zs, H2, I3, rz, hl, q2⟩ => ⟨⟨ClX.pin_at I3, I3.kIn⟩, ?_⟩))
  rw [hks]
  have z := wpAny_call (PySem.W.method_call (ClX.pin_at I3) (run_kw (us := [.ref (g.cl c)]) (vs := .ref (g.cl c) :: permL pi zs) F (h8.mono hk) hb h9 I3 rfl (kw_len rz hl) (.cons rfl (permL_vals rz pi)) q2))
  exact thn z fun _ _ y => ClX.unpinE y
/-! ### x(k = v, ..), x an own instance -/
def DunK (g : Gs) (k c : Nat) (n : Str) (ks : List Str) (pi : List Nat) (f : Fn) : Prop := ∃ fa fd ps, FnOk g.prog g.w g.K g.mg g.base (L2N.CX g.prog g.w) k fa fd ps (spF g f) ∧ PySem.W.findIn g.K (.ref (g.cl c)) n = some (some (.ref fa)) ∧ PySem.W.isFn g.K (.ref fa) = true ∧ PySem.W.fnIn g.K fa = true ∧ g.has c = true ∧ KwB g.K fd ps ks 1 pi
def mCallOK (c : Nat) (f : Fn) (n : Nat) (pi : List Nat) (m : Ev) (ms : Evs) : Ev := fun σ B => (m σ B).bind fun d B1 => match d with
  | .inst c' fs => if c' = c then (ms σ B1).bind (named n pi fun ds B2 => f (.inst c' fs :: ds) B2) else .bad
  | _ => .bad
theorem inst_called {M : Model} {A : Around} {Er : Value → Shared → Prop} {s : Shared} {q : Addr} {pos : Pos} {Q : Value → Shared → Prop} {args : List (Bool × Sem Value)} {kw : List (Option Str × Sem Value)} (hpl : (args.any (·.1) || kw.any (·.1.isNone)) = false)
    (h : wpAny M A (evalArgs (.ref q) true args kw) (fun z t => (∃ C ox od, PySem.W.InstAt t.heap q ox C od ∧ ox.data = .plain) ∧ wpAny M A (call (.ref q) ([] ++ z.pos) z.kw) Q Er t) Er s) : wpAny M A (callWith pos (.ref q) [] args kw) Q Er s := by
  unfold callWith
  refine wpAny_bind (wpAny_holding (thn h fun z t hz => wpAny_bind (wpAny_standAt ?_)))
  obtain ⟨⟨C, ox, od, J, hd⟩, hc⟩ := hz
  simp only [hpl]
  exact wpAny_bind ((PySem.W.kco_keeper (M := M) J hd).here (wpAny_bind (thn (wpAny_operateT hc) fun r t2 hr => wpAny_bind (wpAny_holding (wpAny_point (wpAny_pure hr))))))
theorem s_callOK (ok : OkC g E lv X) (N : DunK g k c "__call__" ks pi f) (hk : k ≤ lv) (hf : Snd g E H0 X false o m) (ha : SndK g E H0 X kws ms) (hall : (backToKw pos (keywordEach kws X.env)).all (·.1.isSome) = true := by rfl)
    (hks : (backToKw pos (keywordEach kws X.env)).filterMap (·.1) = ks := by rfl) (hpl : ((backTo pos (starEach [] X.env)).any (·.1) || (backToKw pos (keywordEach kws X.env)).any (·.1.isNone)) = false := by rfl)
    (ht : eval (.Call o [] kws pos) X.env = (do callWith pos (← eval o X.env) [] (backTo pos (starEach [] X.env)) (backToKw pos (keywordEach kws X.env))) := by rfl) : Snd g E H0 X false (.Call o [] kws pos) (mCallOK c f ks.length pi m ms) := by
  obtain ⟨fa, fd, ps, F, hfd, hfn, hfi, hc, hb⟩ := N
  obtain ⟨prog, w', K, mg, base, A, N, s_0, H_0, env, outer, stack, ex, fn, calm, pn, xe⟩ := X
  obtain ⟨⟨h1, h2, h3, h4, h5, h6, h7, hfx⟩, h8, h9⟩ := ok
  simp only at h1 h2 h5 h6 h7
  subst h1 h2 h5 h6 h7
  have hp : ∀ σ H Q, tI g E H0 false (mCallOK c f ks.length pi m ms) σ H Q → tI g E H0 false m σ H fun y H1 => ∃ q, y = V.ref q ∧ tIs g E H0 ms σ H1 fun zs H2 => (∃ dx fs, H2 q = some (.ins (g.cl c) dx fs)) ∧ zs.length = ks.length ∧ spF g f (.ref q :: permL pi zs) H2 Q E := by
    rintro σ H Q ⟨w, σI, B, s, p⟩
    refine tI_bind s p fun d B1 w1 v H1 x1 s1 r1 p1 => ?_
    split at p1
    · rename_i c' es'
      split at p1
      · rename_i hc'
        subst hc'
        obtain ⟨q0, dx, vs, rfl, hi, hl, hh, rr⟩ := (RepB.up r1).inst s1
        refine ⟨q0, rfl, tIs_bind s1 p1 fun ds B2 w2 vs2 H2 x2 s2 r2 p2 => ?_⟩
        obtain ⟨q1, dx1, vs1, e1, hi1, _⟩ := ((RepB.up r1).mono x2.le).inst s2
        cases e1
        unfold named at p2
        split at p2
        · rename_i hl2
          refine ⟨⟨dx1, _, hi1⟩, r2.len.trans hl2, w2, _, B2, s2.rb, ?_, PostC.of s2 p2⟩
          simp only [Reps]
          exact ⟨_, _, rfl, Rep.mono x2.le _ _ r1, permL_reps r2 pi⟩
        · exact p2.elim
      · exact p1.elim
    · exact p1.elim
  refine ⟨fun pins s σ H Q I h => ?_⟩
  rw [ht]
  refine wpAny_bind (thn (hf.run pins s σ H _ I (hp σ H Q h)) fun u s1 ⟨y, H1, I1, ry, q, ey, q1⟩ => ?_)
  subst ey
  obtain rfl : u = Value.ref q := ry
  refine inst_called hpl (evalArgs_kw2_nil hall (thn (ha.run pos pins s1 σ H1 _ I1 q1) fun ws s2 ⟨zs, H2, I2, rz, ⟨dx, fs, hi⟩, hl, q2⟩ => ?_))
  obtain ⟨od, J⟩ := inst_at I2 hi
  refine ⟨⟨g.cl c, _, od, J, rfl⟩, ?_⟩
  rw [hks]
  exact wpAny_call (PySem.W.kco_code I2.kIn J rfl hfd hfn hfi (run_kw (us := [.ref q]) (vs := .ref q :: permL pi zs) F (h8.mono hk) hb h9 I2 rfl (kw_len rz hl) (.cons rfl (permL_vals rz pi)) q2))
end
end Hf

set_option Elab.async false
set_option linter.all false
set_option maxRecDepth 100000
set_option maxHeartbeats 8000000
namespace Hf
open PySem PySem.Spec PyProof.Rows L2

section
variable {g : Gs} {E : XK} {w0 w : Wd} {H0 H : Hp} {X : Cx} {e o a b : Expr} {es : List Expr} {m ma mb : Ev} {ms : Evs} {pos p apos kpos : Pos} {x : Str} {f : Fn} {lv k c : Nat} {σI : Sl} {σ : L2.St} {B : Bs} {Q : VK} {kws : List Keyword} {ks : List Str} {pi : List Nat} {b1 b2 : Bool}
/-! ### a ^ b of numbers -/
abbrev fXor := fI2 (fun i j => .int (Builtin.bitXor i j)) fun _ _ => true
theorem s_xor (ha : Snd g E H0 X b1 a ma) (hb : Snd g E H0 X b2 b mb) : Snd g E H0 X false (.BinOp a .BitXor b pos) (mBin fXor ma mb) := s_bin op_xor (os_I0 fun w i j => rep_int g w _) ha hb
/-! ### sorted of a list of data that is in order already -/
def tupB : PyData → Bool
  | .tuple (_ :: _) => true
  | _ => false
def inOrd : List D → Bool
  | [] => true
  | d :: ds => ds.all (fun e => PySem.W.dataLe false toPy d e) && inOrd ds
def srtG (ds : List D) : Bool := decide (ds.length ≤ sizeLine) && (toPys ds).all tupB && (toPys ds).all (fun x => (toPys ds).all fun y => PySem.W.alike x y) && PyData.canLayAll0 (toPys ds) && (toPys ds).all (fun x => decide (x.depth ≤ 50)) && inOrd ds
theorem inOrd_pw : ∀ {ds : List D}, inOrd ds = true → ds.Pairwise fun x y => PySem.W.dataLe false toPy x y = true
  | [], _ => .nil
  | d :: ds, h => by
    simp only [inOrd, Bool.and_eq_true, List.all_eq_true] at h
    exact .cons h.1 (inOrd_pw h.2)
theorem toPys_map : ∀ ds : List D, toPys ds = ds.map toPy
  | [] => by simp [toPys]
  | d :: ds => by simp [toPys, toPys_map ds]
def rSrtG (K : PySem.W.Frag) : List V → Hp → VK → Prop := fun vs H Q => ∃ (q : Addr) (xs : List V) (ds : List D), vs = [V.ref q] ∧ SqL K H q xs ∧ DpAll K H xs (toPys ds) ∧ srtG ds = true ∧ ∀ p, H p = none → Q (.ref p) (upd H p (.lst xs))
theorem each_zip {h : Heap} : ∀ {xs : List V} {us : List Value} {ds : List D}, Vals xs us → xs.length = ds.length → PySem.W.EachIs (fun u (p : V × D) => RelV p.1 u) us (xs.zip ds)
  | [], _, ds, r, hl => by
    cases r
    match ds, hl with
    | [], _ => exact .nil
  | x :: xs, _, ds, r, hl => by
    cases r with
    | cons r1 r2 => match ds, hl with
      | d :: ds, hl => exact .cons r1 (each_zip (h := h) r2 (by simpa using hl))
theorem zip_snd : ∀ {xs : List V} {ds : List D}, xs.length = ds.length → (xs.zip ds).map (·.2) = ds
  | [], [], _ => rfl
  | x :: xs, d :: ds, h => by simp [zip_snd (xs := xs) (ds := ds) (by simpa using h)]
theorem zip_fst : ∀ {xs : List V} {ds : List D}, xs.length = ds.length → (xs.zip ds).map (·.1) = xs
  | [], [], _ => rfl
  | x :: xs, d :: ds, h => by simp [zip_fst (xs := xs) (ds := ds) (by simpa using h)]
theorem vals_each : ∀ {us : List Value} {ps : List (V × D)}, PySem.W.EachIs (fun u (p : V × D) => RelV p.1 u) us ps → Vals (ps.map (·.1)) us
  | _, _, .nil => .nil
  | _, _, .cons h1 h2 => .cons h1 (vals_each h2)
theorem dpAll_len {K : PySem.W.Frag} : ∀ {xs : List V} {ds : List PyData}, DpAll K H xs ds → xs.length = ds.length
  | _, _, .nil => rfl
  | _, _, .cons _ h => by simp [dpAll_len h]
theorem each_reads {pins : List (Addr × Obj)} {s : Shared} (I : Inv X pins σ H s) : ∀ {xs : List V} {us : List Value} {ds : List D}, Vals xs us → DpAll X.K H xs (toPys ds) → PySem.W.EachIs (fun u (p : V × D) => ∃ as, Reads s.heap u (toPy p.2) as) us (xs.zip ds)
  | [], _, ds, r, h => by
    cases r
    cases ds with
    | nil => exact .nil
    | cons d ds => simp only [toPys] at h; cases h
  | x :: xs, _, ds, r, h => by
    cases r with
    | cons r1 r2 => cases ds with
      | nil => simp only [toPys] at h; cases h
      | cons d ds =>
        simp only [toPys] at h
        cases h with
        | cons h1 h2 => exact .cons (Dp.reads I _ _ _ h1 r1) (each_reads I r2 h2)
theorem cr_srtG (hu : X.A.units + 100 < cLine) : CallR X (.builtin "sorted") (rSrtG X.K) := by
  intro pins s σ H vs us Q I r h
  obtain ⟨q, xs, ds, rfl, hs, hd, hg, hq⟩ := h
  rw [Vals.ref1 r]
  simp only [srtG, Bool.and_eq_true, List.all_eq_true, decide_eq_true_eq] at hg
  obtain ⟨⟨⟨⟨⟨g1, g2⟩, g3⟩, g4⟩, g5⟩, g6⟩ := hg
  obtain ⟨its, rv, pl, hz⟩ := I.list hs
  have hl : xs.length = ds.length := by rw [dpAll_len hd, toPys_map]; simp
  have e1 : (xs.zip ds).map (fun p => toPy p.2) = toPys ds := by
    rw [toPys_map, show (fun p : V × D => toPy p.2) = toPy ∘ (·.2) from rfl, ← List.map_map, zip_snd hl]
  have e2 : (xs.zip ds).mergeSort (PySem.W.dataLe false fun p => toPy p.2) = xs.zip ds := by
    refine List.mergeSort_of_pairwise ?_
    have z := inOrd_pw g6
    rw [← zip_snd hl] at z
    exact (List.pairwise_map.mp z).imp fun h => h
  refine PySem.W.sorted_data (enc := fun p : V × D => toPy p.2) (R := fun u (p : V × D) => RelV p.1 u) pl.isList (each_zip (h := s.heap) rv hl) (each_reads I rv hd) (by rw [e1]; exact fun x hx y hy => g3 x hx y hy) (.inl (by
    rw [e1]
    intro x hx
    have := g2 x hx
    unfold tupB at this
    split at this
    · exact ⟨_, _, rfl⟩
    · cases this)) (by simp [hl, g1]) (fun p hp => by
      have : toPy p.2 ∈ toPys ds := by rw [← e1]; exact List.mem_map_of_mem hp
      have := g5 _ this
      omega) fun out h1 h2 => ?_
  rw [e2] at h2
  have rv2 := vals_each h2
  rw [zip_fst hl] at rv2
  obtain ⟨ep, he⟩ := PyProof.Rows.sortedAll_at s.heap its out.toArray
  have he' : (PyProof.Rows.sortedAll s.heap its out.toArray).get? (s.heap.objs.size + 1) = some (seqObj "list" out.toArray ep) := he
  exact ⟨.ref _, upd H (s.heap.objs.size + 1) (.lst xs), I.laid (t' := s.toks) (fun _ _ => PyProof.Rows.sortedAll_old) (Nat.le_succ _) ⟨hz, out, ep, rv2, he'⟩, rfl, hq _ (I.hok.fresh (Nat.le_succ _))⟩
def fSrtG : D → Bs → Rs D
  | .lst ds, B => if srtG ds then .ok (.lst ds) B else .bad
  | _, _ => .bad
theorem o_sortedG (c : Ok g X) : OneF g E H0 X (.builtin "sorted") fSrtG := ⟨_, cr_srtG c.un, fun w σI B σ H Q x d s r p => by
  unfold fSrtG at p
  split at p
  · split at p
    · rename_i ds hs
      have hs' := hs
      simp only [srtG, Bool.and_eq_true] at hs'
      obtain ⟨q, vs, rfl, hq, rr⟩ := r.lst s
      exact ⟨q, vs, ds, rfl, .inl (.inl hq), c.K ▸ Reps.dp s.rb.sub ds vs rr hs'.1.1.2, hs, fun l hl => p.newL s rr hl⟩
    · exact p.elim
  · exact p.elim⟩
theorem q_sortedG {p1 : Pos} (c : Ok g X) (he : Snd g E H0 X b1 e m) (hg : Gl X "sorted" := by rfl) (h1 : starEach (e :: []) X.env = (false, eval e X.env) :: starEach [] X.env := by rfl) : SndF g E H0 X (.Call (.Name "sorted" p1) [e] [] pos) (m1 fSrtG m) := f_b1 (o_sortedG c) bt_sorted (nbs c) he hg (by decide) (by decide) h1
/-! ### sum of a tuple of numbers -/
theorem cr_sumT (hc : X.calm = true) : CallR X (.builtin "sum") (fun vs H Q => ∃ (q : Addr) (ns : List Int), vs = [V.ref q] ∧ SqT X.K H q (ns.map V.int) ∧ Q (.int ns.sum) H) := by
  intro pins s σ H vs us Q I r h
  obtain ⟨q, ns, rfl, hs, hq⟩ := h
  obtain ⟨its, rv, tp, _⟩ := I.tuple hs
  rw [Vals.ref1 r]
  obtain ⟨xs, e⟩ := rv.ints.allInts.items
  have hn : numsOf (intItems xs).toList = ns := by rw [← e]; exact rv.ints.numsOf
  rw [nums_intItems] at hn
  have tp' : s.heap.IsTuple q its.toArray := tp
  rw [e] at tp'
  refine PySem.W.ktm_sumG (I.ok.hd hc) tp' fun h' tk t' hk => ⟨.int _, H, I.kept hk, ⟨t', ?_⟩, hq⟩
  rw [preSum_eq, List.take_of_length_le (by simp), hn]
def fSumT : D → Bs → Rs D
  | .tup ds, B => match intsA ds with
    | some bs => .ok (.int bs.sum) B
    | Option.none => .bad
  | _, _ => .bad
theorem o_sumT (c : Ok g X) : One g E H0 X (.builtin "sum") fSumT := ⟨_, cr_sumT c.calm, fun w σI B σ H Q x d s r p => by
  unfold fSumT at p
  split at p
  · split at p
    · rename_i bs hb
      rw [intsA_map hb] at r
      obtain ⟨q, vs, rfl, hq, rr⟩ := r.tup s
      rw [rr.ints] at hq
      exact ⟨q, bs, rfl, c.K ▸ hq, p.nowR s (rep_int g w _)⟩
    · exact p.elim
  · exact p.elim⟩
theorem q_sumT {p1 : Pos} (c : Ok g X) (he : Snd g E H0 X b1 e m) (hg : Gl X "sum" := by rfl) (h1 : starEach (e :: []) X.env = (false, eval e X.env) :: starEach [] X.env := by rfl) : Snd g E H0 X false (.Call (.Name "sum" p1) [e] [] pos) (m1 fSumT m) := s_b1 (o_sumT c) bt_sum (nbs c) he hg (by decide) (by decide) h1
end
end Hf

set_option Elab.async false
set_option linter.all false
set_option maxRecDepth 100000
set_option maxHeartbeats 8000000
namespace Hf
open PySem PySem.Spec PyProof.Rows L2

/-! ### an __init__ with parameters, some with defaults -/
section
variable {g : Gs} {E : XK} {w0 w : Wd} {H0 H : Hp} {X : Cx} {e : Expr} {es : List Expr} {m : Ev} {ms : Evs} {pos p : Pos} {x : Str} {f : Fn} {lv k c : Nat} {σI : Sl} {σ : L2.St} {B : Bs} {Q : VK} {kws : List Keyword} {ks : List Str} {pi : List Nat}
theorem start_ini {N : List Str} {q dx : Addr} {ds : List D} {ws : List V} {n : Nat} (hn : ds.length = n) (hN : n + 1 ≤ N.length) (hh : g.has c = true) (rb : RB g w B H) (r : Reps g w ds ws) (h1 : H q = Option.none) (h2 : H dx = Option.none) (h3 : dx ≠ q) :
    S0 g H { w with me := some q } (some (true, .inst c []) :: (ds.map (fun d => some (false, d)) ++ List.replicate (N.length - (n + 1)) Option.none)) B (L2.start N (V.ref q :: ws)) (upd (upd H dx (.own q)) q (.ins (g.cl c) dx [])) ∧
      Ext { w with me := some q } H { w with me := some q } (upd (upd H dx (.own q)) q (.ins (g.cl c) dx [])) := by
  generalize hH2 : upd (upd H dx (.own q)) q (.ins (g.cl c) dx []) = H2
  have e2 : ∀ b, b ≠ q → b ≠ dx → H2 b = H b := fun b q1 q2 => by rw [← hH2, upd_ne q1, upd_ne q2]
  have eq : H2 q = some (.ins (g.cl c) dx []) := by rw [← hH2, upd_same]
  have hk : Same H H2 := fun b u e => by rw [e2 b (ne_of_none e h1) (ne_of_none e h2)]; exact e
  have l1 : Le w { w with me := some q } := ⟨Same.refl _, fun _ _ h => h⟩
  have rb1 : RB g { w with me := some q } B H2 := rb.keep l1 rfl (fun b u e => hk b u (rb.sub b u e)) hk rb.np rb.nt
  have rl := r.len
  have st : L2.start N (V.ref q :: ws) = some (V.ref q) :: (ws.map some ++ List.replicate (N.length - (n + 1)) Option.none) := by
    unfold L2.start
    rw [List.map_cons, List.cons_append, List.length_cons, rl, hn]
  have tl : ∀ {j : Nat} {fl : Bool} {d : D}, (ds.map (fun d => some (false, d)) ++ List.replicate (N.length - (n + 1)) Option.none)[j]? = some (some (fl, d)) → fl = false ∧ ds[j]? = some d := fun {j fl d} h => by
    by_cases hj : j < ds.length
    · rw [List.getElem?_append_left (by simpa using hj), List.getElem?_map] at h
      cases z : ds[j]? with
      | none => rw [z] at h; cases h
      | some d' => rw [z] at h; cases h; exact ⟨rfl, rfl⟩
    · rw [List.getElem?_append_right (by simp; omega), List.getElem?_replicate] at h
      split at h <;> cases h
  refine ⟨⟨rb1, by rw [st]; simp [rl], fun i d h => ?_, fun i d h => ?_, fun i j d e' a q1 q2 _ _ => ?_, fun i c' es' a q1 q2 => ?_⟩, ⟨Le.refl _, fun b o e _ _ => hk b o e, fun b o e => .inl e, fun b a e => .inl e, fun b e z => e (by
    cases y : H b with
    | none => rfl
    | some u => rw [hk b u y] at z; cases z), rfl⟩⟩
  · rw [st]
    match i, h with
    | 0, h => cases h
    | j + 1, h =>
      obtain ⟨_, hd⟩ := tl (j := j) h
      obtain ⟨v, e1, rv⟩ := Reps.get r hd
      refine ⟨v, ?_, Rep.mono l1 _ _ rv⟩
      have hj : j < ws.length := (List.getElem?_eq_some_iff.mp e1).1
      rw [List.getElem?_cons_succ, List.getElem?_append_left (by simpa using hj), List.getElem?_map, e1]; rfl
  · rw [st]
    match i, h with
    | 0, h =>
      cases h
      refine ⟨q, _, rfl, eq, ?_, rb.fresh_P h1, fun n => rb.fresh_io h1 n, h1⟩
      simp only [Cont]
      exact ⟨dx, [], by simp, Nat.zero_le _, hh, by simp only [Reps]⟩
    | j + 1, h => exact absurd (tl (j := j) h).1 (by decide)
  · match i, j, q1, q2 with
    | 0, 0, _, _ => rfl
    | 0, j + 1, _, h => exact absurd (tl (j := j) h).1 (by decide)
    | i + 1, _, h, _ => exact absurd (tl (j := i) h).1 (by decide)
  · match i, q1 with
    | 0, _ => rw [st] at q2; cases q2; rfl
    | i + 1, h => exact absurd (tl (j := i) h).1 (by decide)
theorem init_okD {q qual : Str} {st : Stmt} {fa : Addr} {fd : FuncData} {N ps : List Str} {n : Nat} {b : Ms} {dvs : List V} {kw : List (Str × V)} (F : FunD g.K q qual (defArgs st) (defBody st) (defScope st) dvs kw fa fd) (S : FnScope N ps (defScope st)) (hn : ps.length = n + 1) (hN : n + 1 ≤ N.length) (hh : g.has c = true)
    (fx : Fx g) (hb : ∀ (E : XK) (w0 : Wd) (H0 : Hp) (X : Cx), OkC g E k X → PassesOwn (model X.prog X.w) X.A X.env X.xe → L2N.Takes X (fun cls d _ H => E cls d H) → X.N = N → X.env.scope = defScope st → X.fn = (fun _ => true) → SndB g E w0 H0 X (defBody st) b) :
    FnOk g.prog g.w g.K g.mg g.base (L2N.CX g.prog g.w) (k + 1) fa fd ps (spI g c (mkIni c n N.length b)) := by
  refine F.ok S (fun vs H Q E h => ?_) (fun cdv A outer s H vs Q E hr h => ?_)
  · obtain ⟨q, dx, ws, H1, w, ds, B, rfl, rfl, h1, h2, h3, rb, r, p⟩ := h
    unfold mkIni at p
    split at p
    · rename_i e; rw [List.length_cons, r.len, e, hn]
    · exact p.elim
  · obtain ⟨q, dx, ws, H1, w, ds, B, rfl, rfl, h1, h2, h3, rb, r, p⟩ := h
    unfold mkIni at p
    split at p
    · rename_i e
      refine ⟨_, hb E { w with me := some q } H1 _ ⟨⟨rfl, rfl, rfl, ?_, rfl, rfl, rfl, fx⟩, hr, ?_⟩ (passes_of rfl) (L2N.takes_of rfl rfl rfl rfl) rfl rfl rfl, ?_⟩
      · have := hr.un; show A.units + 3 + 100 < cLine; have h2 : A.units + 3 + 16 * k + 200 < cLine := this; omega
      · exact L2N.passes_call (L2N.takes_of rfl rfl rfl rfl) (fun _ _ _ _ h => h)
      · obtain ⟨s1, x1⟩ := start_ini (c := c) e hN hh rb r h1 h2 h3
        refine ⟨_, _, B, s1, x1, ?_⟩
        have z := fin_go h1 p
        refine PostS.le ?_ z
        exact ⟨Same.refl _, fun _ _ h => h⟩
    · exact p.elim
/-! ### C(k = v, ..) -/
def IniK (g : Gs) (k c : Nat) (ks : List Str) (pi : List Nat) (f : Fn) : Prop := ∃ fI fd ps, L2.Mk g.K (g.cl c) fI ∧ FnOk g.prog g.w g.K g.mg g.base (L2N.CX g.prog g.w) k fI fd ps (spI g c f) ∧ g.has c = true ∧ KwB g.K fd ps ks 1 pi
def mMakeK (f : Fn) (n : Nat) (pi : List Nat) (ms : Evs) : Ev := fun σ B => (ms σ B).bind (named n pi f)
theorem s_makeK (ok : OkC g E lv X) (N : IniK g k c ks pi f) (C : ClsN g c x) (hk : k + 1 ≤ lv) (ha : SndK g E H0 X kws ms) (hg : Gl X x := by rfl) (hdb : (x == ("__debug__" : Str)) = false := by decide) (hall : (backToKw pos (keywordEach kws X.env)).all (·.1.isSome) = true := by rfl)
    (hks : (backToKw pos (keywordEach kws X.env)).filterMap (·.1) = ks := by rfl) (hpl : ((backTo pos (starEach [] X.env)).any (·.1) || (backToKw pos (keywordEach kws X.env)).any (·.1.isNone)) = false := by rfl) :
    Snd g E H0 X false (.Call (.Name x p) [] kws pos) (mMakeK f ks.length pi ms) := by
  obtain ⟨fI, fd, ps, M, F, hc, hb⟩ := N
  obtain ⟨prog, w', K, mg, base, A, N, s_0, H_0, env, outer, stack, ex, fn, calm, pn, xe⟩ := X
  obtain ⟨⟨h1, h2, h3, h4, h5, h6, h7, hfx⟩, h8, h9⟩ := ok
  simp only at h1 h2 h5 h6 h7
  subst h1 h2 h5 h6 h7
  have kb : KBn g.K fd ps 1 ks (fun us ws => us ++ permL pi ws) (fun vs zs => vs ++ permL pi zs) := ⟨hb, fun r1 r2 => r1.append (permL_vals r2 pi)⟩
  refine weak (pe_makeK0 M F (h8.mono hk) hg C.mg kb h9 ha hall hks hdb hpl) ?_
  rintro σ H Q ⟨w, σI, B, s, p⟩
  refine tIs_bind s p fun ds B1 w1 vs H1 x1 s1 r1 p1 => ?_
  unfold named at p1
  split at p1
  · rename_i hl
    exact ⟨rfl, r1.len.trans hl, make_go s1.rb (permL_reps r1 pi) (PostC.of s1 p1)⟩
  · exact p1.elim
end
end Hf

set_option Elab.async false
set_option linter.all false
set_option maxRecDepth 100000
set_option maxHeartbeats 8000000
namespace Hf
open PySem PySem.Spec PyProof.Rows L2

/-! ### defaults and names of an __init__, classes among each other -/
theorem kit_ref {K : PySem.W.Frag} {C D : Addr} {b : Bool} (h : PySem.W.mroIn K C (.ref D) = some b) (h2 : PySem.W.mroIn K D (.ref D) = some true) (hi : PySem.W.isClsIn K D = true) (ht : PySem.W.typeIn K (.ref D) = some (.type "type")) : PySem.W.kitOne K (.ref C) (.ref D) = some b := by
  by_cases e : C = D
  · subst e
    rw [h] at h2
    cases h2
    exact kit_self
  · have e' : (Value.ref C == Value.ref D) = false := beq_eq_false_iff_ne.mpr (fun z => e (Value.ref.inj z))
    have hc : (PySem.W.clsIn K D).isSome = true := hi
    unfold PySem.W.kitOne PySem.W.kitCls
    simp only [e', Bool.false_eq_true, if_false, hc, ht, beq_self_eq_true, Bool.and_self, if_true]
    exact h
theorem kw_mkD {K : PySem.W.Frag} {x qual : Str} {st : Stmt} {f : Addr} {fd : FuncData} {ps ks : List Str} {m : Nat} {pi : List Nat} {dvs : List V} {kws : List (Str × V)} (F : FunD K x qual (defArgs st) (defBody st) (defScope st) dvs kws f fd) (hd : dvs ≠ [])
    (h : ∀ (T : Addr) (kV doc pm : Value) (an : Option Addr) (cdv ct : Value) (us its ws : List Value), us.length = m → its.length = dvs.length → ws.length = ks.length →
      ∃ k, bindArgs (PySem.W.fnOf x qual (defArgs st) (defBody st) (defScope st) (.ref T) kV doc pm an cdv ct) ⟨us, ks.zip ws⟩ = seqItems? (.ref T) >>= k ∧ k (some its.toArray) = pure (ps.zip (us ++ permL pi ws))) : KwB K fd ps ks m pi := by
  obtain ⟨oc, od, dV, kV, doc, pm, an, cdv, ct, osl, rfl, lk, hcd, hD, hK⟩ := F.ex
  rcases hD with ⟨e, _⟩ | ⟨_, T, o, its, m, rfl, lT, oT, rT⟩
  · exact absurd e hd
  · intro s us ws X l1 l2
    obtain ⟨k, e1, e2⟩ := h T kV doc pm an cdv ct us its ws l1 rT.length.symm l2
    refine BindsTo.of_looks fun M => ?_
    rw [e1]
    exact looks_items X lT oT (.of_pure e2)
def wDfl (f : Fn) (dfl : List D) : Fn := fun ds B => f (ds ++ dfl) B
theorem ini_dfl {g : Gs} {c : Nat} {f : Fn} {dfl : List D} {dvs : List V} (hd : ∀ w, Reps g w dfl dvs) : ∀ vs H Q E, spI g c (wDfl f dfl) vs H Q E → spI g c f (vs ++ dvs) H Q E := by
  rintro vs H Q E ⟨x, dx, ws, H1, w, ds, B, rfl, e, h1, h2, h3, rb, r, p⟩
  exact ⟨x, dx, ws ++ dvs, H1, w, ds ++ dfl, B, rfl, e, h1, h2, h3, rb, r.app (hd w), p⟩
theorem ini_dfl0 {g : Gs} {c : Nat} {f : Fn} {dvs : List V} (hd : ∀ w, Reps g w [] dvs) : ∀ vs H Q E, spI g c f vs H Q E → spI g c f (vs ++ dvs) H Q E := by
  rintro vs H Q E ⟨x, dx, ws, H1, w, ds, B, rfl, e, h1, h2, h3, rb, r, p⟩
  refine ⟨x, dx, ws ++ dvs, H1, w, ds, B, rfl, e, h1, h2, h3, rb, ?_, p⟩
  have z := r.app (hd w)
  rwa [List.append_nil] at z
theorem init_ok {g : Gs} {c k : Nat} {q qual : Str} {st : Stmt} {fa : Addr} {fd : FuncData} {N ps : List Str} {n : Nat} {b : Ms} (F : L2.Fun g.K q qual st fa fd) (S : FnScope N ps (defScope st)) (hn : ps.length = n + 1) (hN : n + 1 ≤ N.length) (hh : g.has c = true)
    (fx : Fx g) (hb : ∀ (E : XK) (w0 : Wd) (H0 : Hp) (X : Cx), OkC g E k X → PassesOwn (model X.prog X.w) X.A X.env X.xe → L2N.Takes X (fun cls d _ H => E cls d H) → X.N = N → X.env.scope = defScope st → X.fn = (fun _ => true) → SndB g E w0 H0 X (defBody st) b) :
    FnOk g.prog g.w g.K g.mg g.base (L2N.CX g.prog g.w) (k + 1) fa fd ps (spI g c (mkIni c n N.length b)) := by
  refine F.okN S (fun vs H Q E h => ?_) (fun cdv A outer s H vs Q E hr h => ?_)
  · obtain ⟨q, dx, ws, H1, w, ds, B, rfl, rfl, h1, h2, h3, rb, r, p⟩ := h
    unfold mkIni at p
    split at p
    · rename_i e; rw [List.length_cons, r.len, e, hn]
    · exact p.elim
  · obtain ⟨q, dx, ws, H1, w, ds, B, rfl, rfl, h1, h2, h3, rb, r, p⟩ := h
    unfold mkIni at p
    split at p
    · rename_i e
      refine ⟨_, hb E { w with me := some q } H1 _ ⟨⟨rfl, rfl, rfl, ?_, rfl, rfl, rfl, fx⟩, hr, ?_⟩ (passes_of rfl) (L2N.takes_of rfl rfl rfl rfl) rfl rfl rfl, ?_⟩
      · have := hr.un; show A.units + 3 + 100 < cLine; have h2 : A.units + 3 + 16 * k + 200 < cLine := this; omega
      · exact L2N.passes_call (L2N.takes_of rfl rfl rfl rfl) (fun _ _ _ _ h => h)
      · obtain ⟨s1, x1⟩ := start_ini (c := c) e hN hh rb r h1 h2 h3
        refine ⟨_, _, B, s1, x1, ?_⟩
        have z := fin_go h1 p
        refine PostS.le ?_ z
        exact ⟨Same.refl _, fun _ _ h => h⟩
    · exact p.elim
end Hf

set_option Elab.async false
set_option linter.all false
set_option maxRecDepth 100000
set_option maxHeartbeats 8000000
namespace Hf
open PySem PySem.Spec PyProof.Rows L2

/-! ### a box compared by what it holds -/
def deB (B : Bs) : D → D
  | .box n => match B[n]? with
    | some (.lst ds) => .lst ds
    | _ => .box n
  | d => d
def fNeB : D → D → Bs → Rs D := fun d e B => fNe (deB B d) (deB B e) B
section
variable {g : Gs} {E : XK} {H0 : Hp} {X : Cx}
theorem RepO.dpB {w : Wd} {H : Hp} {σI : Sl} {σ : L2.St} {B : Bs} {x : V} {d : D} (s : S0 g H0 w σI B σ H) (h : RepO g w σI σ d x) (c : (toPy (deB B d)).canLay0 = true) : Dp g.K H x (toPy (deB B d)) := by
  by_cases hd : ∃ n ds, d = .box n ∧ B[n]? = some (.lst ds)
  · obtain ⟨n, ds, rfl, hb⟩ := hd
    obtain ⟨a, rfl, ha⟩ := h.box s
    obtain ⟨a', o, h1, h2, ct⟩ := s.rb.get _ _ hb
    rw [ha] at h1; cases h1
    simp only [Cont] at ct
    obtain ⟨vs, rfl, r⟩ := ct
    have e : deB B (.box n) = .lst ds := by simp only [deB, hb]
    rw [e] at c ⊢
    simp only [toPy, PyData.canLay0] at c ⊢
    exact .lst (.inl (.inl h2)) (Reps.dp s.rb.sub _ vs r c)
  · have e : deB B d = d := by
      cases d <;> try rfl
      rename_i n
      simp only [deB]
      cases q : B[n]? with
      | none => rfl
      | some b =>
        cases b <;> try rfl
        exact absurd ⟨n, _, rfl, q⟩ hd
    rw [e] at c ⊢
    exact h.dp s c
theorem os_neB : OpSem g E H0 (rNeD g.K) fNeB := by
  intro w σI B σ H Q x y dx dy s rx ry p
  unfold fNeB fNe at p
  split at p
  · rename_i h
    obtain ⟨h1, h2⟩ := Bool.and_eq_true_iff.mp h
    exact ⟨_, _, rx.dpB s (SeqAt.canLay_of_shaped h1), ry.dpB s (SeqAt.canLay_of_shaped h2), h1, h2, p.nowR s (rep_bool g w _)⟩
  · exact p.elim
theorem c_neB (k : Ok g X) : Cmp g E H0 X .NotEq fNeB := ⟨⟨_, k.K ▸ op_neD (by have := k.un; omega), os_neB⟩, fun _ _ _ => blB _ _ _⟩
end
end Hf

set_option Elab.async false
set_option linter.all false
set_option maxRecDepth 100000
namespace Hf
open PySem PySem.Spec PyProof.Rows L2

/-! ### the meanings, run on plain data -/
@[simp] theorem z_mSkip (σ : Sl) (B : Bs) : mSkip σ B = .next σ B := (rfl)
@[simp] theorem z_mSeq (m1 m2 : Ms) (σ : Sl) (B : Bs) : mSeq m1 m2 σ B = (m1 σ B).seq m2 := (rfl)
@[simp] theorem z_mRet (m : Ev) (σ : Sl) (B : Bs) : mRet m σ B = (m σ B).st fun d B1 => .ret d B1 := (rfl)
@[simp] theorem z_mRetN (w0 : Sl) (B : Bs) : mRetN w0 B = .ret .none B := (rfl)
@[simp] theorem z_mDo (m : Ev) (σ : Sl) (B : Bs) : mDo m σ B = (m σ B).st fun _ B1 => .next σ B1 := (rfl)
@[simp] theorem z_mIf (t : Et) (m1 m2 : Ms) (σ : Sl) (B : Bs) : mIf t m1 m2 σ B = (t σ B).st fun k B1 => if k then m1 σ B1 else m2 σ B1 := (rfl)
@[simp] theorem z_mSet (i : Nat) (m : Ev) (σ : Sl) (B : Bs) : mSet i m σ B = (m σ B).st fun d B1 => .next (σ.set i (some (false, d))) B1 := (rfl)
@[simp] theorem z_mSetO (i : Nat) (m : Ev) (σ : Sl) (B : Bs) : mSetO i m σ B = (m σ B).st fun d B1 => .next (σ.set i (some (true, d))) B1 := (rfl)
@[simp] theorem z_mFrz (i : Nat) (m : Ms) (σ : Sl) (B : Bs) : mFrz i m σ B = match frz i σ with
  | some σ' => m σ' B
  | Option.none => .bad := (rfl)
@[simp] theorem z_mAsg (t : Tg) (m : Ev) (σ : Sl) (B : Bs) : mAsg t m σ B = (m σ B).st fun d B1 => match t d σ with
  | some σ' => .next σ' B1
  | Option.none => .bad := (rfl)
@[simp] theorem z_gN (i : Nat) (d : D) (σ : Sl) : gN i d σ = some (σ.set i (some (false, d))) := (rfl)
@[simp] theorem z_gT (t : Tgs) (d : D) (σ : Sl) : gT t d σ = match d with
  | .tup ds => t ds σ
  | .prs ds => t ds σ
  | _ => Option.none := (rfl)
@[simp] theorem z_gs0 (ds : List D) (σ : Sl) : gs0 ds σ = match ds with
  | [] => some σ
  | _ => Option.none := (rfl)
@[simp] theorem z_gsC (t : Tg) (u : Tgs) (ds : List D) (σ : Sl) : gsC t u ds σ = match ds with
  | d :: r => (t d σ).bind fun σ' => u r σ'
  | [] => Option.none := rfl
@[simp] theorem z_mVar (i : Nat) (σI : Sl) (B : Bs) : mVar i σI B = match σI[i]? with
  | some (some (false, d)) => .ok d B
  | _ => .bad := rfl
@[simp] theorem z_mBor (i : Nat) (σI : Sl) (B : Bs) : mBor i σI B = match σI[i]? with
  | some (some (_, d)) => .ok d B
  | _ => .bad := rfl
@[simp] theorem z_mC (d : D) (w0 : Sl) (B : Bs) : mC d w0 B = .ok d B := (rfl)
@[simp] theorem z_mBin (f : D → D → Bs → Rs D) (a b : Ev) (σI : Sl) (B : Bs) : mBin f a b σI B = (a σI B).bind fun x B1 => (b σI B1).bind fun y B2 => f x y B2 := (rfl)
@[simp] theorem z_mCmpT (f : D → D → Bs → Rs D) (ma mb : Ev) (σI : Sl) (B : Bs) : mCmpT f ma mb σI B = (ma σI B).bind fun x B1 => (mb σI B1).bind fun y B2 => toB (f x y B2) := (rfl)
@[simp] theorem z_mChain (f f' : D → D → Bs → Rs D) (ma mb mc : Ev) (σI : Sl) (B : Bs) : mChain f f' ma mb mc σI B = (ma σI B).bind fun x B1 => (mb σI B1).bind fun y B2 => (toB (f x y B2)).bind fun k B3 =>
  if k then (mc σI B3).bind fun z B4 => f' y z B4 else .ok (.bool false) B3 := rfl
@[simp] theorem z_mChainT (f f' : D → D → Bs → Rs D) (ma mb mc : Ev) (σI : Sl) (B : Bs) : mChainT f f' ma mb mc σI B = (ma σI B).bind fun x B1 => (mb σI B1).bind fun y B2 => (toB (f x y B2)).bind fun k B3 =>
  if k then (mc σI B3).bind fun z B4 => toB (f' y z B4) else .ok false B3 := rfl
@[simp] theorem z_mT (m : Ev) (σI : Sl) (B : Bs) : mT m σI B = (m σI B).bind fun d B1 => tru d B1 := (rfl)
@[simp] theorem z_mNotT (t : Et) (σI : Sl) (B : Bs) : mNotT t σI B = (t σI B).bind fun k B1 => .ok (!k) B1 := (rfl)
@[simp] theorem z_mAndT (t u : Et) (σI : Sl) (B : Bs) : mAndT t u σI B = (t σI B).bind fun k B1 => if k then u σI B1 else .ok false B1 := (rfl)
@[simp] theorem z_mOrT (t u : Et) (σI : Sl) (B : Bs) : mOrT t u σI B = (t σI B).bind fun k B1 => if k then .ok true B1 else u σI B1 := (rfl)
@[simp] theorem z_mAnd (ma mb : Ev) (σI : Sl) (B : Bs) : mAnd ma mb σI B = (ma σI B).bind fun d B1 => (tru d B1).bind fun k _ => if k then mb σI B1 else .ok d B1 := (rfl)
@[simp] theorem z_mOr (ma mb : Ev) (σI : Sl) (B : Bs) : mOr ma mb σI B = (ma σI B).bind fun d B1 => (tru d B1).bind fun k _ => if k then .ok d B1 else mb σI B1 := (rfl)
@[simp] theorem z_mNot (ma : Ev) (σI : Sl) (B : Bs) : mNot ma σI B = (ma σI B).bind fun d B1 => (tru d B1).bind fun k _ => .ok (.bool (!k)) B1 := (rfl)
@[simp] theorem z_mIte (t : Et) (ma mb : Ev) (σI : Sl) (B : Bs) : mIte t ma mb σI B = (t σI B).bind fun k B1 => if k then ma σI B1 else mb σI B1 := (rfl)
@[simp] theorem z_mNeg (ma : Ev) (σI : Sl) (B : Bs) : mNeg ma σI B = (ma σI B).bind fun d B1 => match d with
  | .int i => .ok (.int (-i)) B1
  | _ => .bad := rfl
@[simp] theorem z_mNil (w0 : Sl) (B : Bs) : mNil w0 B = .ok [] B := (rfl)
@[simp] theorem z_mCons (m : Ev) (ms : Evs) (σI : Sl) (B : Bs) : mCons m ms σI B = (m σI B).bind fun d B1 => (ms σI B1).bind fun ds B2 => .ok (d :: ds) B2 := (rfl)
@[simp] theorem z_mStar (m : Ev) (ms : Evs) (σI : Sl) (B : Bs) : mStar m ms σI B = (m σI B).bind fun d B1 => match seqOf d with
  | some ds => (ms σI B1).bind fun es B2 => .ok (ds ++ es) B2
  | Option.none => .bad := (rfl)
@[simp] theorem z_mTup (ms : Evs) (σI : Sl) (B : Bs) : mTup ms σI B = (ms σI B).bind fun ds B1 => if szL ds then .ok (.tup ds) B1 else .bad := (rfl)
@[simp] theorem z_mLst (ms : Evs) (σI : Sl) (B : Bs) : mLst ms σI B = (ms σI B).bind fun ds B1 => if szL ds then .ok (.lst ds) B1 else .bad := (rfl)
@[simp] theorem z_mSl00 (m : Ev) (σI : Sl) (B : Bs) : mSl00 m σI B = (m σI B).bind fun d B1 => fSl d none none B1 := (rfl)
@[simp] theorem z_mSl10 (m ml : Ev) (σI : Sl) (B : Bs) : mSl10 m ml σI B = (m σI B).bind fun d B1 => (ml σI B1).bind fun l B2 => (asI l B2).bind fun i B3 => fSl d (some i) none B3 := (rfl)
@[simp] theorem z_mSl01 (m mh : Ev) (σI : Sl) (B : Bs) : mSl01 m mh σI B = (m σI B).bind fun d B1 => (mh σI B1).bind fun l B2 => (asI l B2).bind fun i B3 => fSl d none (some i) B3 := (rfl)
@[simp] theorem z_mSl11 (m ml mh : Ev) (σI : Sl) (B : Bs) : mSl11 m ml mh σI B = (m σI B).bind fun d B1 => (ml σI B1).bind fun l B2 => (asI l B2).bind fun i B3 => (mh σI B3).bind fun h B4 => (asI h B4).bind fun j B5 => fSl d (some i) (some j) B5 := (rfl)
@[simp] theorem z_m1 (k : D → Bs → Rs D) (m : Ev) (σI : Sl) (B : Bs) : m1 k m σI B = (m σI B).bind k := (rfl)
@[simp] theorem z_mItems (m : Ev) (σ : Sl) (B : Bs) : mItems m σ B = (m σ B).bind fun d B1 => match itemsOf d with
  | some ds => .ok ds B1
  | Option.none => .bad := (rfl)
@[simp] theorem z_mRng1 (m : Ev) (σ : Sl) (B : Bs) : mRng1 m σ B = (m σ B).bind fun d B1 => (asI d B1).bind fun n B2 => if rngB n then .ok (rngD 0 n.toNat) B2 else .bad := (rfl)
@[simp] theorem z_mRng2 (ma mb : Ev) (σ : Sl) (B : Bs) : mRng2 ma mb σ B = (ma σ B).bind fun d B1 => (asI d B1).bind fun i B2 => (mb σ B2).bind fun e B3 => (asI e B3).bind fun j B4 => if rngB i && rngB j then .ok (rngD i (j - i).toNat) B4 else .bad := (rfl)
@[simp] theorem z_mYes (w0 : Sl) (B : Bs) : mYes w0 B = .ok true B := (rfl)
@[simp] theorem z_mCall (f : Fn) (dfl : List D) (ms : Evs) (σ : Sl) (B : Bs) : mCall f dfl ms σ B = (ms σ B).bind fun ds B1 => f (ds ++ dfl) B1 := (rfl)
@[simp] theorem z_mBad (w0 : Sl) (w1 : Bs) : mBad w0 w1 = .bad := (rfl)
@[simp] theorem z_mFld (c j : Nat) (m : Ev) (σ : Sl) (B : Bs) : mFld c j m σ B = (m σ B).bind fun d B1 => match d with
  | .inst c' ds => if c' = c then okIf ds[j]? B1 else .bad
  | _ => .bad := rfl
@[simp] theorem z_mPrp (c : Nat) (f : Fn) (m : Ev) (σ : Sl) (B : Bs) : mPrp c f m σ B = (m σ B).bind (prpK c f) := (rfl)
@[simp] theorem z_mMakeS (f : Fn) (m : Ev) (σ : Sl) (B : Bs) : mMakeS f m σ B = (m σ B).bind fun d B1 => match d with
  | .tup ds => f ds B1
  | .lst ds => f ds B1
  | _ => .bad := rfl
@[simp] theorem z_mMakeV (i c : Nat) (f : Fn) (m : Ev) (σ : Sl) (B : Bs) : mMakeV i c f m σ B = match σ[i]? with
  | some (some (false, .cls c')) => if c' = c then mMakeS f m σ B else .bad
  | _ => .bad := rfl
@[simp] theorem z_mMake (f : Fn) (ms : Evs) (σ : Sl) (B : Bs) : mMake f ms σ B = (ms σ B).bind fun ds B1 => f ds B1 := (rfl)
@[simp] theorem z_mCMth (c : Nat) (f : Fn) (ms : Evs) (σ : Sl) (B : Bs) : mCMth c f ms σ B = (ms σ B).bind fun ds B1 => f (.cls c :: ds) B1 := (rfl)
@[simp] theorem z_bind_ok {α β : Type} (a : α) (B : Bs) (f : α → Bs → Rs β) : (Rs.ok a B).bind f = f a B := (rfl)
@[simp] theorem z_st_ok {α : Type} (a : α) (B : Bs) (f : α → Bs → Ss) : (Rs.ok a B).st f = f a B := (rfl)
@[simp] theorem z_seq_next (σ : Sl) (B : Bs) (k : Ms) : (Ss.next σ B).seq k = k σ B := (rfl)
@[simp] theorem z_seq_ret (d : D) (B : Bs) (k : Ms) : (Ss.ret d B).seq k = .ret d B := (rfl)
@[simp] theorem z_fin_next (σ : Sl) (B : Bs) : (Ss.next σ B).fin = .ok .none B := (rfl)
@[simp] theorem z_fin_ret (d : D) (B : Bs) : (Ss.ret d B).fin = .ok d B := (rfl)
@[simp] theorem z_toB (b : Bool) (B : Bs) : toB (.ok (.bool b) B) = .ok b B := (rfl)
@[simp] theorem z_tru_b (b : Bool) (B : Bs) : tru (.bool b) B = .ok b B := (rfl)
@[simp] theorem z_tru_i (i : Int) (B : Bs) : tru (.int i) B = .ok (i != 0) B := (rfl)
@[simp] theorem z_seq_t (ds : List D) : seqOf (.tup ds) = some ds := (rfl)
@[simp] theorem z_seq_l (ds : List D) : seqOf (.lst ds) = some ds := (rfl)
@[simp] theorem z_okIf (d : D) (B : Bs) : okIf (some d) B = .ok d B := (rfl)
@[simp] theorem z_asI (i : Int) (B : Bs) : asI (.int i) B = .ok i B := (rfl)
@[simp] theorem z_it_t (ds : List D) : itemsOf (.tup ds) = some ds := (rfl)
@[simp] theorem z_it_l (ds : List D) : itemsOf (.lst ds) = some ds := (rfl)
@[simp] theorem z_it_s (ds : List D) : itemsOf (.scr ds) = some ds := (rfl)
@[simp] theorem z_mkFn (n k : Nat) (b : Ms) (ds : List D) (B : Bs) : mkFn n k b ds B = if ds.length = n then (b (ds.map (fun d => some (false, d)) ++ List.replicate (k - n) Option.none) B).fin else .bad := (rfl)
@[simp] theorem z_prpK (c : Nat) (f : Fn) (ds : List D) (B : Bs) : prpK c f (.inst c ds) B = noX (f [.inst c ds] B) := by simp [prpK]
@[simp] theorem z_noX {α : Type} (a : α) (B : Bs) : noX (.ok a B) = .ok a B := (rfl)
@[simp] theorem z_isIi (i : Int) : isB .int (.int i) = some true := (rfl)
@[simp] theorem z_isBi (i : Int) : isB .bool (.int i) = some false := (rfl)
@[simp] theorem z_isTt (ds : List D) : isB .tuple (.tup ds) = some true := (rfl)
@[simp] theorem z_isSs (x : Str) : isB .str (.str x) = some true := (rfl)
@[simp] theorem z_isC (c : Nat) (ds : List D) : isC c (.inst c ds) = some true := by simp [isC, subC]
@[simp] theorem z_mIsB (T : Bt) (m : Ev) (σ : Sl) (B : Bs) : mIsB T m σ B = (m σ B).bind fun d B => match isB T d with
  | some r => .ok (.bool r) B
  | Option.none => .bad := (rfl)
@[simp] theorem z_mIsC (c : Nat) (m : Ev) (σ : Sl) (B : Bs) : mIsC c m σ B = (m σ B).bind fun d B => match isC c d with
  | some r => .ok (.bool r) B
  | Option.none => .bad := (rfl)
@[simp] theorem z_frz (i : Nat) (σ : Sl) : frz i σ = match σ[i]? with
  | some (some (true, .inst _ _)) => Option.none
  | some (some (_, d)) => some (σ.set i (some (false, d)))
  | _ => Option.none := (rfl)
@[simp] theorem z_fSub (i j : Int) (B : Bs) : fSub (.int i) (.int j) B = .ok (.int (i - j)) B := (rfl)
@[simp] theorem z_fAddI (i j : Int) (B : Bs) : fAdd (.int i) (.int j) B = .ok (.int (i + j)) B := (rfl)
theorem z_fMod (i j : Int) (B : Bs) (h : 0 < j) : fMod (.int i) (.int j) B = .ok (.int (i % j)) B := by simp [fMod, fI2, h]
theorem z_fDiv (i j : Int) (B : Bs) (h : 0 < j) (h2 : j < 1073741824) : fDiv (.int i) (.int j) B = .ok (.int (i / j)) B := by simp [fDiv, fI2, h, h2]
theorem z_fMulI (i j : Int) (B : Bs) (h : (wideB i || wideB j) = true) : fMul (.int i) (.int j) B = .ok (.int (i * j)) B := by simp [fMul, h]
theorem wide_of {i : Int} (h : -(2 ^ 64) < i) (h2 : i < 2 ^ 64) : wideB i = true := by simp [wideB]; omega
@[simp] theorem z_fLt (i j : Int) (B : Bs) : fLt (.int i) (.int j) B = .ok (.bool (decide (i < j))) B := (rfl)
@[simp] theorem z_fLe (i j : Int) (B : Bs) : fLe (.int i) (.int j) B = .ok (.bool (decide (i ≤ j))) B := (rfl)
@[simp] theorem z_fGt (i j : Int) (B : Bs) : fGt (.int i) (.int j) B = .ok (.bool (decide (j < i))) B := (rfl)
@[simp] theorem z_fGe (i j : Int) (B : Bs) : fGe (.int i) (.int j) B = .ok (.bool (decide (j ≤ i))) B := (rfl)
@[simp] theorem z_fMax2 (i j : Int) (B : Bs) : fMax2 (.int i) (.int j) B = .ok (.int (if j > i then j else i)) B := (rfl)
@[simp] theorem z_fMin2 (i j : Int) (B : Bs) : fMin2 (.int i) (.int j) B = .ok (.int (if j < i then j else i)) B := (rfl)
@[simp] theorem z_lenT (ds : List D) (B : Bs) : fLen (.tup ds) B = .ok (.int ds.length) B := (rfl)
@[simp] theorem z_lenL (ds : List D) (B : Bs) : fLen (.lst ds) B = .ok (.int ds.length) B := (rfl)
@[simp] theorem z_lenS (ds : List D) (B : Bs) : fLen (.scr ds) B = .ok (.int ds.length) B := (rfl)
@[simp] theorem z_tupL (ds : List D) (B : Bs) : fTupO (.lst ds) B = .ok (.tup ds) B := (rfl)
@[simp] theorem z_tupT (ds : List D) (B : Bs) : fTupO (.tup ds) B = .ok (.tup ds) B := (rfl)


theorem lcL_map {α : Type} {t : Tg} {mt : Et} {me : Ev} {σ : Sl} {B : Bs} (F G : α → D) : (xs : List α) → (h : ∀ x ∈ xs, ∃ σ', t (F x) σ = some σ' ∧ mt σ' B = .ok true B ∧ me σ' B = .ok (G x) B) →
    lcL t mt me σ (xs.map F) B = .ok (xs.map G) B
  | [], _ => rfl
  | x :: xs, h => by
    obtain ⟨σ', h1, h2, h3⟩ := h x (List.mem_cons_self ..)
    have ih := lcL_map (t := t) (mt := mt) (me := me) (σ := σ) (B := B) F G xs fun y hy => h y (List.mem_cons_of_mem _ hy)
    simp [lcL, h1, h2, h3, ih]
theorem mLc_map {α : Type} {vs : List Nat} {i : Nat} {mi : Ei} {me : Ev} {σ : Sl} {B : Bs} {ds : List D} (F G : α → D) (xs : List α) (hi : mi σ B = .ok ds B) (hd : ds = xs.map F) (hl : xs.length ≤ sizeLine)
    (h : ∀ x ∈ xs, me ((wipeI σ vs).set i (some (false, F x))) B = .ok (G x) B) : mLc vs (gN i) mi mYes me σ B = .ok (.lst (xs.map G)) B := by
  subst hd
  have := lcL_map (t := gN i) (mt := mYes) (me := me) (σ := wipeI σ vs) (B := B) F G xs fun x hx => ⟨_, rfl, rfl, h x hx⟩
  simp [mLc, hi, this, szL, hl]
/-- a comprehension that changes boxes: what is known of each value and of the boxes is kept -/
theorem lcL_inv {t : Tg} {me : Ev} {σ : Sl} {N : Nat} (I : Bs → List D → Prop) : (ds : List D) → (B : Bs) → (acc : List D) → acc.length + ds.length = N → (h : ∀ d ∈ ds, ∀ B acc, acc.length < N → I B acc → ∃ σ', t d σ = some σ' ∧ ∃ e B', me σ' B = .ok e B' ∧ I B' (acc ++ [e])) → I B acc →
    ∃ es B', lcL t mYes me σ ds B = .ok es B' ∧ I B' (acc ++ es) ∧ es.length = ds.length
  | [], B, acc, _, _, hI => ⟨[], B, rfl, by simpa using hI, rfl⟩
  | d :: ds, B, acc, hN, h, hI => by
    obtain ⟨σ', h1, e, B1, h2, h3⟩ := h d (List.mem_cons_self ..) B acc (by simp at hN; omega) hI
    obtain ⟨es, B2, h4, h5, h6⟩ := lcL_inv (t := t) (me := me) (σ := σ) (N := N) I ds B1 (acc ++ [e]) (by simp at hN ⊢; omega) (fun d hd => h d (List.mem_cons_of_mem _ hd)) h3
    exact ⟨e :: es, B2, by simp [lcL, h1, h2, h4], by simpa using h5, by simp [h6]⟩
theorem mLc_inv {vs : List Nat} {i : Nat} {mi : Ei} {me : Ev} {σ : Sl} {B : Bs} {ds : List D} (I : Bs → List D → Prop) (hi : mi σ B = .ok ds B) (hl : ds.length ≤ sizeLine) (h0 : I B [])
    (h : ∀ d ∈ ds, ∀ B acc, acc.length < ds.length → I B acc → ∃ e B', me ((wipeI σ vs).set i (some (false, d))) B = .ok e B' ∧ I B' (acc ++ [e])) : ∃ es B', mLc vs (gN i) mi mYes me σ B = .ok (.lst es) B' ∧ I B' es ∧ es.length = ds.length := by
  obtain ⟨es, B', h1, h2, h3⟩ := lcL_inv (t := gN i) (me := me) (σ := wipeI σ vs) (N := ds.length) I ds B [] (by simp) (fun d hd B acc hn hI => ⟨_, rfl, h d hd B acc hn hI⟩) h0
  exact ⟨es, B', by simp [mLc, hi, h1, szL, h3, hl], by simpa using h2, h3⟩
theorem forL_inv {t : Tg} {b : Ms} (I : Nat → Sl → Bs → Prop) : (ds : List D) → (n : Nat) → (σ : Sl) → (B : Bs) → (h : ∀ i d σ B, ds[i]? = some d → I (n + i) σ B → ∃ σ', t d σ = some σ' ∧ ∃ σ'' B'', b σ' B = .next σ'' B'' ∧ I (n + i + 1) σ'' B'') → I n σ B →
    ∃ σ' B', forL t b ds σ B = .next σ' B' ∧ I (n + ds.length) σ' B'
  | [], n, σ, B, _, hI => ⟨σ, B, rfl, hI⟩
  | d :: ds, n, σ, B, h, hI => by
    obtain ⟨σ', h1, σ2, B2, h2, h3⟩ := h 0 d σ B rfl hI
    obtain ⟨σ3, B3, h4, h5⟩ := forL_inv (t := t) (b := b) I ds (n + 1) σ2 B2 (fun i d σ B hd hI => by
      have e : n + 1 + i = n + (i + 1) := by omega
      rw [e] at hI ⊢
      exact h (i + 1) d σ B (by simpa using hd) hI) h3
    refine ⟨σ3, B3, by simp [forL, h1, h2, h4], ?_⟩
    have e : n + 1 + ds.length = n + (d :: ds).length := by simp; omega
    rwa [e] at h5
theorem rngD_get {a : Int} {n i : Nat} {d : D} (h : (rngD a n)[i]? = some d) : d = .int (a + (i : Nat)) ∧ i < n := by
  simp only [rngD, List.getElem?_map, Option.map_eq_some_iff] at h
  obtain ⟨j, h1, h2⟩ := h
  obtain ⟨h3, h4⟩ := List.getElem?_eq_some_iff.mp h1
  simp at h3 h4; subst h4; exact ⟨h2.symm, h3⟩
theorem rngD_mem {a : Int} {n : Nat} {d : D} (h : d ∈ rngD a n) : ∃ i : Nat, d = .int (a + (i : Nat)) ∧ i < n := by
  obtain ⟨i, h1⟩ := List.getElem?_of_mem h
  exact ⟨i, rngD_get h1⟩
theorem size_big : (1000000 : Nat) ≤ sizeLine := by decide
end Hf

set_option Elab.async false
set_option linter.all false
set_option maxRecDepth 100000
set_option maxHeartbeats 4000000
namespace Hf
open PySem PySem.Spec PyProof.Rows L2

/-! ### own exceptions without fields: raise -/
structure ExcK (g : Gs) (c : Nat) : Prop where
  keep : PySem.W.keepIn g.K (.ref (g.cl c)) = true
  exc : PySem.W.excIn g.K (g.cl c) [.type "ValueError", .type "Exception", .type "BaseException", .type "object"] "ValueError.__new__" = true
  sub : PySem.W.subIn g.K (.ref (g.cl c)) (.type "BaseException") = some true
  ty : PySem.W.typeIn g.K (.ref (g.cl c)) = some (.type "type")
def mRaise (c : Nat) : Ms := fun _ B => .exc c Option.none B
section
variable {g : Gs} {E : XK} {w0 w : Wd} {H0 H : Hp} {X : Cx} {e o a b : Expr} {es : List Expr} {m ma mb mo : Ev} {pos p p1 p2 pos2 apos cpos : Pos} {x : Str} {lv c : Nat} {b1 b2 : Bool}
theorem z_raise {n : Nat} {t : Str} {j : Nat} (k : OkC g E lv X) (tk : L2N.Takes X (fun cls d _ H => E cls d H)) (K : ExcK g n) (hm : g.mg x = some (.ref (g.cl n))) (hg : Gl X x := by rfl) (hdb : (x == ("__debug__" : Str)) = false := by decide) :
    SndS g E w0 H0 X (.Raise (some (.Call (.Name x p) [.Constant (.str t) j p2] [] pos)) none pos2) (mRaise n) := by
  refine weakS (L2N.ps_raise k.calm tk (L2N.pmk_own PySem.F.excBase_ValueError (by rw [k.K]; exact K.exc) (by rw [k.mg]; exact hm) (by rw [k.K]; exact K.keep) (raises_own (by rw [k.K]; exact K.sub) (by rw [k.K]; exact K.ty)) hg hdb)) ?_
  rintro D σ H ⟨w, σI, B, s, x0, p⟩
  exact p w _ _ H s.rb x0 ⟨rfl, rfl⟩
end
/-! ### what is told of the exceptions' classes -/
def excL : List Nat := [11, 12, 13, 14, 15, 16, 17, 18, 19, 20, 21, 22, 23, 24, 25, 26, 27, 28]
structure FxE (g : Gs) (R : List Nat) : Prop where
  le : ∀ c ∈ R, c ∈ ([11, 12, 13, 14, 15, 16, 17, 18, 19, 20, 21, 22, 23, 24, 25, 26] : List Nat)
  is : ∀ c ∈ R, L2.ExcC g.K (g.cl c)
  sub : ∀ c ∈ R, ∀ d ∈ excL, PySem.W.kitOne g.K (.ref (g.cl c)) (.ref (g.cl d)) = some (c == d)
  ve : ∀ c ∈ R, PySem.W.kitOne g.K (.ref (g.cl c)) (.type "ValueError") = some true
  rd : ∀ c ∈ R, PySem.W.exmOne g.K (.ref (g.cl c)) (.ref (g.cl 10)) = some true
  nv : g.mg "ValueError" = Option.none
/-! ### where an exception is handled -/
structure OkB (g : Gs) (X : Cx) : Prop where
  K : X.K = g.K
  mg : X.mg = g.mg
  un : X.A.units + 100 < cLine
  prog : X.prog = g.prog
  w : X.w = g.w
  base : X.base = g.base
  fx : Fx g
theorem Ok.toB {g : Gs} {X : Cx} (k : Ok g X) : OkB g X := ⟨k.K, k.mg, k.un, k.prog, k.w, k.base, k.fx⟩
/-- the exception at a, of class c, is pinned -/
structure OkW (g : Gs) (R : List Nat) (X : Cx) (c : Nat) (a : Addr) : Prop extends OkB g X where
  fe : FxE g R
  mem : c ∈ R
  pin : ∃ oe, (a, oe) ∈ X.pn ∧ Zc (.ref (g.cl c)) Option.none oe ∧ ∃ vs, oe.data = .fields vs
theorem nbH {g : Gs} {X : Cx} (ok : OkB g X) {x : String} (h : x ∈ ["len", "range", "isinstance", "tuple", "list", "all", "any", "max", "min", "set", "sorted", "enumerate", "zip", "repr", "str", "int", "sum", "dict", "bool"] := by decide) : X.mg (Str.ofString x) = Option.none := by
  rw [ok.mg]
  exact ok.fx.nb x h
theorem call_isH {X : Cx} {a D : Addr} {oe : Obj} (C : ExcC X.K D) (hp : (a, oe) ∈ X.pn) (hz : Zc (.ref D) Option.none oe) (hf : ∃ vs, oe.data = .fields vs) : CallR X (.builtin "isinstance") (rIsE X.K D a) := by
  intro pins s σ H xs us Q I r h
  obtain ⟨c, cv, b, rfl, hcv, e, q⟩ := h
  obtain ⟨u1, u2, rfl, r1, r2⟩ := vals2 r
  have ec := hcv _ r2
  subst ec
  obtain rfl : u1 = Value.ref a := r1
  obtain ⟨hget, _⟩ := I.pin (a, oe) (List.mem_append.mpr (.inl hp))
  obtain ⟨vs, hv⟩ := hf
  have J : PySem.W.InstAt s.heap a oe D Option.none := by
    obtain ⟨oc, od, oda, osl⟩ := oe
    obtain ⟨h1, h2⟩ := hz
    dsimp only at h1 h2 hv
    subst h1 h2 hv
    exact ⟨hget, rfl, rfl, trivial⟩
  exact PySem.W.kia_one (PySem.W.handS_kitx_exc C.hg C.hk C.hs C.hd C.ha C.hn C.ht C.hm) I.kIn J e (fun z => nomatch z) fun tk => ⟨.bl b, H, I.tok tk, rfl, q⟩
/-! ### l.count(x) -/
def rCountD (K : PySem.W.Frag) : V → List V → Hp → VK → Prop := fun x xs H Q => ∃ (a : Addr) (y : V) (d : PyData) (ds : List PyData), x = V.ref a ∧ xs = [y] ∧ Dp K H (V.ref a) (.list ds) ∧ Dp K H y d ∧
  SeqAt.shaped (.list ds) = true ∧ SeqAt.shaped d = true ∧ Q (.int (ds.countP (fun z => PyData.eqv z d) : Nat)) H
theorem mt_countD {X : Cx} (hu : X.A.units + 65 < cLine) : MtR X "list.count" (rCountD X.K) := by
  intro pins s σ H x xs v us Q I rx rxs h
  obtain ⟨a, y, d, ds, rfl, rfl, hl, hy, sl, sd, q⟩ := h
  cases rx
  obtain ⟨uy, rfl, ry⟩ := vals1 rxs
  obtain ⟨bs, r1⟩ := Dp.reads I d y uy hy ry
  have hxs : PyData.canLayAll0 ds = true := SeqAt.canLay_of_shaped sl
  have hroom : X.A.units + 1 + min (PyData.depthAll ds) d.depth < cLine := room_in_shaped sd hu
  cases hl with
  | lst hs ha =>
    obtain ⟨its, rv, ⟨⟨cls, dd, data, sls⟩, n, ho, hc, hdn, hdt⟩, hlen⟩ := I.list hs
    simp only at hc hdt
    subst hc hdt
    obtain ⟨as, h4⟩ := Dp.readsAll I ds _ its ha rv
    have hmap : its.map (SeqAt.readOf s.heap) = ds := SeqAt.readsAll_map ds its as hxs h4
    refine call_meets PySem.F.slot_list_count ⟨_, ho, rfl⟩ PySem.F.entry_list_count (PySem.F.args_list_count_2 _ _)
      (SeqAt.list_countAt a its.toArray n dd sls uy (fun u => PyData.eqv (SeqAt.readOf s.heap u) d)) ⟨ho, SeqAt.items_eqAt (vs := its.toArray) (show ReadsAll s.heap its.toArray.toList ds as from h4) r1 hxs (SeqAt.canLay_of_shaped sd) hroom, ?_⟩
    have ec : its.toArray.toList.countP (fun u => PyData.eqv (SeqAt.readOf s.heap u) d) = ds.countP (fun z => PyData.eqv z d) := by
      rw [← hmap, List.countP_map]
      rfl
    refine ⟨.int (ds.countP (fun z => PyData.eqv z d) : Nat), H, I.tok _, ⟨s.toks, ?_⟩, q⟩
    rw [ec]
def fCnt : D → D → Bs → Rs D
  | .lst ds, d, B => if SeqAt.shaped (.list (toPys ds)) && SeqAt.shaped (toPy d) then .ok (.int ((toPys ds).countP (fun z => PyData.eqv z (toPy d)) : Nat)) B else .bad
  | _, _, _ => .bad
def mCntL (mo me : Ev) : Ev := fun σ B => (mo σ B).bind fun o B1 => (isLi o B1).bind fun o B2 => (me σ B2).bind fun d B3 => fCnt o d B3
def mIsE (a : Addr) (b : Bool) (m : Ev) : Ev := fun σ B => (m σ B).bind fun d B1 => match d with
  | .ptr a' => if a' = a then .ok (.bool b) B1 else .bad
  | _ => .bad
section
variable {g : Gs} {R : List Nat} {E : XK} {w0 w : Wd} {H0 H : Hp} {X : Cx} {e o a b : Expr} {es : List Expr} {m ma mb mo : Ev} {pos p p1 p2 pos2 apos cpos : Pos} {x : Str} {lv c d : Nat} {ea : Addr} {b1 b2 : Bool}
theorem s_addH (c : OkB g X) (ha : Snd g E H0 X b1 a ma) (hb : Snd g E H0 X b2 b mb) : Snd g E H0 X false (.BinOp a .Add b pos) (mBin fAdd ma mb) := s_bin (c.K ▸ op_addA) os_add ha hb
theorem c_neH (k : OkB g X) : Cmp g E H0 X .NotEq fNe := ⟨⟨_, k.K ▸ op_neD (by have := k.un; omega), os_ne⟩, fun _ _ _ => blB _ _ _⟩
theorem s_ixH (k : OkB g X) (ha : Snd g E H0 X b1 a ma) (hb : Snd g E H0 X b2 b mb) (hs : PlainIx b := by exact fun _ _ => rfl) : Snd g E H0 X false (.Subscript a b pos) (mBin fIx ma mb) := weak (pe_ix (k.K ▸ ix_seq) ha hb hs) (tOp_of os_ix)
theorem t_valH (k : OkB g X) (ha : Snd g E H0 X b1 a ma) (he : ∀ whole, isTrue a X.env whole = (do let v ← whole; standAt a.pos; holding [v] (truthy v)) := by intro _; rfl) : SndT g E H0 X a (mT ma) := by
  refine weakT (pt_truth ha he) ?_
  rintro σ H Q ⟨w, σI, B, s, p⟩
  refine tI_bindT s p fun d B1 w1 v H1 x1 s1 r1 p1 => ?_
  unfold tru at p1
  split at p1
  · rename_i k' e
    exact ⟨k', k.K ▸ r1.up.tru s1 e, p1 w1 H1 (Ext.refl _ _) s1.rb⟩
  · exact p1.elim
theorem s_isE (ok : OkW g R X c ea) (hd : d ∈ excL) (hm : g.mg x = some (.ref (g.cl d))) (he : Snd g E H0 X b1 e m) (hg : Gl X "isinstance" := by rfl) (hg2 : Gl X x := by rfl) (hdb : (x == ("__debug__" : Str)) = false := by decide)
    (h1 : starEach [e, .Name x p2] X.env = (false, eval e X.env) :: starEach [.Name x p2] X.env := by rfl) (h2 : starEach [.Name x p2] X.env = (false, eval (.Name x p2) X.env) :: starEach [] X.env := by rfl) (hpl : (backTo pos (starEach [.Name x p2] X.env)).any (·.1) = false := by rfl) :
    Snd g E H0 X false (.Call (.Name "isinstance" p1) [e, .Name x p2] [] pos) (mIsE ea (c == d) m) := by
  obtain ⟨oe, hp, hz, hf⟩ := ok.pin
  refine weak (pe_callB (call_isH (D := g.cl c) (by rw [ok.K]; exact ok.fe.is c ok.mem) hp hz hf) hg (nbH ok.toOkB) PyProof.Rows.boot_isinstance (pa_cons he (pa_cons (pe_glob (v := .ref (g.cl d)) hg2 (by rw [ok.mg]; exact hm) rfl hdb) pa_nil h2) h1) (by decide) (by decide) h1 hpl) ?_
  rintro σ H Q ⟨w, σI, B, s, p⟩
  refine tI_bind s p fun dd B1 w1 v H1 x1 s1 r1 p1 => ?_
  split at p1
  · rename_i a'
    split at p1
    · rename_i e
      subst e
      have rr := r1.up.of s1 (by simp) (by simp) (by simp)
      simp only [Rep] at rr
      subst rr
      exact ⟨_, .ref (g.cl d), _, rfl, fun u z => z, by rw [ok.K]; exact ok.fe.sub c ok.mem d hd, p1.nowR s1 (rep_bool g w1 _)⟩
    · exact p1.elim
  · exact p1.elim
theorem s_isVE (ok : OkW g R X c ea) (he : Snd g E H0 X b1 e m) (hg : Gl X "isinstance" := by rfl) (hg2 : Gl X "ValueError" := by rfl)
    (h1 : starEach [e, .Name "ValueError" p2] X.env = (false, eval e X.env) :: starEach [.Name "ValueError" p2] X.env := by rfl) (h2 : starEach [.Name "ValueError" p2] X.env = (false, eval (.Name "ValueError" p2) X.env) :: starEach [] X.env := by rfl) (hpl : (backTo pos (starEach [.Name "ValueError" p2] X.env)).any (·.1) = false := by rfl) :
    Snd g E H0 X false (.Call (.Name "isinstance" p1) [e, .Name "ValueError" p2] [] pos) (mIsE ea true m) := by
  obtain ⟨oe, hp, hz, hf⟩ := ok.pin
  refine weak (pe_callB (call_isH (D := g.cl c) (by rw [ok.K]; exact ok.fe.is c ok.mem) hp hz hf) hg (nbH ok.toOkB) PyProof.Rows.boot_isinstance (pa_cons he (pa_cons (pe_bltn (v := .ty "ValueError") hg2 (by rw [ok.mg]; exact ok.fe.nv) (by decide +kernel) rfl (by decide) (by decide)) pa_nil h2) h1) (by decide) (by decide) h1 hpl) ?_
  rintro σ H Q ⟨w, σI, B, s, p⟩
  refine tI_bind s p fun dd B1 w1 v H1 x1 s1 r1 p1 => ?_
  split at p1
  · rename_i a'
    split at p1
    · rename_i e
      subst e
      have rr := r1.up.of s1 (by simp) (by simp) (by simp)
      simp only [Rep] at rr
      subst rr
      exact ⟨_, .type "ValueError", _, rfl, fun u z => z, by rw [ok.K]; exact ok.fe.ve c ok.mem, p1.nowR s1 (rep_bool g w1 _)⟩
    · exact p1.elim
  · exact p1.elim
theorem s_cntH (ok : OkB g X) (ho : Snd g E H0 X b1 o mo) (he : Snd g E H0 X false e m)
    (hbase : attributeBase o "count" X.env (eval o X.env) = eval o X.env := by rfl)
    (hfew : ((backTo cpos (starEach [e] X.env)).all (fun x => !x.1) && (backToKw cpos (keywordEach [] X.env)).all (fun x => x.1.isSome) && decide ([e].length + ([] : List Keyword).length + (if ([] : List Keyword).isEmpty then 0 else 1) < 30)) = true := by rfl)
    (hline : (apos.endLine == cpos.line) = true := by rfl) (hs : starEach [e] X.env = (false, eval e X.env) :: starEach [] X.env := by rfl) (hpl : (backTo cpos (starEach [] X.env)).any (·.1) = false := by rfl) :
    Snd g E H0 X false (.Call (.Attribute o "count" apos) [e] [] cpos) (mCntL mo m) := by
  refine weak (pe_bm PySem.F.plainAttrs_list PySem.F.slot_list_count PySem.F.type_list_count (mt_countD (by have := ok.un; omega)) ho (pa_cons he pa_nil hs) hbase hfew hline hs hpl) ?_
  rintro σ H Q ⟨w, σI, B, s, p⟩
  refine tI_bind s p fun d B1 w1 v H1 x1 s1 r1 p1 => ?_
  cases d <;> first | exact p1.elim | skip
  rename_i ds
  obtain ⟨a0, vs0, e0, q0, rr0⟩ := r1.up.lst s1
  subst e0
  refine ⟨tyL q0, ?_⟩
  refine tI_bind s1 p1 fun d2 B2 w2 v2 H2 x2 s2 r2 p2 => ?_
  unfold fCnt at p2
  simp only at p2
  split at p2
  · rename_i hsh
    obtain ⟨sh1, sh2⟩ := Bool.and_eq_true_iff.mp hsh
    have rt : RepO g w2 σI σ (.lst ds) (.ref a0) := r1.up.mono x2.le
    have dp := rt.dp s2 (SeqAt.canLay_of_shaped sh1)
    exact ⟨a0, v2, toPy d2, toPys ds, rfl, rfl, ok.K ▸ dp, ok.K ▸ r2.up.dp s2 (SeqAt.canLay_of_shaped sh2), sh1, sh2, p2.nowR s2 (rep_int g w2 _)⟩
  · exact p2.elim
theorem s_idxH (ok : OkB g X) (ho : Snd g E H0 X b1 o mo) (he : Snd g E H0 X false e m)
    (hbase : attributeBase o "index" X.env (eval o X.env) = eval o X.env := by rfl)
    (hfew : ((backTo cpos (starEach [e] X.env)).all (fun x => !x.1) && (backToKw cpos (keywordEach [] X.env)).all (fun x => x.1.isSome) && decide ([e].length + ([] : List Keyword).length + (if ([] : List Keyword).isEmpty then 0 else 1) < 30)) = true := by rfl)
    (hline : (apos.endLine == cpos.line) = true := by rfl) (hs : starEach [e] X.env = (false, eval e X.env) :: starEach [] X.env := by rfl) (hpl : (backTo cpos (starEach [] X.env)).any (·.1) = false := by rfl) :
    Snd g E H0 X false (.Call (.Attribute o "index" apos) [e] [] cpos) (mIdxL mo m) := by
  refine weak (pe_bm PySem.F.plainAttrs_list PySem.F.slot_list_index PySem.F.type_list_index (mt_indexD (by have := ok.un; omega)) ho (pa_cons he pa_nil hs) hbase hfew hline hs hpl) ?_
  rintro σ H Q ⟨w, σI, B, s, p⟩
  refine tI_bind s p fun d B1 w1 v H1 x1 s1 r1 p1 => ?_
  cases d <;> first | exact p1.elim | skip
  rename_i ds
  obtain ⟨a0, vs0, e0, q0, rr0⟩ := r1.up.lst s1
  subst e0
  refine ⟨tyL q0, ?_⟩
  refine tI_bind s1 p1 fun d2 B2 w2 v2 H2 x2 s2 r2 p2 => ?_
  unfold fIdx at p2
  simp only at p2
  split at p2
  · rename_i hsh
    obtain ⟨sh1, sh2⟩ := Bool.and_eq_true_iff.mp hsh
    split at p2
    · rename_i j hj
      obtain ⟨z, z1, z2, z3⟩ := ixD_some hj
      have rt : RepO g w2 σI σ (.lst ds) (.ref a0) := r1.up.mono x2.le
      have dp := rt.dp s2 (SeqAt.canLay_of_shaped sh1)
      exact ⟨a0, v2, toPy d2, toPys ds, j, z, rfl, rfl, ok.K ▸ dp, ok.K ▸ r2.up.dp s2 (SeqAt.canLay_of_shaped sh2), sh1, sh2, z1, z2, z3, p2.nowR s2 (rep_int g w2 _)⟩
    · exact p2.elim
  · exact p2.elim
end
/-! ### the meaning of _law_word: c the class, a the place -/
def mIs4 (a : Addr) (c d : Nat) (ms : Evs) : Evs := mCons (mIsE a (c == d) (mVar 0)) ms
def mStr (l : List String) : Evs := l.foldr (fun x ms => mCons (mC (.str (Str.ofString x))) ms) mNil
def mWord (c : Nat) (a : Addr) : Ms :=
  mSeq (mSet 1 (mLst (mIs4 a c 11 (mIs4 a c 12 (mIs4 a c 13 (mIs4 a c 14 mNil))))))
  (mSeq (mSet 1 (mBin fAdd (mVar 1) (mLst (mIs4 a c 15 (mIs4 a c 16 (mIs4 a c 17 (mIs4 a c 18 mNil)))))))
  (mSeq (mSet 1 (mBin fAdd (mVar 1) (mLst (mIs4 a c 19 (mIs4 a c 20 (mIs4 a c 21 (mIs4 a c 22 mNil)))))))
  (mSeq (mSet 1 (mBin fAdd (mVar 1) (mLst (mIs4 a c 23 (mIs4 a c 24 (mIs4 a c 25 (mIs4 a c 26 mNil)))))))
  (mSeq (mSet 1 (mBin fAdd (mVar 1) (mLst (mIs4 a c 27 (mIs4 a c 28 mNil)))))
  (mSeq (mIf (mOrT (mCmpT fNe (mCntL (mVar 1) (mC (.bool true))) (mC (.int 1))) (mNotT (mT (mIsE a true (mVar 0))))) (mRet (mC (.str "other"))) mSkip)
  (mSeq (mSet 2 (mLst (mStr ["NoWords", "NoCode", "NoValue", "NoWord", "NoOrder", "NoPlaces", "NoText", "NoSpan", "NoNumber"])))
  (mSeq (mSet 2 (mBin fAdd (mVar 2) (mLst (mStr ["NoBridge", "NoState", "NoBeat", "NoLap", "NoLook", "NothingDone", "TooMuch"]))))
  (mSeq (mIf (mT (mIsE a (c == 27) (mVar 0))) mBad mSkip)
  (mRet (mIte (mT (mIsE a (c == 28) (mVar 0))) (fun _ _ => .bad) (mBin fIx (mVar 2) (mIdxL (mVar 1) (mC (.bool true))))))))))))))
def nmE (c : Nat) : Str := match c with
  | 11 => "NoWords" | 12 => "NoCode" | 13 => "NoValue" | 14 => "NoWord" | 15 => "NoOrder" | 16 => "NoPlaces" | 17 => "NoText" | 18 => "NoSpan" | 19 => "NoNumber"
  | 20 => "NoBridge" | 21 => "NoState" | 22 => "NoBeat" | 23 => "NoLap" | 24 => "NoLook" | 25 => "NothingDone" | 26 => "TooMuch" | _ => "other"
theorem isE_at (a : Addr) (b : Bool) (r : Sl) (B : Bs) : mIsE a b (mVar 0) (some (false, .ptr a) :: r) B = .ok (.bool b) B := by
  unfold mIsE
  simp [mVar, Rs.bind]
/-- its marks need not look -/
def mIsN (c d : Nat) (ms : Evs) : Evs := mCons (mC (.bool (c == d))) ms
end Hf

set_option Elab.async false
set_option linter.all false
set_option maxRecDepth 100000
set_option maxHeartbeats 4000000
namespace Hf
open PySem PySem.Spec PyProof.Rows L2

/-- the marks as they come out -/
def mkL (c : Nat) (l : List Nat) : List D := l.map fun d => .bool (c == d)
theorem is4_at (a : Addr) (c d : Nat) (r : Sl) (B : Bs) (ms : Evs) (ds : List D) (h : ms (some (false, .ptr a) :: r) B = .ok ds B) : mIs4 a c d ms (some (false, .ptr a) :: r) B = .ok (.bool (c == d) :: ds) B := by
  show ((mIsE a (c == d) (mVar 0)) (some (false, .ptr a) :: r) B).bind _ = _
  rw [isE_at]
  show (ms (some (false, .ptr a) :: r) B).bind _ = _
  rw [h]
  rfl
theorem is0_at (r : Sl) (B : Bs) : mNil r B = .ok [] B := rfl
/-- the rest behind the marks -/
def mWordB (a : Addr) (c : Nat) : Ms :=
  (mSeq (mIf (mOrT (mCmpT fNe (mCntL (mVar 1) (mC (.bool true))) (mC (.int 1))) (mNotT (mT (mC (.bool true))))) (mRet (mC (.str "other"))) mSkip)
  (mSeq (mSet 2 (mLst (mStr ["NoWords", "NoCode", "NoValue", "NoWord", "NoOrder", "NoPlaces", "NoText", "NoSpan", "NoNumber"])))
  (mSeq (mSet 2 (mBin fAdd (mVar 2) (mLst (mStr ["NoBridge", "NoState", "NoBeat", "NoLap", "NoLook", "NothingDone", "TooMuch"]))))
  (mSeq (mIf (mT (mC (.bool (c == 27)))) mBad mSkip)
  (mRet (mIte (mT (mC (.bool (c == 28)))) (fun _ _ => .bad) (mBin fIx (mVar 2) (mIdxL (mVar 1) (mC (.bool true))))))))))
theorem mWord_at {a : Addr} {B : Bs} : ∀ c ∈ ([11, 12, 13, 14, 15, 16, 17, 18, 19, 20, 21, 22, 23, 24, 25, 26] : List Nat), mWord c a [some (false, .ptr a), Option.none, Option.none] B = .ret (.str (nmE c)) B := by
  intro c hc
  have step : ∀ (d1 d2 d3 d4 : Nat) (l : D) (n : Option (Bool × D)), mBin fAdd (mVar 1) (mLst (mIs4 a c d1 (mIs4 a c d2 (mIs4 a c d3 (mIs4 a c d4 mNil))))) [some (false, .ptr a), some (false, l), n] B = fAdd l (.lst (mkL c [d1, d2, d3, d4])) B := fun d1 d2 d3 d4 l n => by
    have e := is4_at a c d1 [some (false, l), n] B _ _ (is4_at a c d2 [some (false, l), n] B _ _ (is4_at a c d3 [some (false, l), n] B _ _ (is4_at a c d4 [some (false, l), n] B _ _ (is0_at _ B))))
    simp only [z_mBin, z_mVar, List.getElem?_cons_succ, List.getElem?_cons_zero, Rs.bind, z_mLst, e]
    rfl
  have step2 : ∀ (l : D) (n : Option (Bool × D)), mBin fAdd (mVar 1) (mLst (mIs4 a c 27 (mIs4 a c 28 mNil))) [some (false, .ptr a), some (false, l), n] B = fAdd l (.lst (mkL c [27, 28])) B := fun l n => by
    have e := is4_at a c 27 [some (false, l), n] B _ _ (is4_at a c 28 [some (false, l), n] B _ _ (is0_at _ B))
    simp only [z_mBin, z_mVar, List.getElem?_cons_succ, List.getElem?_cons_zero, Rs.bind, z_mLst, e]
    rfl
  have first : mLst (mIs4 a c 11 (mIs4 a c 12 (mIs4 a c 13 (mIs4 a c 14 mNil)))) [some (false, .ptr a), Option.none, Option.none] B = .ok (.lst (mkL c [11, 12, 13, 14])) B := by
    have e := is4_at a c 11 [Option.none, Option.none] B _ _ (is4_at a c 12 [Option.none, Option.none] B _ _ (is4_at a c 13 [Option.none, Option.none] B _ _ (is4_at a c 14 [Option.none, Option.none] B _ _ (is0_at _ B))))
    simp only [z_mLst, e, Rs.bind]
    rfl
  have cat : ∀ l r : List Nat, (l.length + r.length ≤ 20) → fAdd (.lst (mkL c l)) (.lst (mkL c r)) B = .ok (.lst (mkL c (l ++ r))) B := fun l r h => by
    unfold fAdd mkL
    have z := sizeLine_eq
    simp only [List.length_map, List.map_append]
    rw [if_pos (by omega)]
  unfold mWord
  simp only [mSeq, mSet, first, step, step2, Rs.st, Ss.seq, List.set_cons_succ, List.set_cons_zero, cat, List.length_cons, List.length_nil, List.cons_append, List.nil_append, Nat.reduceAdd, Nat.reduceLeDiff]
  have tIs : ∀ (b : Bool) (r : Sl), mT (mIsE a b (mVar 0)) (some (false, .ptr a) :: r) B = .ok b B := fun b r => by
    show (mIsE a b (mVar 0) (some (false, .ptr a) :: r) B).bind _ = _
    rw [isE_at]
    cases b <;> rfl
  have n1 : ∀ (r : Sl), mLst (mStr ["NoWords", "NoCode", "NoValue", "NoWord", "NoOrder", "NoPlaces", "NoText", "NoSpan", "NoNumber"]) r B = .ok (.lst [.str "NoWords", .str "NoCode", .str "NoValue", .str "NoWord", .str "NoOrder", .str "NoPlaces", .str "NoText", .str "NoSpan", .str "NoNumber"]) B := fun r => rfl
  have n2 : ∀ (x y : Option (Bool × D)) (l : D), mBin fAdd (mVar 2) (mLst (mStr ["NoBridge", "NoState", "NoBeat", "NoLap", "NoLook", "NothingDone", "TooMuch"])) [x, y, some (false, l)] B = fAdd l (.lst [.str "NoBridge", .str "NoState", .str "NoBeat", .str "NoLap", .str "NoLook", .str "NothingDone", .str "TooMuch"]) B := fun x y l => rfl
  have cnt : ∀ x y, mCmpT fNe (mCntL (mVar 1) (mC (.bool true))) (mC (.int 1)) [x, some (false, .lst (mkL c [11, 12, 13, 14, 15, 16, 17, 18, 19, 20, 21, 22, 23, 24, 25, 26, 27, 28])), y] B = .ok false B := fun x y => by
    simp only [List.mem_cons, List.not_mem_nil, or_false] at hc
    rcases hc with rfl | rfl | rfl | rfl | rfl | rfl | rfl | rfl | rfl | rfl | rfl | rfl | rfl | rfl | rfl | rfl
    all_goals kernel_rfl
  have fin : ∀ x, mBin fIx (mVar 2) (mIdxL (mVar 1) (mC (.bool true))) [x, some (false, .lst (mkL c [11, 12, 13, 14, 15, 16, 17, 18, 19, 20, 21, 22, 23, 24, 25, 26, 27, 28])), some (false, .lst [.str "NoWords", .str "NoCode", .str "NoValue", .str "NoWord", .str "NoOrder", .str "NoPlaces", .str "NoText", .str "NoSpan", .str "NoNumber", .str "NoBridge", .str "NoState", .str "NoBeat", .str "NoLap", .str "NoLook", .str "NothingDone", .str "TooMuch"])] B = .ok (.str (nmE c)) B := fun x => by
    simp only [List.mem_cons, List.not_mem_nil, or_false] at hc
    rcases hc with rfl | rfl | rfl | rfl | rfl | rfl | rfl | rfl | rfl | rfl | rfl | rfl | rfl | rfl | rfl | rfl
    all_goals kernel_rfl
  have c27 : (c == 27) = false ∧ (c == 28) = false := by
    simp only [List.mem_cons, List.not_mem_nil, or_false] at hc
    rcases hc with rfl | rfl | rfl | rfl | rfl | rfl | rfl | rfl | rfl | rfl | rfl | rfl | rfl | rfl | rfl | rfl
    all_goals decide
  have n3 : ∀ B : Bs, fAdd (.lst [.str "NoWords", .str "NoCode", .str "NoValue", .str "NoWord", .str "NoOrder", .str "NoPlaces", .str "NoText", .str "NoSpan", .str "NoNumber"]) (.lst [.str "NoBridge", .str "NoState", .str "NoBeat", .str "NoLap", .str "NoLook", .str "NothingDone", .str "TooMuch"]) B = .ok (.lst [.str "NoWords", .str "NoCode", .str "NoValue", .str "NoWord", .str "NoOrder", .str "NoPlaces", .str "NoText", .str "NoSpan", .str "NoNumber", .str "NoBridge", .str "NoState", .str "NoBeat", .str "NoLap", .str "NoLook", .str "NothingDone", .str "TooMuch"]) B := fun B => rfl
  simp only [mIf, mOrT, mNotT, tIs, Rs.bind, Rs.st, Ss.seq, n1, n2, n3, mRet, mIte, cnt, mSkip, List.set_cons_succ, List.set_cons_zero, c27.1, c27.2, Bool.false_eq_true, if_false, Bool.not_true, fin]
end Hf

set_option Elab.async false
set_option linter.all false
set_option maxRecDepth 100000
set_option maxHeartbeats 4000000
namespace Hf
open PySem PySem.Spec PyProof.Rows L2

/-! ### _law_word: told of the exception that is handled -/
def FnW (g : Gs) (R : List Nat) (k : Nat) (fa : Addr) (fd : FuncData) (y : Str) : Prop :=
  ∀ (A : Around) (outer : List Env) (s : Shared) (H : Hp) (args : Args) (Q : VK) (E : XK) (p : Addr × Obj) (c : Nat) (w : Wd) (B : Bs), L2H.RoomH k A → L2H.Hot1 A p → L2H.PinOk outer H s p → Env0 g.prog g.w g.K g.mg g.base A outer s H → BindsTo s fd args [(y, .ref p.1)] → c ∈ R →
    Zc (.ref (g.cl c)) Option.none p.2 → RB g w B H → (∀ w' H', Ext w H w' H' → RB g w' B H' → Q (.str (nmE c)) H') → codeAny (model g.prog g.w) A (.call (.ref fa) args) (CR (L2N.CX g.prog g.w) outer g.prog g.w H s Q E) s
theorem word_ok {g : Gs} {x qual y : Str} {st : Stmt} {fa : Addr} {fd : FuncData} {N : List Str} {R : List Nat} {k : Nat} (F : L2.Fun g.K x qual st fa fd) (S : FnScope N [y] (defScope st)) (hN : N.length = 3) (fx : Fx g) (fe : FxE g R)
    (hb : ∀ (E : XK) (w0 : Wd) (H0 : Hp) (X : Cx) (c : Nat) (a : Addr), OkW g R X c a → X.N = N → X.env.scope = defScope st → X.fn = (fun _ => true) → SndB g E w0 H0 X (defBody st) (mWord c a)) : FnW g R (k + 1) fa fd y := by
  obtain ⟨oc, od, kV, doc, pm, an, cdv, ct, osl, rfl, lk, hcd⟩ := F.ex
  intro A outer s H args Q E p c w B hr hot hpin e0 hbd hc hz rb hq
  have KX : g.K.In s.heap := e0.mod.kin.keeps fun b o e => (e0.bs b o e).1
  have lim : s.heap.NoLimit := e0.mod.nolimit.keeps fun b o e => (e0.bs b o e).1
  have rv : Vals [V.ref p.1] [Value.ref p.1] := .cons rfl .nil
  have hkind : ∀ z ∈ [(y, Value.ref p.1)], (defScope st).names.lookup z.1 = some .local ∨ ((defScope st).names.lookup z.1 = some .cell ∧ ((cellsFrom (s.heap.objs.size + 1) (defScope st).names []).lookup z.1).isSome = true) := fun z hz => by
    have e : z = (y, Value.ref p.1) := by simpa using hz
    subst e
    rcases S.par y (by simp) with q | q
    · exact .inl q
    · exact .inr ⟨q, PySem.W.cellsFrom_some _ _ _ (.inl q)⟩
  refine codeAny_call_function hr.depth (KX _ _ lk) rfl S.co S.gen rfl (PySem.W.codeRec_of KX hcd) (hbd _ _ _ _ ?_)
  refine wpAny_newFunctionEnv_cells S.kind hkind fun env he s1 xx => ?_
  subst he
  refine ⟨lim.keeps xx.toInCall.keep, codeAny_func ?_⟩
  have hrd : L2H.RoomH k (A.deeper (envOfC qual (defScope st) s.heap.objs.size fa cdv)) := hr.deeper _
  have ht := hb E w H (L2H.cxH (L2N.CX g.prog g.w) g.prog g.w g.K g.mg g.base N qual (defScope st) fa cdv A outer s H E p) c p.1
    ⟨⟨rfl, rfl, (by have := hrd.un; show A.units + 3 + 100 < cLine; have h2 : A.units + 3 + 16 * k + 200 < cLine := this; omega), rfl, rfl, rfl, fx⟩, fe, hc, p.2, (by show p ∈ [p]; simp), hz, (by obtain ⟨_, vs, h1, _⟩ := hot; exact ⟨vs, h1⟩)⟩ rfl rfl rfl
  have I : Inv (L2H.cxH (L2N.CX g.prog g.w) g.prog g.w g.K g.mg g.base N qual (defScope st) fa cdv A outer s H E p) [] (L2.start N [V.ref p.1]) H s1 := L2H.inv_startH (ps := [y]) S hpin e0 rfl rv xx
  have s0 : S0 g H w [some (false, D.ptr p.1), Option.none, Option.none] B (L2.start N [V.ref p.1]) H := by
    have z := start_at (g := g) (N := N) (ds := [D.ptr p.1]) (vs := [V.ref p.1]) (n := 1) rb (by simp only [Reps, Rep]; exact ⟨_, _, rfl, rfl, rfl⟩) rfl (by omega)
    rw [hN] at z
    exact z
  refine wpAny_mono (ht.run [] s1 (L2.start N [V.ref p.1]) H { nx := fun _ H' => Q .non H', rt := Q } I ⟨w, _, B, s0, Ext.refl _ _, ?_⟩) (fun fl s' hs => ?_) fun e s' hs => hs
  · rw [mWord_at c (fe.le c hc)]
    intro w' v H' rb' x' r'
    simp only [Rep] at r'
    subst r'
    exact hq w' H' x' rb'
  have fin : ∀ {σ' : L2.St} {H' : Hp} {v : V} {u : Value}, Inv (L2H.cxH (L2N.CX g.prog g.w) g.prog g.w g.K g.mg g.base N qual (defScope st) fa cdv A outer s H E p) [] σ' H' s' → RelV v u → Q v H' → CE outer g.prog g.w H s Q u s' :=
    fun {σ' H' v u} J rv q => ⟨v, H', J.os, J.bare, J.base, J.hok, rv, q⟩
  cases fl with
  | ret u =>
    obtain ⟨v, σ', H', J, rv, q⟩ := hs
    exact fin J rv q
  | next =>
    obtain ⟨σ', H', J, q⟩ := hs
    exact fin (v := V.non) (u := Value.none) J rfl q
  | brk => obtain ⟨_, _, _, q⟩ := hs; exact False.elim q
  | cont => obtain ⟨_, _, _, q⟩ := hs; exact False.elim q
theorem pe_word {g : Gs} {X : Cx} {R : List Nat} {k i : Nat} {fa a : Addr} {oe : Obj} {fd : FuncData} {x y v : Str} {q pv pos : Pos} (F : FnW g R k fa fd y) (ok : OkB g X) (hr : L2H.RoomH k X.A) (hh : X.A.handled = some (.ref a)) (hp : (a, oe) ∈ X.pn) (hz : PXN.CtxN oe) (hf : ∃ vs, oe.data = .fields vs)
    (hm : g.mg x = some (.ref fa)) (hk : PySem.W.keepIn g.K (.ref fa) = true) (hb : Binds g.K fd [y] []) (hN : X.N[i]? = some v) (hv : Vis X.env.scope v) (hg : Gl X x) (hd : (v == ("__debug__" : Str)) = false := by decide) (hcd : (v == ("__classdict__" : Str)) = false := by decide) (hdb : (x == ("__debug__" : Str)) = false := by decide)
    (he : starEach [.Name v pv] X.env = (false, eval (.Name v pv) X.env) :: starEach [] X.env := by rfl) (hpl : (backTo pos (starEach [] X.env)).any (·.1) = false := by rfl) :
    PE X (.Call (.Name x q) [.Name v pv] [] pos) (fun σ H Q => σ[i]? = some (some (.ref a)) ∧ ∃ c w B, c ∈ R ∧ Zc (.ref (g.cl c)) Option.none oe ∧ RB g w B H ∧ ∀ w' H', Ext w H w' H' → RB g w' B H' → Q (.str (nmE c)) H') := by
  obtain ⟨prog, w', K, mg, base, A, N, s_0, H_0, env, outer, stack, ex, fn, calm, pn, xe⟩ := X
  obtain ⟨h1, h2, h4, h5, h6, h7, hfx⟩ := ok
  simp only at h1 h2 h5 h6 h7
  subst h1 h2 h5 h6 h7
  refine ⟨fun pins s σ H Q I h => ?_⟩
  obtain ⟨hi, c, w, B, hc, hzc, rb, hq⟩ := h
  refine wpAny_Call_Name_kw (ld_glob I hg hm ?_ hdb)
  have ha : PA _ [.Name v pv] (tCons (tVar i) tNil) := pa_cons (pe_var (pos := pv) hN hv hd hcd) pa_nil he
  refine PySem.W.callWith_K (h₀ := g.base) I.ok.mod.kin hk (thn (ha.run pos pins s σ H (fun vs H1 => vs = [V.ref a] ∧ H1 = H) I ⟨_, hi, rfl, rfl⟩) fun us s1 hh1 => ?_) he hpl
  obtain ⟨vs, H1, I1, r1, ev, eH⟩ := hh1
  subst ev eH
  refine ⟨I1.kIn, ?_⟩
  obtain ⟨u, rfl, ru⟩ := vals1 r1
  obtain rfl : u = Value.ref a := ru
  have b := hb s1 [.ref a] I1.kIn rfl
  have P1 := I1.pin (a, oe) (List.mem_append_left _ hp)
  have hpin : L2H.PinOk stack H1 s1 (a, oe) := ⟨P1.1, P1.2.1, fun hm => (List.mem_cons.mp (I1.stkSub a hm)).elim P1.2.2.1 P1.2.2.2.1, P1.2.2.2.2⟩
  obtain ⟨vs, hvs⟩ := hf
  refine wpAny_call (codeAny_mono (F A stack s1 H1 ⟨[.ref a], []⟩ Q E0 (a, oe) c w B hr ⟨hh, vs, hvs, hz vs hvs⟩ hpin I1.env0 b hc hzc rb hq) fun r s' hq => ?_)
  cases r with
  | error e => exact passN pins σ H1 s1 e s' I1 hq
  | ok fl =>
    cases fl with
    | ret u => exact I1.after hq
    | next => exact False.elim hq
    | brk => exact False.elim hq
    | cont => exact False.elim hq
end Hf

set_option Elab.async false
set_option linter.all false
set_option maxRecDepth 100000
set_option maxHeartbeats 4000000
namespace Hf
open PySem PySem.Spec PyProof.Rows L2

/-! ### a lambda is made; what was there is there -/
section
variable {X : Cx} {pins : List (Addr × Obj)} {σ : L2.St} {H : Hp} {s : Shared}
theorem lam_mkT {T : List (Addr × Str)} {k0 P : Addr} {prm : Arguments} {bd : Expr} {sc : Scope} {lp : Pos} {Er Q : Value → Shared → Prop} (I : Inv X pins σ H s) (tb : LamX.TabB X.base X.mg k0 P) (hk : X.env.code = .ref k0)
    (mem : (P, X.env.qual ++ "<lambda>") ∈ T) (uni : ∀ p ∈ T, p.1 = P → p.2 = X.env.qual ++ "<lambda>") (tT : LamX.Tabs T H) (hdf : defaultsOf prm X.env = ([], [])) (fre : ∀ y ∈ sc.names, y.2 = .free → ∃ c, X.env.cells.lookup y.1 = some c)
    (go : ∀ (f c' : Addr) (pm ct : Value) (H1 : Hp) (s' : Shared), Inv X pins σ H1 s' → LamX.ExtN H H1 → (∀ b, H b ≠ Option.none → H1 b ≠ Option.none) → LamX.Tabs T H1 →
      s'.heap.get? f = some (PySem.W.kla_obj "<lambda>" (X.env.qual ++ "<lambda>") prm bd sc (cloFrom X.env.cells sc.names []) pm c' ct) → H1 f = Option.none → f ∉ frs X.stack → H1 c' = some (LamX.CodeO c' (X.env.qual ++ "<lambda>")) → Q (.ref f) s') :
    wpAny (model X.prog X.w) X.A (eval (.Lambda prm bd sc lp) X.env) Q Er s := by
  obtain ⟨ps, atP, ht, ha⟩ := tT _ mem
  refine PySem.W.kla_eval hdf ?_
  have bP : s.heap.BuiltinsAt X.mg P := tb.bm.keeps I.bk
  have gP : s.heap.get? P = some { cls := .none, data := .fields ps } := I.hok P _ atP
  have far : ∀ f, s.heap.objs.size ≤ f → f ∉ frs X.stack := fun f hf z => by
    rcases List.mem_cons.mp (I.stkSub _ z) with e | e
    · have q1 := I.lt
      rw [← e] at q1
      exact Nat.lt_irrefl _ (Nat.lt_of_lt_of_le q1 hf)
    · exact I.nofs hf e
  cases am : codeAmong lp ps.toList with
  | none =>
    refine PySem.W.kla_makeFunction (mg := X.mg) (c := k0) (P := P) (ps := ps) (closure_ok fre) I.ok.glob (I.mod.glob.keeps I.bk) hk (tb.code.keeps I.bk) gP ht am tb.gP bP fun c' ct h' tk hx hge hlt hrec htb => ?_
    obtain ⟨c2, oc, vs, t, e2, hoc, hd, hv⟩ := hrec
    cases e2
    have big : s.heap.objs.size ≤ h'.objs.size := Nat.le_trans hge (Nat.le_of_lt hlt)
    have newC : H c' = Option.none := I.hok.fresh hge
    have J := LamX.inv_table (t' := tk) (more := #[rawInt lp.line, rawInt lp.col, .ref c']) (h' := h'.push (PySem.W.kla_obj "<lambda>" (X.env.qual ++ "<lambda>") prm bd sc (cloFrom X.env.cells sc.names []) ((X.mg "__name__").getD .none) c' ct)) I atP
      (fun b o z e => Heap.get?_push_of_some _ (hx b o z e)) (Heap.get?_push_of_some _ htb) hge ⟨oc, vs, t, Heap.get?_push_of_some _ hoc, hd, hv⟩
    have kept : LamX.ExtN H (upd (upd H P (.tbl (ps ++ #[rawInt lp.line, rawInt lp.col, .ref c']))) c' (LamX.CodeO c' (X.env.qual ++ "<lambda>"))) := fun b o e n => by
      rw [upd_ne (ne_of_none e newC), upd_ne fun z => n ps (Option.some.inj (e.symm.trans (by rw [z]; exact atP)))]
      exact e
    have lst : (ps ++ #[rawInt lp.line, rawInt lp.col, .ref c']).toList = ps.toList ++ [rawInt lp.line, rawInt lp.col, .ref c'] := by simp
    refine go h'.objs.size c' ((X.mg "__name__").getD .none) ct _ _ J kept (fun b hb => ?_) (fun p hp => ?_) (Heap.get?_push_size _ rfl) ?_ (far _ big) upd_same
    · by_cases z : b = c'
      · rw [z, upd_same]; simp
      · rw [upd_ne z]
        by_cases z2 : b = P
        · rw [z2, upd_same]; simp
        · rw [upd_ne z2]; exact hb
    · by_cases z : p.1 = P
      · rw [uni p hp z, z]
        refine ⟨_, by rw [upd_ne (ne_of_none atP newC), upd_same], by rw [lst]; exact PySem.TriplesOk_snoc _ _ _ _ ht, fun p' cv hcv => ?_⟩
        rw [lst] at hcv
        rcases LamX.among_app _ ht hcv with z | z
        · obtain ⟨c0, e1, e2⟩ := ha p' cv z
          exact ⟨c0, e1, kept _ _ e2 LamX.codeO_ne⟩
        · exact ⟨c', z, upd_same⟩
      · obtain ⟨ps', a1, a2, a3⟩ := tT p hp
        refine ⟨ps', by rw [upd_ne (ne_of_none a1 newC), upd_ne z]; exact a1, a2, fun p' cv hcv => ?_⟩
        obtain ⟨c0, e1, e2⟩ := a3 p' cv hcv
        exact ⟨c0, e1, kept _ _ e2 LamX.codeO_ne⟩
    · have q1 : h'.objs.size ≠ c' := Nat.ne_of_gt hlt
      have q2 : h'.objs.size ≠ P := Nat.ne_of_gt (Nat.lt_of_lt_of_le (Heap.lt_size gP) big)
      rw [upd_ne q1, upd_ne q2]
      exact I.hok.fresh big
  | some cv =>
    obtain ⟨c', e, hco⟩ := ha lp cv am
    subst e
    refine PySem.W.kla_makeFunctionHit (mg := X.mg) (c := k0) (P := P) (ps := ps) (closure_ok fre) I.ok.glob (I.mod.glob.keeps I.bk) hk (tb.code.keeps I.bk) gP ht am bP fun ct h' tk hx big => ?_
    exact go h'.objs.size c' ((X.mg "__name__").getD .none) ct H _ (I.kept fun b o e => Heap.get?_push_of_some _ (hx b o e)) (LamX.ExtN.refl H) (fun _ z => z) tT (Heap.get?_push_size _ rfl) (I.hok.fresh big) (far _ big) hco
end
/-- the lambda's context, exceptions of the plain kind -/
abbrev lamN (X : Cx) (A : Around) (outer : List Env) (s : Shared) (H : Hp) (E : XK) (sc : Scope) (f c' : Addr) : Cx :=
  { LamX.lamCx X A outer s H E sc f c' with xe := fun e s' => wpAny (model X.prog X.w) (A.deeper (LamX.lamEnv X sc s.heap.objs.size f c')) (leaving (LamX.lamEnv X sc s.heap.objs.size f c') e) (fun _ s'' => L2N.CX X.prog X.w outer H s E e s'') (fun e' s'' => L2N.CX X.prog X.w outer H s E e' s'') s' }
/-- x(), in the def that got the lambda -/
theorem pe_actN {X : Cx} {pins : List (Addr × Obj)} {σ : L2.St} {H : Hp} {s : Shared} {Ng : List Str} {qg : Str} {sg : Scope} {ga f c' : Addr} {cdg pm ct : Value} {prm : Arguments} {bd : Expr} {sc : Scope} {k i : Nat} {a : Str} {pn : List (Addr × Obj)} {xe : Value → Shared → Prop} {W : WX} {E Eg : XK} {tb : TE} {p1 p2 : Pos}
    (I : Inv X pins σ H s) (L : LamX.LamS X.env.scope sc) (hf : s.heap.get? f = some (PySem.W.kla_obj "<lambda>" (X.env.qual ++ "<lambda>") prm bd sc (cloFrom X.env.cells sc.names []) pm c' ct)) (hfn : H f = Option.none) (hfr : f ∉ frs X.stack)
    (bind : bindArgs (PySem.W.kla_fn "<lambda>" (X.env.qual ++ "<lambda>") prm bd sc (cloFrom X.env.cells sc.names []) pm (.ref c') ct) ⟨[], []⟩ = pure [])
    (tk : L2N.Takes ((cxOf (L2N.CX X.prog X.w) X.prog X.w X.K X.mg X.base Ng qg sg ga cdg X.A X.stack s H Eg).tr pn xe) W) (hW : ∀ cls d σ' H', E cls d H' → W cls d σ' H') (hr : Room (k + 1) (X.A.deeper (envOfC qg sg s.heap.objs.size ga cdg)))
    (hbody : ∀ (outer : List Env) (s1 : Shared) (H1 : Hp), Room k ((X.A.deeper (envOfC qg sg s.heap.objs.size ga cdg)).deeper (LamX.lamEnv X sc s1.heap.objs.size f c')) → PE (lamN X (X.A.deeper (envOfC qg sg s.heap.objs.size ga cdg)) outer s1 H1 E sc f c') bd tb)
    (hN : Ng[i]? = some a) (hv : Vis sg a) (hd : (a == ("__debug__" : Str)) = false := by decide) (hcd : (a == ("__classdict__" : Str)) = false := by decide) :
    PE ((cxOf (L2N.CX X.prog X.w) X.prog X.w X.K X.mg X.base Ng qg sg ga cdg X.A X.stack s H Eg).tr pn xe) (.Call (.Name a p1) [] [] p2)
      (fun σZ HZ Q => σZ[i]? = some (some (.ref f)) ∧ HZ c' = some (LamX.CodeO c' (X.env.qual ++ "<lambda>")) ∧ tb σ HZ Q) := by
  refine ⟨fun pinsZ sZ σZ HZ Q IZ h => ?_⟩
  obtain ⟨hs, hc, ht⟩ := h
  refine wpAny_Call_Name_kw (thn ((pe_var (pos := p1) (i := i) hN hv hd hcd).run pinsZ sZ σZ HZ (fun v H1 => v = .ref f ∧ H1 = HZ) IZ ⟨.ref f, hs, rfl, rfl⟩) fun u s1 ⟨v, H1, I1, r1, q1⟩ => ?_)
  obtain ⟨ev, eH⟩ := q1
  subst ev eH
  obtain rfl : u = Value.ref f := r1
  have of1 : s1.heap.get? f = some (PySem.W.kla_obj "<lambda>" (X.env.qual ++ "<lambda>") prm bd sc (cloFrom X.env.cells sc.names []) pm c' ct) := I1.base.keep f _ hf hfn hfr (fun z => nomatch (show f ∈ ([] : List Addr) from z))
  refine PySem.W.callWith_F0 ⟨_, _, _, _, of1⟩ ?_
  have un : Un (frs X.stack) [] H H1 s.heap s1.heap := I1.base
  obtain ⟨⟨oc, vs, t, hoc, hdc, hvc⟩, _, _⟩ := I1.hok c' _ hc
  have rc : codeAny (model X.prog X.w) (X.A.deeper (envOfC qg sg s.heap.objs.size ga cdg)) (.call (.ref f) ⟨[], []⟩) (CR (L2N.CX X.prog X.w) (envOfC qg sg s.heap.objs.size ga cdg :: X.stack) X.prog X.w H1 s1 Q E) s1 := by
    refine PySem.W.kla_callFunE hr.depth of1 rfl L.co L.gen rfl ⟨c', oc, vs, t, rfl, hoc, hdc, hvc⟩ ?_
    rw [bind]
    refine wpAny_pure (wpAny_newFunctionEnv (fun y hy => (L.own y hy).2) (fun y hy => absurd hy (by simp)) (fun h₁ hns hsb => ⟨I1.nolimit.fresh _ hsb, ?_⟩) L.kind)
    show codeAny _ _ (.expr bd (LamX.lamEnv X sc s1.heap.objs.size f c')) _ _
    have kp : ∀ b o, s1.heap.get? b = some o → h₁.get? b = some o := fun b o e => hsb.extBut b o (Nat.ne_of_lt (Heap.lt_size e)) (Heap.get?_push_of_some _ e)
    have J0 : Inv (LamX.lamCx X (X.A.deeper (envOfC qg sg s.heap.objs.size ga cdg)) (envOfC qg sg s.heap.objs.size ga cdg :: X.stack) s1 H1 E sc f c') [] σ H1 { s1 with heap := h₁, toks := s1.toks + ([] : List (Str × Value)).length } :=
      LamX.lam_start2 I L I1.env0 hr.hd un hns kp
    have J : Inv (lamN X (X.A.deeper (envOfC qg sg s.heap.objs.size ga cdg)) (envOfC qg sg s.heap.objs.size ga cdg :: X.stack) s1 H1 E sc f c') [] σ H1 { s1 with heap := h₁, toks := s1.toks + ([] : List (Str × Value)).length } := J0.wish _
    refine PySem.W.kla_codeExpr (wpAny_mono ((hbody _ s1 H1 (hr.deeper _)).run [] _ _ H1 Q J ht) (fun v s' hq => ?_) fun e s' hq => hq)
    obtain ⟨w', H', J', rv, q⟩ := hq
    exact ⟨w', H', J'.os, J'.bare, J'.base, J'.hok, rv, q⟩
  have hx : Passes (L2N.CX X.prog X.w) ((cxOf (L2N.CX X.prog X.w) X.prog X.w X.K X.mg X.base Ng qg sg ga cdg X.A X.stack s H Eg).tr pn xe) E := L2N.passes_call tk hW
  refine wpAny_call (codeAny_mono rc fun r s' hq => ?_)
  cases r with
  | error e => exact hx pinsZ σZ H1 s1 e s' I1 hq
  | ok fl =>
    cases fl with
    | ret u => exact I1.after hq
    | next => exact False.elim hq
    | brk => exact False.elim hq
    | cont => exact False.elim hq
end Hf

set_option Elab.async false
set_option linter.all false
set_option maxRecDepth 100000
set_option maxHeartbeats 4000000
namespace Hf
open PySem PySem.Spec PyProof.Rows L2

/-! ### _law_said(lambda: ..) -/
def mSaidW (fR : D → Bs → Rs D) (R : List Nat) (m : Ev) : Ev := fun σ B => match m σ B with
  | .ok d B1 => fR d B1
  | .exc c Option.none B1 => if R.contains c then .ok (.str (Str.ofString "! " ++ nmE c)) B1 else .bad
  | _ => .bad
/-- as said where no class has its own repr -/
def mSaid (R : List Nat) (m : Ev) : Ev := mSaidW fRepr R m
/-- repr means fR, from level kr on -/
def ReprK (g : Gs) (fR : D → Bs → Rs D) (kr : Nat) : Prop := ∃ rR : List V → Hp → VK → Prop, (∀ (E : XK) (lv : Nat) (X : Cx), OkG g E lv X → kr ≤ lv → CallR X (.builtin "repr") rR) ∧
  ∀ (E : XK) (H0 : Hp) (w : Wd) (σI : Sl) (B : Bs) (σ : L2.St) (H : Hp) (Q : VK) (x : V) (d : D), S0 g H0 w σI B σ H → Rep g w d x → PostE g E w H σI σ false Q (fR d B) → rR [x] H Q
theorem reprK0 (g : Gs) : ReprK g fRepr 0 := ⟨rReprG g, fun E lv X c _ => call_reprG c, fun E H0 w σI B σ H Q x d s r p => repr_go s (.inl r) p⟩
/-- the text of _law_said -/
structure SaidS (st : Stmt) : Prop where
  sc : FnScope ["_law_call", "_law_e"] ["_law_call"] (defScope st)
  gr : (defScope st).names.lookup ("repr" : Str) = some NameKind.globalImplicit
  gx : (defScope st).names.lookup ("ReadError" : Str) = some NameKind.globalImplicit
  gw : (defScope st).names.lookup ("_law_word" : Str) = some NameKind.globalImplicit
  lc : (defScope st).names.lookup ("_law_call" : Str) = some NameKind.local
  le : (defScope st).names.lookup ("_law_e" : Str) = some NameKind.local
  body : ∃ (p1 p2 p3 p4 p5 p6 p7 p8 p9 p10 p11 p12 p13 p14 : Pos) (j : Nat), defBody st = [.Try [.Return (some (.Call (.Name "repr" p1) [.Call (.Name "_law_call" p2) [] [] p3] [] p4)) p5]
    [.ExceptHandler (some (.Name "ReadError" p6)) (some "_law_e") [.Return (some (.BinOp (.Constant (.str "! ") j p7) .Add (.Call (.Name "_law_word" p8) [.Name "_law_e" p9] [] p10) p11)) p12] p13] [] [] p14]
def SaidD (g : Gs) : Prop := ∃ (st : Stmt) (fa : Addr) (fd : FuncData), L2.Fun g.K "_law_said" "_law_said" st fa fd ∧ g.mg "_law_said" = some (.ref fa) ∧ PySem.W.keepIn g.K (.ref fa) = true ∧ Binds g.K fd ["_law_call"] [] ∧ SaidS st ∧ g.mg "ReadError" = some (.ref (g.cl 10))
def WordD (g : Gs) (R : List Nat) (k : Nat) : Prop := ∃ (fa : Addr) (fd : FuncData) (y : Str), FnW g R k fa fd y ∧ g.mg "_law_word" = some (.ref fa) ∧ PySem.W.keepIn g.K (.ref fa) = true ∧ Binds g.K fd [y] []
/-- the def that holds lambdas: its code object, its table -/
structure LamK (g : Gs) (X : Cx) (k0 P : Addr) : Prop where
  tb : LamX.TabB g.base g.mg k0 P
  code : X.env.code = .ref k0
  mem : (P, X.env.qual ++ "<lambda>") ∈ g.tabs
  uni : ∀ p ∈ g.tabs, p.1 = P → p.2 = X.env.qual ++ "<lambda>"
theorem nmE_len (c : Nat) : (nmE c).length ≤ 20 := by
  unfold nmE
  split <;> decide
theorem cat_said (c : Nat) (B : Bs) : fAdd (.str (Str.ofString "! ")) (.str (nmE c)) B = .ok (.str (Str.ofString "! " ++ nmE c)) B := by
  have h := nmE_len c
  have z := sizeLine_eq
  have h2 : (Str.ofString "! ").length = 2 := by decide
  unfold fAdd
  simp only
  rw [if_pos (by omega)]
theorem un_of {k : Nat} {A : Around} (r : Room k A) : A.units + 100 < cLine := by
  have := r.un
  omega
theorem s0_nil {g : Gs} {w : Wd} {B : Bs} {H : Hp} (rb : RB g w B H) : S0 g H w [] B [] H where
  rb := rb
  len := rfl
  sl := fun i d h => by simp at h
  ow := fun i d h => by simp at h
  oi := fun i j d e a h => by simp at h
  me := fun i c ds a h => by simp at h
theorem s_saidW {fR : D → Bs → Rs D} {kr : Nat} {g : Gs} {E : XK} {H0 : Hp} {X : Cx} {R : List Nat} {kw k : Nat} {k0 P : Addr} {prm : Arguments} {bd : Expr} {sc : Scope} {lp p pos : Pos} {m : Ev} (c : OkG g E (k + 2) X) (D : SaidD g) (W : WordD g R kw) (hkw : kw ≤ k + 1) (fe : FxE g R) (RK : ReprK g fR kr) (hkr : kr ≤ k + 1) (lk : LamK g X k0 P)
    (hb : ∀ (A : Around) (outer : List Env) (s1 : Shared) (H1 : Hp) (E1 : XK) (f c' : Addr), OkG g E1 k (lamN X A outer s1 H1 E1 sc f c') → Snd g E1 H0 (lamN X A outer s1 H1 E1 sc f c') false bd m)
    (L : LamX.lamSB X.env.scope sc = true := by first | rfl | kernel_rfl) (hdf : defaultsOf prm X.env = ([], []) := by rfl)
    (bind : ∀ (q : Str) (cl : List (Str × Addr)) (pm cv ct : Value), bindArgs (PySem.W.kla_fn "<lambda>" q prm bd sc cl pm cv ct) ⟨[], []⟩ = pure [] := by intros; rfl)
    (hg : Gl X "_law_said" := by rfl) : Snd g E H0 X false (.Call (.Name "_law_said" p) [.Lambda prm bd sc lp] [] pos) (mSaidW fR R m) := by
  have LS := LamX.lamS_by L
  obtain ⟨rR, hcall, hgo⟩ := RK
  obtain ⟨st, fa, fd, F, hm, kp, hbd, S, mR⟩ := D
  obtain ⟨oc, od, kV, doc, pm, an, cdv, ct, osl, rfl, lkF, hcd⟩ := F.ex
  obtain ⟨wa, wd, y, FW, wm, wk, wb⟩ := W
  obtain ⟨prog, w', K, mg, base, A, N, s_0, H_0, env, outer, stack, ex, fn, calm, pn, xe⟩ := X
  obtain ⟨⟨⟨h1, h2, h3, h4, h5, h6, h7, hfx⟩, h8, h9⟩, h10⟩ := c
  simp only at h1 h2 h5 h6 h7
  subst h1 h2 h5 h6 h7
  refine ⟨fun pins s σ H Q I h => ?_⟩
  obtain ⟨w, σI, B, s0, post⟩ := h
  refine wpAny_Call_Name_kw (ld_glob I hg hm ?_ (by decide))
  refine PySem.W.callWith_K (h₀ := g.base) I.ok.mod.kin kp ?_ (by rfl) (by rfl)
  show wpAny _ _ (spliced ((false, eval (.Lambda prm bd sc lp) env) :: backTo pos (starEach [] env))) _ _ s
  refine Calls.spliced_cons (lam_mkT I lk.tb lk.code lk.mem lk.uni s0.rb.tb hdf (LS.has I.ok) fun f c' pm' ct' H1 s' I1 eN tr T1 hf hfn hfr hco => ?_)
  refine Calls.spliced_nil ⟨I1.kIn, ?_⟩
  have rb1 : RB g w B H1 := ⟨fun b o e => eN b o (s0.rb.sub b o e) (fun ps z => s0.rb.nt b ps (z ▸ e)), fun n b e => by
    obtain ⟨a, o, q1, q2, q3⟩ := s0.rb.get n b e
    exact ⟨a, o, q1, eN a o q2 q3.nt.t, q3⟩, s0.rb.inj, s0.rb.np, s0.rb.dom, T1, s0.rb.nt⟩
  have x1 : Ext w H w H1 := ⟨Le.refl _, fun b o e _ ht => eN b o e ht, fun _ _ h => .inl h, fun _ _ h => .inl h, tr, rfl⟩
  have s1 : S0 g H0 w σI B σ H1 := s0.step x1 rb1
  have post1 : PostE g E w H1 σI σ false Q (mSaidW fR R m σI B) := PostE.ext x1 post
  have rc : codeAny (model g.prog g.w) A (.call (.ref fa) ⟨[.ref f], []⟩) (CR (L2N.CX g.prog g.w) stack g.prog g.w H1 s' Q E0) s' := by
    refine LamX.run_ofS (k := k + 1) (N := ["_law_call", "_law_e"]) (ps := ["_law_call"]) (us := [.ref f]) (vs := [.ref f]) lkF hcd S.sc h8 I1.env0 (hbd s' [.ref f] I1.kIn rfl) (.cons rfl .nil) rfl fun hr' => ?_
    obtain ⟨p1, p2, p3, p4, p5, p6, p7, p8, p9, p10, p11, p12, p13, p14, j, eb⟩ := S.body
    have un' : (A.deeper (envOfC "_law_said" (defScope st) s'.heap.objs.size fa cdv)).units + 100 < cLine := by
      have := hr'.un
      omega
    rw [eb]
    refine ⟨_, pss_one (L2N.ps_try_as (X := cxOf (L2N.CX g.prog g.w) g.prog g.w g.K g.mg g.base ["_law_call", "_law_e"] "_law_said" (defScope st) fa cdv A stack s' H1 E0) (i := 1) (c := .ref (g.cl 10)) (Wout := fun cls d _ H => E0 cls d H)
      (tb := fun W D σZ HZ => ∃ Ech : XK, (∀ cls d σ' H', Ech cls d H' → W cls d σ' H') ∧ σZ[0]? = some (some (.ref f)) ∧ HZ c' = some (LamX.CodeO c' (env.qual ++ "<lambda>")) ∧ tI g Ech H0 false m σ HZ (fun v H' => rR [v] H' D.rt))
      (ts := fun a cls d D σZ HZ => (1 < σZ.length → σZ[1]? = some (some (.ref a))) ∧ ∃ c w B, c ∈ R ∧ cls = .ref (g.cl c) ∧ d = Option.none ∧ RB g w B HZ ∧ ∀ w' H', Ext w HZ w' H' → RB g w' B H' → D.rt (.str (Str.ofString "! " ++ nmE c)) H')
      rfl rfl S.sc.nd rfl S.le ⟨S.gx, by decide, .inl mR⟩ (L2N.takes_of rfl rfl rfl rfl) (fun W pn xe tk po => ?_) (fun a oe cls d pn hz hf2 => ?_)), ?_⟩
    · refine ⟨fun pinsZ sZ σZ HZ D IZ h' => ?_⟩
      obtain ⟨Ech, hW, q1, q2, q3⟩ := h'
      have okT : OkG g Ech (k + 1) ((cxOf (L2N.CX g.prog g.w) g.prog g.w g.K g.mg g.base ["_law_call", "_law_e"] "_law_said" (defScope st) fa cdv A stack s' H1 E0).tr pn xe) :=
        ⟨⟨⟨rfl, rfl, rfl, un', rfl, rfl, rfl, hfx⟩, hr', L2N.passes_call tk hW⟩, h10⟩
      have act := pe_actN (i := 0) (p1 := p2) (p2 := p3) I1 LS hf hfn hfr (bind _ _ _ _ _) tk hW hr' (fun outer s2 H2 hr2 => hb _ outer s2 H2 Ech f c'
        ⟨⟨⟨rfl, rfl, rfl, un_of hr2, rfl, rfl, rfl, hfx⟩, hr2, L2N.passes_call (L2N.takes_of rfl rfl rfl rfl) (fun _ _ _ _ h => h)⟩, h10⟩) rfl (Or.inl S.lc)
      have hq := pss_one (ps_ret (pos := p5) (pe_callB (pos := p4) (p := p1) (hcall _ _ _ okT hkr) S.gr (nbs okT.toOk) bt_repr (pa_cons act pa_nil rfl) (by decide) (by decide) rfl rfl))
      exact hq.run pinsZ sZ σZ HZ D IZ ⟨q1, q2, q3⟩
    · refine ⟨fun pinsZ sZ σZ HZ D IZ h' => ?_⟩
      obtain ⟨hl, c, w2, B2, hc, rfl, rfl, rb2, hq2⟩ := h'
      have hN2 : σZ[1]? = some (some (.ref a)) := hl (by have z := IZ.len; rw [z]; show 1 < 2; decide)
      have okB : OkB g ((cxOf (L2N.CX g.prog g.w) g.prog g.w g.K g.mg g.base ["_law_call", "_law_e"] "_law_said" (defScope st) fa cdv A stack s' H1 E0).suite a ((a, oe) :: pn)) := ⟨rfl, rfl, un', rfl, rfl, rfl, hfx⟩
      have hword := pe_word (i := 1) (v := "_law_e") (q := p8) (pv := p9) (pos := p10) FW okB (by have r := L2H.roomH_of (hr'.mono hkw); exact ⟨r.dp, r.un⟩) rfl List.mem_cons_self hz.2.2 hf2 wm wk wb rfl (Or.inl S.le) S.gw
      have hq := pss_one (ps_ret (pos := p12) (pe_op (pos := p11) op_addA (pe_str (x := Str.ofString "! ") (j := j) (pos := p7)) hword))
      exact hq.run pinsZ sZ σZ HZ D IZ ⟨hN2, c, w2, B2, hc, hz.zc, rb2, fun w3 H3 x3 rb3 => os_add w3 [] B2 [] H3 D.rt _ _ (.str (Str.ofString "! ")) (.str (nmE c)) (E := E) (s0_nil rb3) (.inl (rep_str g w3 _)) (.inl (rep_str g w3 _)) (by
        rw [cat_said]
        intro w4 v H4 x4 rb4 r4
        simp only [RepB, Rep] at r4
        subst r4
        exact hq2 w4 H4 (x3.trans x4) rb4)⟩
    · refine ⟨fun cls d H' => ∃ c w B, c ∈ R ∧ cls = .ref (g.cl c) ∧ d = Option.none ∧ RB g w B H' ∧ ∀ w' H'', Ext w H' w' H'' → RB g w' B H'' → Q (.str (Str.ofString "! " ++ nmE c)) H'', fun cls d σ' H' hE => ?_, rfl, hco, w, σI, B, s1, ?_⟩
      · obtain ⟨c, w2, B2, hc, rfl, rfl, rb2, hq2⟩ := hE
        refine ⟨true, fe.rd c hc, fun _ a na => ⟨fun hl => ?_, c, w2, B2, hc, rfl, rfl, rb2, hq2⟩, fun z => by cases z⟩
        rw [List.length_set] at hl
        rw [List.getElem?_set_self hl]
      · revert post1
        unfold mSaidW
        cases m σI B with
        | ok d B1 => exact fun post1 w2 v H2 x2 rb2 r2 => hgo E H0 w2 σI B1 σ H2 Q v d (s1.step x2 rb2) r2 (PostE.ext x2 post1)
        | exc c x B1 =>
          cases x with
          | some d => exact fun z => z.elim
          | none =>
            intro post1 w2 cls dd H2 x2 rb2 hE
            obtain ⟨e1, e2⟩ := hE
            by_cases hc : R.contains c = true
            · simp only [hc, if_true] at post1
              exact ⟨c, w2, B1, List.contains_iff_mem.mp hc, e1, e2, rb2, fun w3 H3 x3 rb3 => post1 w3 _ H3 (x2.trans x3) rb3 (rep_str g w3 _)⟩
            · simp only [hc] at post1
              exact post1.elim
        | bad => exact fun z => z.elim
  refine wpAny_call (codeAny_mono rc fun r s2 hq => ?_)
  cases r with
  | error e => exact passN pins σ H1 s' e s2 I1 hq
  | ok fl =>
    cases fl with
    | ret u => exact I1.after hq
    | next => exact False.elim hq
    | brk => exact False.elim hq
    | cont => exact False.elim hq
theorem s_said {g : Gs} {E : XK} {H0 : Hp} {X : Cx} {R : List Nat} {kw k : Nat} {k0 P : Addr} {prm : Arguments} {bd : Expr} {sc : Scope} {lp p pos : Pos} {m : Ev} (c : OkG g E (k + 2) X) (D : SaidD g) (W : WordD g R kw) (hkw : kw ≤ k + 1) (fe : FxE g R) (lk : LamK g X k0 P)
    (hb : ∀ (A : Around) (outer : List Env) (s1 : Shared) (H1 : Hp) (E1 : XK) (f c' : Addr), OkG g E1 k (lamN X A outer s1 H1 E1 sc f c') → Snd g E1 H0 (lamN X A outer s1 H1 E1 sc f c') false bd m)
    (L : LamX.lamSB X.env.scope sc = true := by first | rfl | kernel_rfl) (hdf : defaultsOf prm X.env = ([], []) := by rfl)
    (bind : ∀ (q : Str) (cl : List (Str × Addr)) (pm cv ct : Value), bindArgs (PySem.W.kla_fn "<lambda>" q prm bd sc cl pm cv ct) ⟨[], []⟩ = pure [] := by intros; rfl)
    (hg : Gl X "_law_said" := by rfl) : Snd g E H0 X false (.Call (.Name "_law_said" p) [.Lambda prm bd sc lp] [] pos) (mSaid R m) :=
  s_saidW c D W hkw fe (reprK0 g) (Nat.zero_le _) lk hb L hdf bind hg
end Hf

set_option Elab.async false
set_option linter.all false
set_option maxRecDepth 100000
set_option maxHeartbeats 4000000
namespace Hf
open PySem PySem.Spec PyProof.Rows L2

theorem OkG.mono {g : Gs} {E : XK} {lv k : Nat} {X : Cx} (c : OkG g E lv X) (h : k ≤ lv) : OkG g E k X := ⟨⟨c.toOk, c.room.mono h, c.hx⟩, c.gd⟩
theorem s_dct0 {g : Gs} {E : XK} {H0 : Hp} {X : Cx} {pos : Pos} (ok : Ok g X) : Snd g E H0 X false (.Dict [] [] pos) (mC (.dct [] [])) := by
  refine ⟨fun pins s σ H Q I h => ?_⟩
  obtain ⟨w, σI, B, s0, p⟩ := h
  have fr : H s.heap.objs.size = Option.none := I.hok.fresh (Nat.le_refl _)
  refine wpAny_Dict_empty ⟨.ref s.heap.objs.size, _, I.laid (a := s.heap.objs.size) (o := dctO g s.heap.objs.size []) (t' := s.toks) (fun _ _ q => Heap.get?_push_of_some _ q) (Nat.le_refl _) (dct_new ok s.heap I.big), rfl, ?_⟩
  refine p (regW w s.heap.objs.size (dctO g s.heap.objs.size [])) _ _ (Ext.reg s0.rb fr) (s0.rb.reg fr) ?_
  simp only [RepB, Rep]
  exact ⟨_, [], rfl, upd_same, rfl, by simp only [List.map_nil, Reps], by simp only [List.map_nil, Reps]⟩
theorem s_bad {g : Gs} {E : XK} {H0 : Hp} {X : Cx} {e : Expr} : Snd g E H0 X false e (fun _ _ => .bad) := ⟨fun pins s σ H Q I h => by
  obtain ⟨_, _, _, _, p⟩ := h
  exact p.elim⟩
theorem kit_objT {K : PySem.W.Frag} {C : Addr} {b : String} (h : PySem.W.mroIn K C (.type b) = some true) (hm : PySem.W.kitMeta b = true := by decide +kernel) : PySem.W.kitOne K (.ref C) (.type b) = some true := by
  have e : (Value.ref C == Value.type b) = false := beq_eq_false_iff_ne.mpr (fun z => nomatch z)
  unfold PySem.W.kitOne PySem.W.kitCls
  simp only [e, Bool.false_eq_true, if_false, hm, if_true]
  exact h
def ExcN (g : Gs) (n : Nat) (x : Str) : Prop := ExcK g n ∧ g.mg x = some (.ref (g.cl n))
/-! ### a def that holds lambdas -/
theorem def_okL {g : Gs} {x qual : Str} {st : Stmt} {fa : Addr} {fd : FuncData} {N ps : List Str} {n k : Nat} {b : Ms} {k0 P : Addr} (F : L2.Fun g.K x qual st fa fd) (S : FnScope N ps (defScope st)) (hn : ps.length = n) (hN : n ≤ N.length)
    (fx : Fx g) (co : fd.code = .ref k0) (tb : LamX.TabB g.base g.mg k0 P) (mem : (P, (qual ++ ".<locals>.") ++ "<lambda>") ∈ g.tabs) (uni : ∀ p ∈ g.tabs, p.1 = P → p.2 = (qual ++ ".<locals>.") ++ "<lambda>")
    (hb : ∀ (E : XK) (w0 : Wd) (H0 : Hp) (X : Cx), OkG g E k X → LamK g X k0 P → PassesOwn (model X.prog X.w) X.A X.env X.xe → L2N.Takes X (fun cls d _ H => E cls d H) → X.N = N → X.env.scope = defScope st → X.fn = (fun _ => true) → SndB g E w0 H0 X (defBody st) b) :
    FnG g.prog g.w g.K g.mg g.base (L2N.CX g.prog g.w) (k + 1) fa fd ps (spF g (mkFn n N.length b)) := by
  obtain ⟨oc, od, kV, doc, pm, an, cdv, ct, osl, rfl, lk, hcd⟩ := F.ex
  have len : ∀ vs H Q E, spF g (mkFn n N.length b) vs H Q E → vs.length = ps.length := fun vs H Q E h => by
    obtain ⟨w, ds, B, rb, r, p⟩ := h
    unfold mkFn at p
    split at p
    · rename_i e; rw [r.len, e, hn]
    · exact p.elim
  refine ⟨len, fun A outer s H args us vs Q E hg hr e0 hbd r h => ?_⟩
  refine StX.run_bnd lk hcd S hr e0 (G := fun xs H2 => xs = vs ∧ H2 = H) (fun A' Ex Q' hq => hbd _ _ _ _ (hq s H vs us e0 Un.refl rfl (fun _ _ z => z) r (len _ _ _ _ h) ⟨rfl, rfl⟩)) ?_
  rintro s2 H2 xs ⟨rfl, rfl⟩ hr'
  obtain ⟨w, ds, B, rb, r, p⟩ := h
  unfold mkFn at p
  split at p
  · rename_i e
    refine ⟨_, hb E w H2 _ ⟨⟨⟨rfl, rfl, rfl, ?_, rfl, rfl, rfl, fx⟩, hr', ?_⟩, hg⟩ (by exact ⟨tb, co, mem, uni⟩) (passes_of rfl) (L2N.takes_of rfl rfl rfl rfl) rfl rfl rfl, ?_⟩
    · exact un_of hr'
    · exact L2N.passes_call (L2N.takes_of rfl rfl rfl rfl) (fun _ _ _ _ h => h)
    · refine ⟨w, _, B, start_at rb r e hN, Ext.refl _ _, ?_⟩
      revert p
      generalize b _ B = q
      intro p
      cases q with
      | next σI' B' => exact fun w' σ H' _ s x => p w' .non H' x s.rb (rep_none g w')
      | ret d B' => exact fun w' v H' rb x r => p w' v H' x rb r
      | exc c y B' => exact fun w' cls dd H' rb x r => p w' cls dd H' x rb r
      | bad => exact p
  · exact p.elim
/-! ### the end: empty tables stand, the script is laid -/
/-- the heap at the law's call: the tables T, the script -/
def topH (T : List Addr) (sc : Option (Addr × HO)) : Hp := fun b => if b ∈ T then some (.tbl #[]) else match sc with
  | some (a, o) => if b = a then some o else Option.none
  | Option.none => Option.none
theorem topH_T {T : List Addr} {sc : Option (Addr × HO)} {b : Addr} (h : b ∈ T) : topH T sc b = some (.tbl #[]) := if_pos h
theorem topH_cases {T : List Addr} {sc : Option (Addr × HO)} {b : Addr} {o : HO} (h : topH T sc b = some o) : (b ∈ T ∧ o = .tbl #[]) ∨ (b ∉ T ∧ sc = some (b, o)) := by
  unfold topH at h
  by_cases hb : b ∈ T
  · rw [if_pos hb] at h; exact .inl ⟨hb, (Option.some.inj h).symm⟩
  · rw [if_neg hb] at h
    refine .inr ⟨hb, ?_⟩
    split at h
    · rename_i a o'
      by_cases e : b = a
      · subst e; rw [if_pos rfl] at h; cases h; rfl
      · rw [if_neg e] at h; cases h
    · cases h
/-- what the law's def is promised -/
def spLT (g : Gs) (T : List Addr) : Sp := fun vs H Q _ => ∃ (a : Addr) (ns : List Int) (sc : Option (Addr × HO)), vs = [.ref a] ∧ H = topH T sc ∧ (∀ b o, sc = some (b, o) → ∃ ob xs, o = .frz ob (.lst xs)) ∧ (∀ b o, sc = some (b, o) → b ∉ T) ∧ SqL g.K (topH T sc) a (ns.map V.int) ∧ ns.length ≤ 63 ∧ ∀ H', Q (.bl true) H'
theorem top_promiseT {P : Program} {w : World} {K : PySem.W.Frag} {mg : Str → Option Value} {base : Heap} {CX : CXT} {k : Nat} {fa : Addr} {fd : FuncData} {x : Str} {g : Gs} {f : Fn} {T : List Addr} (ht : ∀ p ∈ g.tabs, p.1 ∈ T) (F : FnG P w K mg base CX k fa fd [x] (spF g f))
    (hf : ∀ ns : List Int, ns.length ≤ 63 → ∃ B, f [.scr (ns.map D.int)] [] = .ok (.bool true) B) : FnG P w K mg base CX k fa fd [x] (spLT g T) := by
  have imp : ∀ vs H Q E, spLT g T vs H Q E → spF g f vs H Q E := by
    rintro vs H Q E ⟨a, ns, sc, rfl, rfl, hfz, hnT, hS, hl, hq⟩
    obtain ⟨B, hB⟩ := hf ns hl
    have at_ : ∀ b, topH [] sc b ≠ Option.none → topH [] sc b = topH T sc b := fun b hb => by
      cases q : topH [] sc b with
      | none => exact absurd q hb
      | some o =>
        rcases topH_cases q with ⟨z, _⟩ | ⟨_, z⟩
        · cases z
        · subst z
          unfold topH
          rw [if_neg (hnT _ _ rfl)]
          simp
    refine ⟨{ P := topH [] sc, io := fun _ => Option.none }, [.scr (ns.map D.int)], [], ⟨fun b o e => ?_, fun n b e => by simp at e, fun _ _ _ e => (nomatch e), fun _ _ e => (nomatch e), fun _ _ e => (nomatch e), fun p hp => LamX.TabS.nil (topH_T (ht p hp)), fun b ps e => ?_⟩, ?_, ?_⟩
    · have e : topH [] sc b = some o := e
      rw [← at_ b (by rw [e]; simp)]; exact e
    · rcases topH_cases (show topH [] sc b = some (.tbl ps) from e) with ⟨z, _⟩ | ⟨_, z⟩
      · cases z
      · obtain ⟨_, _, z2⟩ := hfz _ _ z
        cases z2
    · simp only [Reps, Rep]
      refine ⟨_, _, rfl, ⟨a, ns.map V.int, rfl, ?_, reps_ints g _ ns⟩, rfl⟩
      have low : ∀ o, topH T sc a = some o → (∀ ps, o ≠ .tbl ps) → topH [] sc a = some o := fun o e n => by
        rcases topH_cases e with ⟨_, z⟩ | ⟨_, z⟩
        · exact absurd z (n _)
        · subst z; unfold topH; simp
      rcases hS with (h | ⟨o, h⟩) | h
      · exact .inl (.inl (low _ h fun ps z => by cases z))
      · exact .inl (.inr ⟨o, low _ h fun ps z => by cases z⟩)
      · exact .inr h
    · rw [hB]
      intro w' v H' _ _ r
      simp only [Rep] at r
      subst r
      exact hq H'
  exact ⟨fun vs H Q E h => F.len vs H Q E (imp _ _ _ _ h), fun A outer s H args us vs Q E hg hr e0 hb r h => F.run A outer s H args us vs Q E hg hr e0 hb r (imp _ _ _ _ h)⟩
/-- the call of the law -/
theorem law_callT {P : Program} {w : World} {K : PySem.W.Frag} {mg mb : Str → Option Value} {CX : CXT} {k : Nat} {fa a : Addr} {cs : List (Addr × Addr)} {fd : FuncData} {x : Str} {s₁ : Shared} {vs : List Value} {ns : List Int}
    (KX : K.In s₁.heap) (gn : s₁.heap.Ns mainGlobals mg) (bn : s₁.heap.Ns builtinsNs mb) (bb : ∀ x : Str, x ≠ "__name__" → mb x = bootBuiltins x) (lm : s₁.heap.NoLimit) (g0 : s₁.gens = #[])
    (tE : ∀ p ∈ cs, s₁.heap.get? p.2 = some { cls := .none, data := .fields #[] }) (tK : ∀ p ∈ cs, K.lookup p.2 = Option.none) (tC : ∀ p ∈ cs, PySem.W.CodeHd s₁.heap p.1 p.2)
    (mod : ∃ (bm : Addr) (ob : Obj), mg "__builtins__" = some (.ref bm) ∧ bm ≠ builtinsNs ∧ s₁.heap.get? bm = some ob ∧ ob.cls = .type "module" ∧ ob.dict = some builtinsNs ∧ ob.data = .plain)
    (ha : s₁.heap.get? a = some { cls := .type "list", data := .seq vs.toArray }) (hi : IntsAre vs ns) (hl : ns.length ≤ 63) (hr : Room k callerA)
    (F : ∀ base : Heap, K.In base → base.Ns mainGlobals mg → (∀ p ∈ cs, LamX.TabB base mg p.1 p.2) → ∃ g : Gs, g.K = K ∧ FnG P w K mg base CX k fa fd [x] (spLT g (cs.map (·.2)))) (hbind : ∀ (s : Shared) (uu : Value), BindsTo s fd ⟨[uu], []⟩ [(x, uu)])
    (hCX : ∀ H e s', CX [] H s₁ (fun _ _ _ => False) e s' → False) :
    codeAny (model P w) callerA (.call (.ref fa) ⟨[.ref a], []⟩) (fun r s' => r = .ok (.ret (.bool true)) ∧ OldK s₁.heap s'.heap ∧ s'.os = s₁.os ∧ AllBare s'.gens) s₁ := by
  have rvs := vals_ints hi
  have lenVs := hi.length
  have l63 : ns.length ≤ sizeLine := Nat.le_trans hl (by decide)
  have tAt : ∀ b ∈ cs.map (·.2), s₁.heap.get? b = some { cls := .none, data := .fields #[] } := fun b hb => by
    obtain ⟨p, hp, rfl⟩ := List.mem_map.mp hb
    exact tE p hp
  have tLk : ∀ b ∈ cs.map (·.2), K.lookup b = Option.none := fun b hb => by
    obtain ⟨p, hp, rfl⟩ := List.mem_map.mp hb
    exact tK p hp
  have aT : a ∉ cs.map (·.2) := fun z => by
    have q := (tAt a z).symm.trans ha
    cases q
  -- the script is tracked, or one of the module's own
  obtain ⟨sc, hsc, hsq, hfz⟩ : ∃ sc : Option (Addr × HO), (∀ b o, sc = some (b, o) → b = a ∧ K.lookup a = Option.none ∧ ObjOk P w (topH (cs.map (·.2)) sc) s₁.heap a o) ∧ SqL K (topH (cs.map (·.2)) sc) a (ns.map V.int) ∧ (∀ b o, sc = some (b, o) → ∃ ob xs, o = .frz ob (.lst xs)) := by
    cases hk : K.lookup a with
    | some o =>
      have e := KX a o hk
      rw [ha] at e
      cases e
      exact ⟨Option.none, fun b o e => (nomatch e), .inr ⟨_, vs.toArray, _, hk, rfl, rfl, rfl, by rw [List.size_toArray, lenVs]; exact l63, by simpa using rvs⟩, fun b o e => (nomatch e)⟩
    | none =>
      refine ⟨some (a, .frz { cls := .type "list", data := .seq vs.toArray } (.lst (ns.map V.int))), fun b o e => ?_, .inl (.inr ⟨{ cls := .type "list", data := .seq vs.toArray }, ?_⟩), fun b o e => ?_⟩
      · cases e
        exact ⟨rfl, rfl, ha, by rw [List.length_map]; exact l63, vs, _, rvs, ha⟩
      · unfold topH; rw [if_neg aT]; simp
      · cases e; exact ⟨_, _, rfl⟩
  have hid : ∀ {b : Addr} {o : Obj}, s₁.heap.get? b = some o → o.data ≠ .fields #[] → (∀ us j, o.data ≠ .seq us j) → topH (cs.map (·.2)) sc b = Option.none := fun {b o} e n1 n2 => by
    cases q : topH (cs.map (·.2)) sc b with
    | none => rfl
    | some u =>
      rcases topH_cases q with ⟨z, _⟩ | ⟨_, z⟩
      · rw [tAt b z] at e; cases e; exact absurd rfl n1
      · obtain ⟨rfl, _⟩ := hsc _ _ z
        rw [ha] at e; cases e; exact absurd rfl (n2 _ _)
  have inB : ∀ {b : Addr} {o : Obj}, s₁.heap.get? b = some o → topH (cs.map (·.2)) sc b = Option.none → (hidT s₁.heap (topH (cs.map (·.2)) sc)).get? b = some o := fun e n => hidT_get e n
  have nsB : ∀ {b : Addr} {m : Str → Option Value}, s₁.heap.Ns b m → (hidT s₁.heap (topH (cs.map (·.2)) sc)).Ns b m := fun {b m} ⟨o, es, ep, e, d, r⟩ => ⟨o, es, ep, inB e (hid e (by rw [d]; exact fun z => (nomatch z)) (by rw [d]; exact fun us j z => (nomatch z))), d, r⟩
  have KB : K.In (hidT s₁.heap (topH (cs.map (·.2)) sc)) := fun b o e => inB (KX b o e) (by
    cases q : topH (cs.map (·.2)) sc b with
    | none => rfl
    | some u =>
      rcases topH_cases q with ⟨z, _⟩ | ⟨_, z⟩
      · rw [tLk b z] at e; cases e
      · obtain ⟨rfl, z2, _⟩ := hsc _ _ z
        rw [z2] at e; cases e)
  have MB : Mod K mg (hidT s₁.heap (topH (cs.map (·.2)) sc)) := ⟨KB, nsB gn, ⟨mb, nsB bn, bb⟩, let ⟨mc, h1, h2⟩ := lm; ⟨mc, nsB h1, h2⟩⟩
  have TB : ∀ p ∈ cs, LamX.TabB (hidT s₁.heap (topH (cs.map (·.2)) sc)) mg p.1 p.2 := fun p hp => by
    refine ⟨?_, ?_, fun z => ?_⟩
    · obtain ⟨o, us, fl, tf, fg, tg, inF, tx, tt, e1, r1, r2, r3, r⟩ := tC p hp
      refine ⟨o, us, fl, tf, fg, tg, inF, tx, tt, inB e1 (hid e1 (fun z => ?_) fun u j z => ?_), r1, r2, r3, r⟩
      · rw [r2] at z; cases z; simp at r3
      · rw [r2] at z; cases z
    · obtain ⟨bm, ob, b1, b2, b3, b4, b5, b6⟩ := mod
      refine ⟨bm, ob, b1, b2, fun q => ?_, fun q => ?_, inB b3 (hid b3 (by rw [b6]; exact fun z => (nomatch z)) (by rw [b6]; exact fun u j z => (nomatch z))), b4, b5, b6⟩
      · obtain ⟨o, es, ep, e, hd, _⟩ := gn
        rw [q, e] at b3; cases b3; rw [hd] at b6; cases b6
      · rw [q, tE p hp] at b3; cases b3; cases b6
    · obtain ⟨o, es, ep, e, hd, _⟩ := gn
      rw [z, tE p hp] at e; cases e; cases hd
  have hHO : HOk P w (topH (cs.map (·.2)) sc) s₁.heap := fun b u e => by
    rcases topH_cases e with ⟨z, rfl⟩ | ⟨_, z⟩
    · exact tAt b z
    · obtain ⟨rfl, _, r⟩ := hsc _ _ z
      exact r
  have env1 : Env0 P w K mg (hidT s₁.heap (topH (cs.map (·.2)) sc)) callerA [] s₁ (topH (cs.map (·.2)) sc) := ⟨rfl, MB, fun b o e => of_hidT e, Nat.le_of_eq (hidT_size _ _), trivial, fun b hb => absurd (show b ∈ ([] : List Addr) from hb) (by simp), hHO, .of_eq g0⟩
  obtain ⟨g, gK, hF⟩ := F _ KB (nsB gn) TB
  refine codeAny_mono (hF.run callerA [] s₁ _ ⟨[.ref a], []⟩ [.ref a] [.ref a] (fun v _ => v = .bl true) (fun _ _ _ => False) rfl hr env1 (hbind s₁ (.ref a)) (.cons rfl .nil) ⟨a, ns, sc, rfl, rfl, hfz, fun b o z => by obtain ⟨rfl, _⟩ := hsc _ _ z; exact aT, gK ▸ hsq, hl, fun _ => rfl⟩) fun r s' h => ?_
  cases r with
  | error e => exact (hCX _ e s' h).elim
  | ok fl =>
    cases fl with
    | next => exact False.elim h
    | brk => exact False.elim h
    | cont => exact False.elim h
    | ret uu =>
      obtain ⟨v, H', os, bar, unn, hHO', rr', qq⟩ := h
      have qq' : v = .bl true := qq
      subst qq'
      obtain rfl : uu = Value.bool true := rr'
      have gr : ∀ p ∈ cs, ∃ mo : Array Value, s'.heap.get? p.2 = some { cls := .none, data := .fields mo } := fun p hp => by
        obtain ⟨mo, z⟩ := unn.tbls p.2 #[] (topH_T (List.mem_map.mpr ⟨p, hp, rfl⟩))
        exact ⟨_, hHO' p.2 _ z⟩
      have stay : ∀ b o, b ∉ cs.map (·.2) → s₁.heap.get? b = some o → s'.heap.get? b = some o := fun b o nb e => by
        cases q : topH (cs.map (·.2)) sc b with
        | none => exact unn.keep b o e q (by intro zz; exact absurd (show b ∈ ([] : List Addr) from zz) (by simp)) (by simp)
        | some u =>
          rcases topH_cases q with ⟨z, _⟩ | ⟨_, z⟩
          · exact absurd z nb
          · obtain ⟨ob, xs, rfl⟩ := hfz _ _ z
            have z2 := unn.frzs b ob _ q
            obtain ⟨ee1, _⟩ := hHO b _ q
            obtain ⟨ee2, _⟩ := hHO' b _ z2
            rw [e] at ee1; cases ee1
            exact ee2
      refine ⟨rfl, ⟨fun b o e => ?_, fun b o e => ?_⟩, os, bar⟩
      · by_cases hb : b ∈ cs.map (·.2)
        · obtain ⟨p, hp, rfl⟩ := List.mem_map.mp hb
          obtain ⟨mo, hm⟩ := gr p hp
          rw [tE p hp] at e; cases e
          exact .inr (.inl ⟨((tC p hp).tab (tE p hp)).isCodeTable, rfl, #[], mo, rfl, by rw [Array.empty_append]; exact hm⟩)
        · exact .inl (stay b o hb e)
      · by_cases hb : b ∈ cs.map (·.2)
        · obtain ⟨p, hp, rfl⟩ := List.mem_map.mp hb
          obtain ⟨mo, hm⟩ := gr p hp
          exact ⟨_, hm⟩
        · exact ⟨o, stay b o hb e⟩
/-- the end: nms, the defs that hold lambdas -/
theorem walkT {l : PySem.W.OpenLaw} {k : Nat} {q : Program} {loose : List Str} {XP : (Str → Option Value) → Heap → Prop} {YP : World → Heap → Prop} {d : DefRec} {K : Params → PySem.W.Frag} {CX : World → CXT} {x : Str} (nms : List Str)
    (hn : l.most = some 63) (hdf : d.params.defaults = []) (hr : Room k callerA) (hrec : ∀ y ∈ nms, ((recsOf q).any fun e => e.name == y) = true) (hY : ∀ (w : World) (h : Heap), YP w h → (K w.params).In h)
    (F : ∀ (w : World) (mg : Str → Option Value) (fa : Addr) (h : Heap), (K w.params).In h → h.Ns mainGlobals mg → mg d.name = some (.ref fa) → (∀ y ∈ nms, ∀ fy, mg y = some (.ref fy) → LamX.OwnTab (K w.params) fy h) →
      ∃ (fd : FuncData) (cs : List (Addr × Addr)), (∀ p ∈ cs, h.get? p.2 = some { cls := .none, data := .fields #[] }) ∧ (∀ p ∈ cs, (K w.params).lookup p.2 = Option.none) ∧ (∀ p ∈ cs, PySem.W.CodeHd h p.1 p.2) ∧ (∀ (s : Shared) (u : Value), BindsTo s fd ⟨[u], []⟩ [(x, u)]) ∧
        ∀ base : Heap, (K w.params).In base → base.Ns mainGlobals mg → (∀ p ∈ cs, LamX.TabB base mg p.1 p.2) → ∃ g : Gs, g.K = K w.params ∧ FnG l.prog w (K w.params) mg base (CX w) k fa fd [x] (spLT g (cs.map (·.2))))
    (hCX : ∀ (w : World) (H : Hp) (s : Shared) (e : Value) (s' : Shared), CX w [] H s (fun _ _ _ => False) e s' → False) : PySem.W.WalkO q loose XP YP l.row.toRowW d [] (fun f vs => PySem.call f vs) := by
  refine Att.attach_callB hn hdf fun w s₀ s₁ mg mb fa o pm cd doc a vs ns G Y ho hd hcd hmg hobj hints hlen hbits hg => ?_
  have KX := hY w _ Y
  have own : ∀ y ∈ nms, ∀ fy, mg y = some (.ref fy) → LamX.OwnTab (K w.params) fy s₁.heap := fun y hy fy hfy c P o1 fd1 e dd us sl k1 k2 k3 k4 k5 => by
    obtain ⟨dL, hm, hn1⟩ := List.any_eq_true.mp (hrec y hy)
    have ey : dL.name = y := beq_iff_eq.mp hn1
    obtain ⟨a', o', fd', c', P', h1, h2, h3, h4, h5, ⟨oc, vc, e1, _, e3, e4⟩, hP⟩ := G.T.tab dL hm
    rw [ey, hfy] at h1; cases h1
    rw [KX _ _ k1] at h2; cases h2
    rw [k2] at h3; cases h3
    rw [k3] at h4; cases h4
    rw [KX _ _ k4] at e1; cases e1
    cases e3
    rw [k5] at e4; cases e4
    exact hP
  obtain ⟨fd, cs, t1, t2, t3, hb, hF⟩ := F w mg fa _ KX G.T.g hmg own
  exact law_callT KX G.T.g G.T.b G.T.builtins G.T.nolimit hg t1 t2 t3 G.T.bmain hobj hints hlen hr hF hb fun H e s' => hCX w H s₁ e s'
end Hf

set_option Elab.async false
set_option linter.all false
set_option maxRecDepth 100000
set_option maxHeartbeats 4000000
namespace Hf
open PySem PySem.Spec PyProof.Rows L2
theorem fRepr_ok {d : D} (h : reprOk d = true) (B : Bs) : fRepr d B = .ok (.str (toPy d).shown) B := by
  cases d <;> first
    | (unfold fRepr; simp only [h, if_true]; done)
    | (exfalso; unfold reprOk at h; simp only [Bool.false_and] at h; cases h)
@[simp] theorem z_mRaise (c : Nat) (σ : Sl) (B : Bs) : mRaise c σ B = .exc c Option.none B := (rfl)
@[simp] theorem z_fReprI (i : Int) (B : Bs) : fRepr (.int i) B = if decide (i.natAbs.log2 < 1920) then .ok (.str (PyData.shown (.int i))) B else .bad := (rfl)
@[simp] theorem z_fReprB (b : Bool) (B : Bs) : fRepr (.bool b) B = .ok (.str (PyData.shown (.bool b))) B := (rfl)
@[simp] theorem z_fReprN (B : Bs) : fRepr .none B = .ok (.str (PyData.shown .none)) B := (rfl)
@[simp] theorem z_fReprE (B : Bs) : fRepr (.dct [] []) B = .ok (.str (PyData.shown (.dict []))) B := (rfl)
@[simp] theorem z_fin_exc (c : Nat) (x : Option D) (B : Bs) : (Ss.exc c x B).fin = .exc c x B := (rfl)
@[simp] theorem z_bind_exc {α β : Type} (c : Nat) (x : Option D) (B : Bs) (f : α → Bs → Rs β) : (Rs.exc c x B : Rs α).bind f = .exc c x B := (rfl)
@[simp] theorem z_st_exc {α : Type} (c : Nat) (x : Option D) (B : Bs) (f : α → Bs → Ss) : (Rs.exc c x B : Rs α).st f = .exc c x B := (rfl)
@[simp] theorem z_seq_exc (c : Nat) (x : Option D) (B : Bs) (k : Ms) : (Ss.exc c x B).seq k = .exc c x B := (rfl)
theorem mSaid_ok {R : List Nat} {m : Ev} {σ : Sl} {B B1 : Bs} {d : D} (h : m σ B = .ok d B1) : mSaid R m σ B = fRepr d B1 := by
  unfold mSaid mSaidW; rw [h]
theorem mSaid_exc {R : List Nat} {m : Ev} {σ : Sl} {B B1 : Bs} {c : Nat} (h : m σ B = .exc c Option.none B1) (hc : R.contains c = true) : mSaid R m σ B = .ok (.str (Str.ofString "! " ++ nmE c)) B1 := by
  unfold mSaid mSaidW; rw [h]; simp only [hc, if_true]
end Hf

set_option Elab.async false
set_option linter.all false
set_option maxRecDepth 100000
set_option maxHeartbeats 4000000
namespace Hf
open PySem PySem.Spec PyProof.Rows L2

/-! ### f-strings -/
def fFmt : D → Bs → Rs D
  | .str y, B => if y.length ≤ sizeLine then .ok (.str y) B else .bad
  | .int i, B => if decide (i.natAbs.log2 < 1920) then .ok (.str (toString i)) B else .bad
  | _, _ => .bad
def jsL (σ : Sl) : List Ev → Str → Bs → Rs Str
  | [], acc, B => .ok acc B
  | m :: ms, acc, B => (m σ B).bind fun d B1 => match d with
    | .str y => if (acc ++ y).length ≤ sizeLine then jsL σ ms (acc ++ y) B1 else .bad
    | _ => .bad
def mJs (ms : List Ev) : Ev := fun σ B => (jsL σ ms Str.empty B).bind fun y B1 => .ok (.str y) B1
theorem Rs.bind2 {α β γ : Type} (r : Rs α) (f : α → Bs → Rs β) (k : β → Bs → Rs γ) : (r.bind f).bind k = r.bind fun a B => (f a B).bind k := by cases r <;> rfl
section
variable {g : Gs} {E : XK} {w0 w : Wd} {H0 H : Hp} {X : Cx} {e : Expr} {es : List Expr} {m : Ev} {pos p1 : Pos} {lv k c : Nat} {f : Fn} {σI : Sl} {σ : L2.St} {B : Bs} {Q : VK} {b1 : Bool}
theorem s_fmt (he : Snd g E H0 X b1 e m) : Snd g E H0 X false (.FormattedValue e (-1) none pos) (m1 fFmt m) := by
  refine weak (pe_fmt he) ?_
  rintro σ H Q ⟨w, σI, B, s, p⟩
  refine tI_bind s p fun d B1 w1 v H1 x1 s1 r1 p1 => ?_
  unfold fFmt at p1
  split at p1
  · rename_i y
    split at p1
    · rename_i h
      exact .inl ⟨y, r1.up.str s1, h, p1.nowR s1 (rep_str g w1 _)⟩
    · exact p1.elim
  · rename_i i
    split at p1
    · rename_i h
      exact .inr ⟨i, r1.up.int s1, of_decide_eq_true h, p1.nowR s1 (rep_str g w1 _)⟩
    · exact p1.elim
  · exact p1.elim
/-- the parts of an f-string -/
inductive SndJ (g : Gs) (E : XK) (H0 : Hp) (X : Cx) : List Expr → List Ev → Prop
  | nil : SndJ g E H0 X [] []
  | cons {e : Expr} {m : Ev} {es : List Expr} {ms : List Ev} (h : Snd g E H0 X false e m) (r : SndJ g E H0 X es ms) : SndJ g E H0 X (e :: es) (m :: ms)
theorem SndJ.pj {ms : List Ev} (h : SndJ g E H0 X es ms) : PJ X es (ms.map (tI g E H0 false)) := by
  induction h with
  | nil => exact .nil
  | cons h r ih => exact .cons h ih
theorem js_go : ∀ (ms : List Ev) (acc : Str) (w : Wd) (B : Bs) (H : Hp), S0 g H0 w σI B σ H → PostE g E w H σI σ false Q ((jsL σI ms acc B).bind fun y B1 => .ok (.str y) B1) → tJs (ms.map (tI g E H0 false)) acc σ H fun out H1 => Q (.str out) H1
  | [], acc, w, B, H, s, p => p w (.str acc) H (Ext.refl _ _) s.rb (rep_str g w acc)
  | m :: ms, acc, w, B, H, s, p => by
    have p' : PostE g E w H σI σ false Q ((m σI B).bind fun d B1 => (match d with
      | .str y => if (acc ++ y).length ≤ sizeLine then jsL σI ms (acc ++ y) B1 else .bad
      | _ => .bad : Rs Str).bind fun y B1 => .ok (.str y) B1) := by
      rw [← Rs.bind2]; exact p
    show tI g E H0 false m σ H _
    refine tI_bind s p' fun d B1 w1 v H1 x1 s1 r1 p1 => ?_
    split at p1
    · rename_i y
      split at p1
      · rename_i h
        exact ⟨y, r1.up.str s1, h, js_go ms (acc ++ y) w1 B1 H1 s1 p1⟩
      · exact p1.elim
    · exact p1.elim
theorem s_js {v1 v2 : Expr} {rest : List Expr} {ms : List Ev} (h : SndJ g E H0 X (v1 :: v2 :: rest) ms) : Snd g E H0 X false (.JoinedStr (v1 :: v2 :: rest) pos) (mJs ms) := by
  refine weak (pe_joined h.pj) ?_
  rintro σ H Q ⟨w, σI, B, s, p⟩
  exact js_go ms Str.empty w B H s p
/-! ### repr(x), also of an own instance -/
def strOnly (r : Rs D) : Rs D := match r with
  | .ok (.str z) B => .ok (.str z) B
  | _ => .bad
/-- repr: the classes with an own __repr__ -/
def fReprO (fs : List (Nat × Fn)) : D → Bs → Rs D
  | .inst c ds, B => match fs.lookup c with
    | some f => strOnly (f [.inst c ds] B)
    | Option.none => .bad
  | d, B => fRepr d B
def rReprC (g : Gs) (c : Nat) (f : Fn) : List V → Hp → VK → Prop := fun xs H Q => ∃ a dx fs, xs = [.ref a] ∧ H a = some (.ins (g.cl c) dx fs) ∧ spF g f [.ref a] H (fun v H' => ∃ z, v = .str z ∧ Q (.str z) H') E0
theorem call_reprC (ok : OkC g E lv X) (N : Dun g k c "__repr__" f) (hk : k + 1 ≤ lv) : CallR X (.builtin "repr") (rReprC g c f) := by
  intro pins s σ H xs us Q I r h
  obtain ⟨a, dx, fs, rfl, ha, h⟩ := h
  obtain ⟨u, rfl, ru⟩ := vals1 r
  cases ru
  obtain ⟨fa, F, hf, hfn, hc⟩ := N
  obtain ⟨prog, w', K, mg, base, A, N, s_0, H_0, env, outer, stack, ex, fn, calm, pn, xe⟩ := X
  obtain ⟨⟨h1, h2, h3, h4, h5, h6, h7, hfx⟩, h8, h9⟩ := ok
  simp only at h1 h2 h4 h5 h6 h7
  subst h1 h2 h5 h6 h7
  obtain ⟨od, J⟩ := inst_at I ha
  have hr := (h8.mono hk).in1
  have hu : A.in1.units < cLine := by
    have z : A.in1.units + 16 * k + 200 < cLine := hr.un
    omega
  refine Calls.call_function_entry PySem.F.kind_repr PySem.F.plain_repr PySem.F.entry_repr (PySem.F.args_repr1 _) ?_
  unfold Builtin.«repr»
  refine wpAny_bind (m := oneArg "repr" _) (wpAny_pure ?_)
  refine wpAny_bind (wpAny_cRoomFor hu ?_)
  refine wpAny_bind (wpAny_bind (J.type.here ((PySem.W.looks_findIn I.kIn hf).here ?_)))
  show wpAny _ _ (if (some (Value.ref fa)).isNone = true then _ else _) _ _ _
  rw [if_neg (by simp)]
  refine wpAny_bind (m := callSpecialIfBound? (.ref a) (Str.ofString "__repr__") _) (PySem.W.ifBound_K I.kIn J hf hfn (wpAny_mono (run_nox (E' := _) (us := [.ref a]) (vs := [.ref a]) F hr I.env0.in1 I (.cons rfl .nil) h) (fun r s' hr => ?_) fun _ _ y => y))
  obtain ⟨v, H', I', rv, z, rfl, q⟩ := hr
  obtain ⟨t, rfl⟩ := rv
  refine wpAny_bind (wpAny_isInstance (typeIs_str _ _ _) isSubtype_str_str ?_)
  first
    | exact wpAny_pure ⟨_, rfl, .str z, H', I', ⟨_, rfl⟩, q⟩
    | exact wpAny_pure ⟨.str z, H', I', ⟨_, rfl⟩, q⟩
    | (rw [if_pos rfl]; exact wpAny_pure ⟨.str z, H', I', ⟨_, rfl⟩, q⟩)
    | (simp only [if_true]; exact wpAny_pure ⟨_, rfl, .str z, H', I', ⟨_, rfl⟩, q⟩)
theorem strOnly_go {r : Rs D} (p : PostE g E w H σI σ false Q (strOnly r)) : PostC g E0 w H (fun v H' => ∃ z, v = .str z ∧ Q (.str z) H') r := by
  unfold strOnly at p
  split at p
  · rename_i z B
    intro w' v H' x rb rr
    simp only [Rep] at rr
    exact ⟨z, rr, p w' (.str z) H' x rb (rep_str g w' z)⟩
  · exact p.elim
end
theorem reprK1 {g : Gs} {k c : Nat} {f : Fn} (N : Dun g k c "__repr__" f) : ReprK g (fReprO [(c, f)]) (k + 1) := by
  refine ⟨fun xs H Q => rReprC g c f xs H Q ∨ rReprG g xs H Q, fun E lv X ok hk => callR_or (call_reprC ok.toOkC N hk) (call_reprG ok), fun E H0 w σI B σ H Q x d s r p => ?_⟩
  unfold fReprO at p
  split at p
  · rename_i c' ds
    split at p
    · rename_i f' hl
      have hc : c' = c ∧ f' = f := by
        simp only [List.lookup_cons, List.lookup_nil] at hl
        split at hl
        · rename_i e
          exact ⟨by simpa using e, (Option.some.inj hl).symm⟩
        · cases hl
      obtain ⟨rfl, rfl⟩ := hc
      obtain ⟨a, dx, vs, rfl, ha, hl, hh, rr⟩ := (RepO.inst s (.inl r) : _)
      exact .inl ⟨a, dx, _, rfl, ha, w, _, B, s.rb, Reps.one r, strOnly_go p⟩
    · exact p.elim
  · exact .inr (repr_go s (.inl r) p)
theorem q_reprO {g : Gs} {E : XK} {H0 : Hp} {X : Cx} {fR : D → Bs → Rs D} {kr lv : Nat} {e : Expr} {m : Ev} {pos p1 : Pos} (RK : ReprK g fR kr) (c : OkG g E lv X) (hk : kr ≤ lv) (he : Snd g E H0 X false e m) (hg : Gl X "repr" := by rfl)
    (h1 : starEach (e :: []) X.env = (false, eval e X.env) :: starEach [] X.env := by rfl) : Snd g E H0 X false (.Call (.Name "repr" p1) [e] [] pos) (m1 fR m) := by
  obtain ⟨rR, hcall, hgo⟩ := RK
  refine weak (pe_callB (hcall _ _ _ c hk) hg (nbs c.toOk) bt_repr (pa_cons he pa_nil h1) (by decide) (by decide) h1 rfl) ?_
  rintro σ H Q ⟨w, σI, B, s, p⟩
  exact tI_bind s p fun d B1 w1 v H1 x1 s1 r1 p1 => hgo _ _ _ _ _ _ _ _ _ _ s1 r1 p1
/-- a def of which nothing is known yet -/
theorem bad_fn {g : Gs} {k : Nat} {fa : Addr} {fd : FuncData} {ps : List Str} : FnOk g.prog g.w g.K g.mg g.base (L2N.CX g.prog g.w) k fa fd ps (spF g fun _ _ => .bad) := ⟨fun vs H Q E h => by
  obtain ⟨_, _, _, _, _, p⟩ := h
  exact p.elim, fun A outer s H args us vs Q E _ _ _ _ h => by
  obtain ⟨_, _, _, _, _, p⟩ := h
  exact p.elim⟩
end Hf

set_option Elab.async false
set_option linter.all false
set_option maxRecDepth 100000
set_option maxHeartbeats 4000000
namespace Hf
open PySem PySem.Spec PyProof.Rows L2
section
variable {g : Gs} {E : XK} {H0 : Hp} {X : Cx} {a b : Expr} {ma mb : Ev} {pos p p2 p3 : Pos} {b1 b2 : Bool}
/-- list(range(a, b)) -/
theorem f_lstRg2 (ok : Ok g X) (ha : Snd g E H0 X b1 a ma) (hb : Snd g E H0 X b2 b mb) (hg : Gl X "list" := by rfl) (hg2 : Gl X "range" := by rfl) (na : starEach [a, b] X.env = (false, eval a X.env) :: starEach [b] X.env := by rfl)
    (nb : starEach [b] X.env = (false, eval b X.env) :: starEach [] X.env := by rfl) (hp : (backTo p3 (starEach [b] X.env)).any (·.1) = false := by rfl)
    (nc : starEach [.Call (.Name "range" p2) [a, b] [] p3] X.env = (false, eval (.Call (.Name "range" p2) [a, b] [] p3) X.env) :: starEach [] X.env := by rfl) :
    SndF g E H0 X (.Call (.Name "list" p) [.Call (.Name "range" p2) [a, b] [] p3] [] pos) (mBin (fRg2 D.lst) ma mb) := by
  refine weak (pe_listRg ok.calm hg (nbs ok) (prg_2 hg2 (nbs ok) ha hb na nb hp) nc) ?_
  rintro σ H Q ⟨w, σI, B, s, p⟩
  refine tI_bindF s p fun d B1 w1 v H1 x1 s1 r1 p1 => ?_
  refine tI_bindF s1 p1 fun d2 B2 w2 v2 H2 x2 s2 r2 p2 => ?_
  unfold fRg2 at p2
  split at p2
  · split at p2
    · rename_i i j hb
      exact ⟨i, j, (r1.up.mono x2.le).int s2, r2.up.int s2, rgOk_ok hb, fun q hq => p2.newL s2 (reps_rg g w2 i (j - i).toNat) hq⟩
    · exact p2.elim
  · exact p2.elim
/-- a + b of lists: a new one -/
def fAddL : D → D → Bs → Rs D
  | .lst a, .lst b, B => if a.length + b.length ≤ sizeLine then .ok (.lst (a ++ b)) B else .bad
  | _, _, _ => .bad
theorem f_addL (ha : Snd g E H0 X b1 a ma) (hb : Snd g E H0 X b2 b mb) : SndF g E H0 X (.BinOp a .Add b pos) (mBin fAddL ma mb) := by
  refine weak (pe_op op_cat ha hb) ?_
  rintro σ H Q ⟨w, σI, B, s, p⟩
  refine tI_bindF s p fun d B1 w1 v H1 x1 s1 r1 p1 => ?_
  refine tI_bindF s1 p1 fun d2 B2 w2 v2 H2 x2 s2 r2 p2 => ?_
  unfold fAddL at p2
  split at p2
  · split at p2
    · rename_i ds es h
      obtain ⟨a, vs, rfl, q1, r⟩ := (r1.up.mono x2.le).lst s2
      obtain ⟨b, us, rfl, q2, r'⟩ := r2.up.lst s2
      exact ⟨a, b, vs, us, rfl, rfl, q1, q2, by rw [r.len, r'.len]; exact h, fun q hq => p2.newL s2 (r.app r') hq⟩
    · exact p2.elim
  · exact p2.elim
variable {lv k c : Nat} {x : Str} {f : Fn}
/-- C() -/
theorem s_make0 (ok : OkC g E lv X) (N : Ini g k c f) (C : ClsN g c x) (hk : k + 1 ≤ lv) (hg : Gl X x := by rfl) (hdb : (x == ("__debug__" : Str)) = false := by decide) : Snd g E H0 X false (.Call (.Name x p) [] [] pos) (mMake f mNil) := by
  obtain ⟨fI, M, F, hc⟩ := N
  obtain ⟨prog, w', K, mg, base, A, N, s_0, H_0, env, outer, stack, ex, fn, calm, pn, xe⟩ := X
  obtain ⟨⟨h1, h2, h3, h4, h5, h6, h7, hfx⟩, h8, h9⟩ := ok
  simp only at h1 h2 h5 h6 h7
  subst h1 h2 h5 h6 h7
  refine ⟨fun pins s σ H Q I h => ?_⟩
  obtain ⟨w, σI, B, s0, p⟩ := h
  refine wpAny_Call_Name_kw (ld_glob I hg C.mg ?_ hdb)
  exact PySem.W.callWith_K0 I.kIn M.kp (StX.run_makeR (us := []) (vs := []) M F (h8.mono hk) h9 I .nil (make_go s0.rb (ds := []) (by simp only [Reps]) (PostC.of s0 p)))
end
end Hf

set_option Elab.async false
set_option linter.all false
set_option maxRecDepth 100000
set_option maxHeartbeats 4000000
namespace Hf
open PySem PySem.Spec PyProof.Rows L2
/-! ### data with empty dicts inside, read -/
mutual
def rdB : D → Bool
  | .none => true
  | .bool _ => true
  | .int _ => true
  | .str _ => true
  | .tup ds => rdBs ds
  | .lst ds => rdBs ds
  | .dct ks vs => ks.isEmpty && vs.isEmpty
  | .kd _ _ => true
  | _ => false
def rdBs : List D → Bool
  | [] => true
  | d :: ds => rdB d && rdBs ds
end
mutual
/-- no list inside -/
def noL : D → Bool
  | .lst _ => false
  | .tup ds => noLs ds
  | _ => true
def noLs : List D → Bool
  | [] => true
  | d :: ds => noL d && noLs ds
end
section
variable {g : Gs} {w : Wd} {H : Hp} {X : Cx} {pins : List (Addr × Obj)} {σ : L2.St} {s : Shared}
mutual
theorem Rep.reads (I : Inv X pins σ H s) (hK : X.K = g.K) (hs : Same w.P H) : ∀ (d : D) (v : V) (u : Value), rdB d = true → Rep g w d v → RelV v u → ∃ as, Reads s.heap u (toPy d) as ∧ (noL d = true → sysModules ∉ as)
  | .none, v, u, _, h, r => by simp only [Rep] at h; subst h; cases r; exact ⟨_, .none, fun _ => by simp⟩
  | .bool b, v, u, _, h, r => by simp only [Rep] at h; subst h; cases r; exact ⟨_, .bool b, fun _ => by simp⟩
  | .int b, v, u, _, h, r => by simp only [Rep] at h; subst h; obtain ⟨t, rfl⟩ := r; exact ⟨_, .int b t, fun _ => by simp⟩
  | .str b, v, u, _, h, r => by simp only [Rep] at h; subst h; obtain ⟨t, rfl⟩ := r; exact ⟨_, .str b t, fun _ => by simp⟩
  | .tup ds, v, u, c, h, r => by
    simp only [Rep] at h
    obtain ⟨a, vs, rfl, q, rr⟩ := h
    cases r
    obtain ⟨its, rv, ⟨o, ho, hc, n, hd⟩, _⟩ := I.tuple (hK ▸ sqT_mono hs q.T)
    obtain ⟨as, hr, hn⟩ := Reps.reads I hK hs ds vs its (by simpa only [rdB] using c) rr rv
    exact ⟨_, by simp only [toPy]; exact Reads.tuple ho hc hd hr, fun z => hn (by simpa only [noL] using z)⟩
  | .lst ds, v, u, c, h, r => by
    simp only [Rep] at h
    obtain ⟨a, vs, rfl, q, rr⟩ := h
    cases r
    obtain ⟨its, rv, ⟨o, n, ho, hc, _, hd⟩, _⟩ := I.list (hK ▸ (.inl (.inl (hs _ _ q)) : SqL g.K H a vs))
    obtain ⟨as, hr, hn⟩ := Reps.reads I hK hs ds vs its (by simpa only [rdB] using c) rr rv
    exact ⟨_, by simp only [toPy]; exact Reads.list ho hc hd hr, fun z => by simp only [noL] at z; cases z⟩
  | .dct ks ds, v, u, c, h, r => by
    simp only [rdB, Bool.and_eq_true, List.isEmpty_iff] at c
    obtain ⟨rfl, rfl⟩ := c
    simp only [Rep] at h
    obtain ⟨a, xs, rfl, q, e, _, _⟩ := h
    cases r
    have hx : xs = [] := by
      cases xs with
      | nil => rfl
      | cons _ _ => simp at e
    subst hx
    obtain ⟨⟨hsm, _, _, _, ys, hp, o, es, ep, ho, hx, hd, he⟩, _, _⟩ := I.hok a _ (hs _ _ q)
    cases hp
    have hes : es.toList = [] := he
    exact ⟨_, by simp only [toPy]; exact Reads.dict ho hx.1 hd (by rw [hes]; exact .nil) (by rw [hes]; exact .nil), fun _ z => by
      simp at z
      subst z
      simp at hsm⟩
  | .scr ds, v, u, c, h, r => by cases c
  | .prs ds, v, u, c, h, r => by cases c
  | .inst k ds, v, u, c, h, r => by cases c
  | .box n, v, u, c, h, r => by cases c
  | .cls n, v, u, c, h, r => by cases c
  | .ptr n, v, u, c, h, r => by cases c
  | .fnT n, v, u, c, h, r => by cases c
  | .kd k x, v, u, c, h, r => by
    simp only [Rep] at h
    obtain ⟨a, rfl, q⟩ := h
    cases r
    obtain ⟨_, hsm, vs, rv, o, es, ep, ho, hx, hd, hk, hp, _⟩ := dk_of I.hok (hs _ _ q)
    cases rv with
    | @cons p0 q0 ps qs h1 h2 =>
      cases h2
      obtain ⟨kk, vv⟩ := q0
      obtain ⟨h3, h4⟩ := h1
      simp only at h3 h4
      subst h3
      obtain ⟨tv, rfl⟩ := h4
      generalize hes : es.toList = el at hp
      cases hp with
      | cons g1 g2 g3 =>
        cases g3
        rename_i en
        obtain ⟨tk, ek⟩ := Value.isInt_shape (k := k) (v := en.key) g1
        refine ⟨_, by simp only [toPy]; exact Reads.dict ho hx.1 hd (as := [] ++ []) (bs := [] ++ []) (by rw [hes]; simp only [List.map_cons, List.map_nil, ek]; exact .cons (.int k tk) .nil) (by rw [hes]; simp only [List.map_cons, List.map_nil, g2]; exact .cons (.int x tv) .nil), fun _ z => ?_⟩
        simp at z
        subst z
        simp at hsm
theorem Reps.reads (I : Inv X pins σ H s) (hK : X.K = g.K) (hs : Same w.P H) : ∀ (ds : List D) (vs : List V) (us : List Value), rdBs ds = true → Reps g w ds vs → Vals vs us → ∃ as, ReadsAll s.heap us (toPys ds) as ∧ (noLs ds = true → sysModules ∉ as)
  | [], vs, us, _, h, r => by simp only [Reps] at h; subst h; cases r; exact ⟨_, .nil, fun _ => by simp⟩
  | d :: ds, vs, us, c, h, r => by
    simp only [Reps] at h
    obtain ⟨v, vt, rfl, h1, h2⟩ := h
    simp only [rdBs, Bool.and_eq_true] at c
    cases r with
    | cons r1 r2 =>
      obtain ⟨as, q1, n1⟩ := Rep.reads I hK hs d v _ c.1 h1 r1
      obtain ⟨bs, q2, n2⟩ := Reps.reads I hK hs ds vt _ c.2 h2 r2
      exact ⟨_, by simp only [toPys]; exact .cons q1 q2, fun c z => by
        simp only [noLs, Bool.and_eq_true] at c
        exact (List.mem_append.mp z).elim (n1 c.1) (n2 c.2)⟩
end
/-- data of which repr is the text -/
def rdX (d : D) : Bool := (match d with
  | .tup _ => true
  | .lst _ => true
  | .kd _ _ => true
  | _ => false) && rdB d && (!(toPy d).hasDict || noL d) && (toPy d).showable && decide ((toPy d).depth < 50) && decide ((toPy d).shown.length ≤ sizeLine)
def fReprX (fR : D → Bs → Rs D) : D → Bs → Rs D := fun d B => if rdX d then .ok (.str (toPy d).shown) B else fR d B
def rReprX (g : Gs) : List V → Hp → VK → Prop := fun xs H Q => ∃ a d w, xs = [.ref a] ∧ Same w.P H ∧ Rep g w d (.ref a) ∧ rdX d = true ∧ Q (.str (toPy d).shown) H
theorem call_reprX {E : XK} {lv : Nat} (c : OkG g E lv X) : CallR X (.builtin "repr") (rReprX g) := by
  intro pins s σ H xs us Q I r h
  obtain ⟨a, d, w, rfl, hs, hr, hx, q⟩ := h
  obtain ⟨u, rfl, ru⟩ := vals1 r
  obtain ⟨as, rd, nm⟩ := Rep.reads I c.K hs d (.ref a) u (by simp only [rdX, Bool.and_eq_true] at hx; exact hx.1.1.1.1.2) hr ru
  obtain rfl : u = Value.ref a := ru
  simp only [rdX, Bool.and_eq_true, decide_eq_true_eq] at hx
  obtain ⟨⟨⟨⟨⟨_, _⟩, h1⟩, h2⟩, h3⟩, h4⟩ := hx
  have un := c.un
  exact repr_of_reads' rd h2 (fun z => nm (by rw [z] at h1; simpa using h1)) c.gd (by omega) (fun _ _ e => e) (fun h' t tk hk => ⟨.str _, H, I.kept hk, ⟨_, rfl⟩, q⟩) h4
end
theorem reprKX {g : Gs} {fR : D → Bs → Rs D} {kr : Nat} (RK : ReprK g fR kr) : ReprK g (fReprX fR) kr := by
  obtain ⟨rR, h1, h2⟩ := RK
  refine ⟨fun xs H Q => rReprX g xs H Q ∨ rR xs H Q, fun E lv X c hk => callR_or (call_reprX c) (h1 E lv X c hk), fun E H0 w σI B σ H Q x d s r p => ?_⟩
  unfold fReprX at p
  split at p
  · rename_i hx
    have key : ∃ a, x = .ref a := by
      have hx2 := hx
      simp only [rdX, Bool.and_eq_true] at hx2
      have h0 := hx2.1.1.1.1.1
      have r2 := r
      split at h0
      · simp only [Rep] at r2; obtain ⟨a, _, e, _⟩ := r2; exact ⟨a, e⟩
      · simp only [Rep] at r2; obtain ⟨a, _, e, _⟩ := r2; exact ⟨a, e⟩
      · simp only [Rep] at r2; obtain ⟨a, e, _⟩ := r2; exact ⟨a, e⟩
      · cases h0
    obtain ⟨a, rfl⟩ := key
    exact .inl ⟨a, d, w, rfl, s.rb.sub, r, hx, p.nowR s (rep_str g _ _)⟩
  · exact .inr (h2 E H0 w σI B σ H Q x d s r p)
end Hf

set_option Elab.async false
set_option linter.all false
set_option maxRecDepth 100000
set_option maxHeartbeats 4000000
namespace Hf
open PySem PySem.Spec PyProof.Rows L2
/-! ### own == and the != that comes of it -/
section
variable {prog : Program} {w : World} {A : Around} {E : Value → Shared → Prop} {s : Shared} {K : PySem.W.Frag} {x C f : Addr} {ox : Obj} {od : Option Obj} {b tb : Value}
theorem ne_entry {Q : Fin → Shared → Prop} (X : K.In s.heap) (I : PySem.W.InstAt s.heap x ox C od) (hs : PySem.W.findIn K (.ref C) "__eq__" = some (some (.ref f))) (hf : PySem.W.isFn K (.ref f) = true) (hu : A.units < cLine)
    (hcall : wpAny (model prog w) A (call (.ref f) [.ref x, b]) (fun v s' => ∃ r, v = .bool r ∧ Q (.done (.ret (.bool (!r)))) s') E s) : wpAny (model prog w) A (Builtin.«object.__ne__» ⟨[.ref x, b], []⟩) Q E s := by
  unfold Builtin.«object.__ne__»
  repeat (first
    | with_reducible refine wpAny_cRoomFor hu ?_
    | (refine wpAny_bind (m := callSpecialIfBound? (.ref x) (Str.ofString "__eq__") [b])
        (PySem.W.ifBound_K X I hs hf (wpAny_mono hcall (fun r s' hr => by
          obtain ⟨b, rfl, hq⟩ := hr
          repeat (first | exact hq | exact wpAny_pure hq | exact wpAny_truthy_bool hq | (refine wpAny_bind (m := truthy (.bool _)) (wpAny_truthy_bool ?_)) | wp_step)) fun _ _ e => e)))
    | wp_step)
theorem ifBound_objNe {M : Model} {args : List Value} {Q : Option Value → Shared → Prop} (X : K.In s.heap) (I : PySem.W.InstAt s.heap x ox C od) (hs : PySem.W.findIn K (.ref C) "__ne__" = some (some (.builtin "object.__ne__")))
    (h : wpAny M A (call (.builtin "object.__ne__") (.ref x :: args)) (fun v => Q (some v)) E s) : wpAny M A (callSpecialIfBound? (.ref x) "__ne__" args) Q E s := by
  simp only [callSpecialIfBound?, bindSpecialIfBound?]
  refine wpAny_holding (wpAny_bind (wpAny_bind (wpAny_bind (I.type.here ((PySem.W.looks_findIn X hs).here ?_)))))
  refine wpAny_bind (wpAny_askSetting (wpAny_ite ?_))
  have fin : wpAny M A (call (.builtin "object.__ne__") ([.ref x] ++ args) >>= fun v => pure (some v)) Q E s := wpAny_bind (wpAny_mono h (fun v s' h' => wpAny_pure h') fun _ _ h' => h')
  split
  · exact wpAny_bind (wpAny_of_eq (F.cmp_object.ne.bind _) (wpAny_pure (by exact fin)))
  · exact wpAny_tryCatch (wpAny_bind (wpAny_of_eq (F.cmp_object.ne.bind _) (wpAny_pure (by exact fin))))
theorem call_objNe {Q : Value → Shared → Prop} (X : K.In s.heap) (I : PySem.W.InstAt s.heap x ox C od) (hm : PySem.W.mroIn K C (.type "object") = some true) (hs : PySem.W.findIn K (.ref C) "__eq__" = some (some (.ref f))) (hf : PySem.W.isFn K (.ref f) = true) (hu : A.units + 1 < cLine)
    (hcall : wpAny (model prog w) A.in1 (call (.ref f) [.ref x, b]) (fun v s' => ∃ r, v = .bool r ∧ Q (.bool (!r)) s') E s) :
    wpAny (model prog w) A (call (.builtin "object.__ne__") [.ref x, b]) Q E s :=
  wpAny_call (codeAny_call_builtin F.cmp_object.ne.plain F.cmpEntry_ne (PySem.W.check_slot F.cmpKind_ne F.cmpSplit_ne (I.type.andThen (PySem.W.looks_mroIn X hm)) (F.cmpArgs_ne _ _) (ne_entry (A := A.in1) X I hs hf hu hcall)))
theorem cmpNe_K {Q : Value → Shared → Prop} {h₀ : Heap} {L : Addr} {m : Str → Option Value} (hu : A.units + 1 < cLine) (F : PyProof.Rows.Fr h₀ L s.heap m) (X₀ : K.In h₀) (I : PySem.W.InstAt s.heap x ox C od) (hb : PySem.W.Looks (model prog w) s.heap (typeOf b) tb) (hn : PySem.W.notFirst K C tb = true)
    (hm : PySem.W.mroIn K C (.type "object") = some true) (hs : PySem.W.findIn K (.ref C) "__ne__" = some (some (.builtin "object.__ne__"))) (he : PySem.W.findIn K (.ref C) "__eq__" = some (some (.ref f))) (hf : PySem.W.isFn K (.ref f) = true)
    (h : wpAny (model prog w) A.in1 (call (.ref f) [.ref x, b]) (fun v s' => ∃ r, v = .bool r ∧ Q (.bool (!r)) s') E s) : wpAny (model prog w) A (richCompare .NotEq (.ref x) b) Q E s := by
  have X := X₀.keeps F.keep
  have one : wpAny (model prog w) A (tryCompare (.ref x) "__ne__" b) (fun r s' => ∃ v, r = some v ∧ Q v s') E s := by
    unfold tryCompare
    refine wpAny_bind (ifBound_objNe X I hs (call_objNe X I hm he hf hu (wpAny_mono h (fun v s' hv => ?_) fun _ _ e => e)))
    obtain ⟨r, rfl, hq⟩ := hv
    exact ⟨r, rfl, wpAny_pure ⟨_, rfl, hq⟩⟩
  unfold richCompare
  simp only [cmpInfo_NotEq, oneThing_ref]
  refine wpAny_holding (wpAny_bind (wpAny_cRoomFor (Nat.lt_of_succ_lt hu) ?_))
  refine wpAny_bind (I.type.here (wpAny_bind (hb.here ?_)))
  split
  · rename_i q
    have e : PySem.W.subIn K tb (.ref C) = some false := by
      rcases Bool.or_eq_true_iff.mp hn with e | e
      · rw [beq_iff_eq.mp e] at q; simp at q
      · exact beq_iff_eq.mp e
    refine wpAny_bind ((PySem.W.looks_subIn X e).here ?_)
    simp only [Bool.false_eq_true, if_false]
    refine wpAny_bind (wpAny_mono one (fun r s' z => ?_) fun _ _ e => e)
    obtain ⟨v, rfl, hq⟩ := z
    exact wpAny_pure hq
  · refine wpAny_bind (wpAny_pure ?_)
    simp only [Bool.false_eq_true, if_false]
    refine wpAny_bind (wpAny_mono one (fun r s' z => ?_) fun _ _ e => e)
    obtain ⟨v, rfl, hq⟩ := z
    exact wpAny_pure hq
end
end Hf

set_option Elab.async false
set_option linter.all false
set_option maxRecDepth 100000
set_option maxHeartbeats 4000000
namespace Hf
open PySem PySem.Spec PyProof.Rows L2
/-! ### the class of data -/
def tyB (c : Nat) : D → Bool
  | .none => true
  | .bool _ => true
  | .int _ => true
  | .str _ => true
  | .tup _ => true
  | .prs _ => true
  | .lst _ => true
  | .scr _ => true
  | .dct _ _ => true
  | .kd _ _ => true
  | .inst c' _ => c' == c || !subC c' c
  | _ => false
structure EqN (g : Gs) (k c : Nat) (f : Fn) : Prop where
  d : DunF g k c "__eq__" f
  ne : PySem.W.findIn g.K (.ref (g.cl c)) "__ne__" = some (some (.builtin "object.__ne__"))
  oth : ∀ c', g.has c' = true → c' ≠ c → subC c' c = false → PySem.W.mroIn g.K (g.cl c') (.ref (g.cl c)) = some false
  nT : ∀ T ∈ ["NoneType", "int", "bool", "str", "list", "tuple", "dict"], PySem.W.mroIn g.K (g.cl c) (.type T) = some false
theorem nf_T {K : PySem.W.Frag} {C : Addr} {T : String} {l : List Value} (e : fastBuiltinMro T = some l) (h : ∀ x ∈ l, ∃ n, x = .type n) : PySem.W.notFirst K C (.type T) = true := by
  have e2 : PySem.W.subIn K (.type T) (.ref C) = some false := by
    show (fastBuiltinMro T).map (·.contains (.ref C)) = some false
    rw [e]
    have : l.contains (.ref C) = false := by
      cases q : l.contains (Value.ref C) with
      | false => rfl
      | true =>
        obtain ⟨n, z⟩ := h _ (List.contains_iff_mem.mp q)
        cases z
    simp only [Option.map_some, this]
  unfold PySem.W.notFirst
  rw [e2]
  simp
theorem nf_none {K : PySem.W.Frag} {C : Addr} : PySem.W.notFirst K C (.type "NoneType") = true := nf_T (l := [.type "NoneType", .type "object"]) (by decide +kernel) (by simp)
theorem nf_bool {K : PySem.W.Frag} {C : Addr} : PySem.W.notFirst K C (.type "bool") = true := nf_T (l := [.type "bool", .type "int", .type "object"]) (by decide +kernel) (by simp)
theorem nf_int {K : PySem.W.Frag} {C : Addr} : PySem.W.notFirst K C (.type "int") = true := nf_T (l := [.type "int", .type "object"]) (by decide +kernel) (by simp)
theorem nf_str {K : PySem.W.Frag} {C : Addr} : PySem.W.notFirst K C (.type "str") = true := nf_T (l := [.type "str", .type "object"]) (by decide +kernel) (by simp)
theorem nf_tuple {K : PySem.W.Frag} {C : Addr} : PySem.W.notFirst K C (.type "tuple") = true := nf_T (l := [.type "tuple", .type "object"]) (by decide +kernel) (by simp)
theorem nf_list {K : PySem.W.Frag} {C : Addr} : PySem.W.notFirst K C (.type "list") = true := nf_T (l := [.type "list", .type "object"]) (by decide +kernel) (by simp)
theorem nf_dict {K : PySem.W.Frag} {C : Addr} : PySem.W.notFirst K C (.type "dict") = true := nf_T (l := [.type "dict", .type "object"]) (by decide +kernel) (by simp)
section
variable {g : Gs} {w : Wd} {H : Hp} {X : Cx} {pins : List (Addr × Obj)} {σ : L2.St} {s : Shared} {k c lv : Nat} {f : Fn} {E : XK}
theorem Rep.ty (I : Inv X pins σ H s) (hK : X.K = g.K) (hs : Same w.P H) (N : EqN g k c f) : ∀ (d : D) (v : V) (u : Value), tyB c d = true → Rep g w d v → RelV v u → ∃ tb, PySem.W.Looks (model X.prog X.w) s.heap (typeOf u) tb ∧ PySem.W.notFirst X.K (g.cl c) tb = true
  | .none, v, u, _, h, r => by simp only [Rep] at h; subst h; cases r; exact ⟨.type "NoneType", .of_pure rfl, nf_none⟩
  | .bool b, v, u, _, h, r => by simp only [Rep] at h; subst h; cases r; exact ⟨.type "bool", .of_pure rfl, nf_bool⟩
  | .int b, v, u, _, h, r => by simp only [Rep] at h; subst h; obtain ⟨t, rfl⟩ := r; exact ⟨.type "int", .of_pure rfl, nf_int⟩
  | .str b, v, u, _, h, r => by simp only [Rep] at h; subst h; obtain ⟨t, rfl⟩ := r; exact ⟨.type "str", .of_pure rfl, nf_str⟩
  | .tup ds, v, u, _, h, r => by
    simp only [Rep] at h
    obtain ⟨a, vs, rfl, q, rr⟩ := h
    cases r
    obtain ⟨its, rv, ⟨o, ho, hc, n, hd⟩, _⟩ := I.tuple (hK ▸ sqT_mono hs q.T)
    exact ⟨.type "tuple", hc ▸ (PySem.W.Looks.ld ho).andThen .now, nf_tuple⟩
  | .prs ds, v, u, _, h, r => by
    simp only [Rep] at h
    obtain ⟨a, vs, rfl, q, rr⟩ := h
    cases r
    obtain ⟨its, rv, ⟨o, ho, hc, n, hd⟩, _⟩ := I.tuple (hK ▸ sqT_mono hs q)
    exact ⟨.type "tuple", hc ▸ (PySem.W.Looks.ld ho).andThen .now, nf_tuple⟩
  | .lst ds, v, u, _, h, r => by
    simp only [Rep] at h
    obtain ⟨a, vs, rfl, q, rr⟩ := h
    cases r
    obtain ⟨its, rv, ⟨o, n, ho, hc, _, hd⟩, _⟩ := I.list (hK ▸ (.inl (.inl (hs _ _ q)) : SqL g.K H a vs))
    exact ⟨.type "list", hc ▸ (PySem.W.Looks.ld ho).andThen .now, nf_list⟩
  | .scr ds, v, u, _, h, r => by
    simp only [Rep] at h
    obtain ⟨a, vs, rfl, q, rr⟩ := h
    cases r
    obtain ⟨its, rv, ⟨o, n, ho, hc, _, hd⟩, _⟩ := I.list (hK ▸ hs.seq q)
    exact ⟨.type "list", hc ▸ (PySem.W.Looks.ld ho).andThen .now, nf_list⟩
  | .dct ks ds, v, u, _, h, r => by
    simp only [Rep] at h
    obtain ⟨a, xs, rfl, q, e, _, _⟩ := h
    cases r
    obtain ⟨⟨_, _, _, _, ys, hp, o, es, ep, ho, hx, hd, he⟩, _, _⟩ := I.hok a _ (hs _ _ q)
    exact ⟨.type "dict", hx.1 ▸ (PySem.W.Looks.ld ho).andThen .now, nf_dict⟩
  | .inst c' ds, v, u, ht, h, r => by
    simp only [Rep] at h
    obtain ⟨a, dx, vs, rfl, q, _, hh, _⟩ := h
    cases r
    obtain ⟨od, J⟩ := inst_at I (hs _ _ q)
    refine ⟨.ref (g.cl c'), J.type, ?_⟩
    simp only [tyB, Bool.or_eq_true, beq_iff_eq, Bool.not_eq_true'] at ht
    unfold PySem.W.notFirst
    by_cases hc : c' = c
    · subst hc; simp
    · rcases ht with ht | ht
      · exact absurd ht hc
      · rw [hK]
        show (_ || PySem.W.mroIn g.K (g.cl c') (.ref (g.cl c)) == some false) = true
        rw [N.oth c' hh hc ht]
        simp
  | .box n, v, u, h, _, _ => by cases h
  | .cls n, v, u, h, _, _ => by cases h
  | .ptr n, v, u, h, _, _ => by cases h
  | .fnT n, v, u, h, _, _ => by cases h
  | .kd k x, v, u, _, h, r => by
    simp only [Rep] at h
    obtain ⟨a, rfl, q⟩ := h
    cases r
    obtain ⟨_, hsm, vs, rv, o, es, ep, ho, hx, hd, _⟩ := dk_of I.hok (hs _ _ q)
    exact ⟨.type "dict", hx.1 ▸ (PySem.W.Looks.ld ho).andThen .now, nf_dict⟩
/-- x == e, x != e of an own instance -/
def rEqO (g : Gs) (c : Nat) (f : Fn) (neg : Bool → Bool) : R2 := fun x y H Q => ∃ a dx fs w d, x = .ref a ∧ H a = some (.ins (g.cl c) dx fs) ∧ Same w.P H ∧ Rep g w d y ∧ tyB c d = true ∧ spF g f [.ref a, y] H (fun r H' => ∃ b, r = .bl b ∧ Q (.bl (neg b)) H') E0
theorem op_eqO (ok : OkC g E lv X) (N : EqN g k c f) (hk : k ≤ lv) : OpR X (compareOp .Eq) (rEqO g c f fun b => b) := by
  intro pins s σ H x y v u Q I rx ry h
  obtain ⟨q0, dx, fs, w, d, rfl, hi, hs, hr, ht, q⟩ := h
  cases rx
  obtain ⟨tb, lk, nf⟩ := Rep.ty I ok.K hs N d y u ht hr ry
  obtain ⟨fa, F, hf, hfn, hfi, hc⟩ := N.d
  obtain ⟨prog, w', K, mg, base, A, N, s_0, H_0, env, outer, stack, ex, fn, calm, pn, xe⟩ := X
  obtain ⟨⟨h1, h2, h3, h4, h5, h6, h7, hfx⟩, h8, h9⟩ := ok
  simp only at h1 h2 h4 h5 h6 h7
  subst h1 h2 h5 h6 h7
  obtain ⟨od, J⟩ := inst_at I hi
  obtain ⟨mf, Fm⟩ := I.fr
  have hr2 := h8.mono hk
  refine PySem.W.cmp_K (op := .Eq) (tb := tb) (by have z : A.units + 100 < cLine := h4; show A.units < cLine; omega) Fm I.ok.mod.kin J lk nf hf hfn (wpAny_mono (run_nox (E' := _) (us := [.ref q0, u]) (vs := [.ref q0, y]) F hr2 I.env0 I (.cons rfl (.cons ry .nil)) q) (fun r s1 hr => ?_) fun _ _ z => z)
  obtain ⟨z, H1, I1, rz, b, rfl, q1⟩ := hr
  obtain rfl : r = .bool b := rz
  exact ⟨.bl b, H1, I1, rfl, q1⟩
theorem op_neO (ok : OkC g E lv X) (N : EqN g k c f) (hk : k + 1 ≤ lv) : OpR X (compareOp .NotEq) (rEqO g c f fun b => !b) := by
  intro pins s σ H x y v u Q I rx ry h
  obtain ⟨q0, dx, fs, w, d, rfl, hi, hs, hr, ht, q⟩ := h
  cases rx
  obtain ⟨tb, lk, nf⟩ := Rep.ty I ok.K hs N d y u ht hr ry
  have hne := N.ne
  obtain ⟨fa, F, hf, hfn, hfi, hc⟩ := N.d
  obtain ⟨prog, w', K, mg, base, A, N, s_0, H_0, env, outer, stack, ex, fn, calm, pn, xe⟩ := X
  obtain ⟨⟨h1, h2, h3, h4, h5, h6, h7, hfx⟩, h8, h9⟩ := ok
  simp only at h1 h2 h4 h5 h6 h7
  subst h1 h2 h5 h6 h7
  obtain ⟨od, J⟩ := inst_at I hi
  obtain ⟨mf, Fm⟩ := I.fr
  have hr2 := (h8.mono hk).in1
  have hm := (hfx.cls c hc).hm
  refine cmpNe_K (tb := tb) (by have z : A.units + 100 < cLine := h4; show A.units + 1 < cLine; omega) Fm I.ok.mod.kin J lk nf hm hne hf hfn (wpAny_mono (run_nox (E' := _) (us := [.ref q0, u]) (vs := [.ref q0, y]) F hr2 I.env0.in1 I (.cons rfl (.cons ry .nil)) q) (fun r s1 hr => ?_) fun _ _ z => z)
  obtain ⟨z, H1, I1, rz, b, rfl, q1⟩ := hr
  obtain rfl : r = .bool b := rz
  exact ⟨b, rfl, .bl (!b), H1, I1, rfl, q1⟩
theorem toBn_go0 {σI : Sl} {Q : VK} {r : Rs D} {neg : Bool → Bool} (p : PostE g E w H σI σ false Q (toBn neg r)) : PostC g E0 w H (fun v H' => ∃ b, v = .bl b ∧ Q (.bl (neg b)) H') r := by
  unfold toBn at p
  split at p
  · rename_i b B
    intro w' v H' x rb rr
    simp only [Rep] at rr
    exact ⟨b, rr, p w' (.bl (neg b)) H' x rb (rep_bool g w' _)⟩
  · exact p.elim
/-- what it means: own instances by the class's def, data as data -/
def fEqO (c : Nat) (f : Fn) (neg : Bool → Bool) (dflt : D → D → Bs → Rs D) : D → D → Bs → Rs D
  | .inst c' es, e, B => if c' = c ∧ tyB c e = true then toBn neg (f [.inst c' es, e] B) else .bad
  | d, e, B => dflt d e B
variable {H0 : Hp} {ma mb : Ev} {a b : Expr} {pos : Pos}
theorem eqO_go {neg : Bool → Bool} {dflt : D → D → Bs → Rs D} {r2 : R2} (h : OpSem g E H0 r2 dflt) (ha : Snd g E H0 X false a ma) (hb : Snd g E H0 X false b mb) : ∀ σ H Q, tI g E H0 false (mBin (fEqO c f neg dflt) ma mb) σ H Q → tOp (fun x y H Q => rEqO g c f neg x y H Q ∨ r2 x y H Q) (tI g E H0 false ma) (tI g E H0 false mb) σ H Q := by
  rintro σ H Q ⟨w, σI, B, s, p⟩
  refine tI_bind s p fun d B1 w1 v H1 x1 s1 r1 p1 => ?_
  refine tI_bind s1 p1 fun d2 B2 w2 v2 H2 x2 s2 r2 p2 => ?_
  unfold fEqO at p2
  split at p2
  · rename_i c' es e B0
    split at p2
    · rename_i hc'
      obtain ⟨rfl, ht⟩ := hc'
      obtain ⟨q0, dx, vs, rfl, hi, hl, hh, rr⟩ := ((RepB.up r1).mono x2.le).inst s2
      refine .inl ⟨q0, dx, _, w2, _, rfl, hi, s2.rb.sub, r2, ht, w2, _, B2, s2.rb, ?_, toBn_go0 p2⟩
      simp only [Reps]
      exact ⟨_, _, rfl, Rep.mono x2.le _ _ r1, _, _, rfl, r2, rfl⟩
    · exact p2.elim
  · exact .inr (h w2 σI B2 σ H2 Q v v2 d d2 s2 ((RepB.up r1).mono x2.le) (RepB.up r2) p2)
theorem s_eqO (ok : OkC g E lv X) (N : EqN g k c f) (hk : k ≤ lv) (ha : Snd g E H0 X false a ma) (hb : Snd g E H0 X false b mb) (hm : behindInMarks .Eq b = false := by rfl) : Snd g E H0 X false (.Compare a [.Eq] [b] pos) (mBin (fEqO c f (fun b => b) fEq) ma mb) :=
  weak (pe_cmpR ((op_eqO ok N hk).or (ok.K ▸ op_eqD (by have := ok.un; omega))) ha hb hm) (eqO_go os_eq ha hb)
theorem s_neO (ok : OkC g E lv X) (N : EqN g k c f) (hk : k + 1 ≤ lv) (ha : Snd g E H0 X false a ma) (hb : Snd g E H0 X false b mb) (hm : behindInMarks .NotEq b = false := by rfl) : Snd g E H0 X false (.Compare a [.NotEq] [b] pos) (mBin (fEqO c f (fun b => !b) fNe) ma mb) :=
  weak (pe_cmpR ((op_neO ok N hk).or (ok.K ▸ op_neD (by have := ok.un; omega))) ha hb hm) (eqO_go os_ne ha hb)
end
end Hf

set_option Elab.async false
set_option linter.all false
set_option maxRecDepth 100000
set_option maxHeartbeats 4000000
namespace Hf
open PySem PySem.Spec PyProof.Rows L2
section
variable {g : Gs} {E : XK} {H0 : Hp} {X : Cx} {p1 p2 pos : Pos} {j1 j2 : Nat} {k x : Int}
/-- {k: x} -/
theorem s_kd (ok : Ok g X) : Snd g E H0 X false (.Dict [some (.Constant (.int k) j1 p1)] [.Constant (.int x) j2 p2] pos) (mC (.kd k x)) := by
  refine weak (pe_disp (pps_cons pe_int pe_int pps_nil) rfl rfl (by simp) (by simp)) ?_
  rintro σ H Q ⟨w, σI, B, s, p⟩
  intro q hq
  refine ⟨upd_same, [(.inl k, .int x)], rfl, by simp, ?_⟩
  have e : upd (upd H q (.dK [])) q (.dK (mergeK [] [(.inl k, .int x)])) = upd H q (.dK [(.inl k, .int x)]) := by
    funext b
    unfold upd
    split <;> rfl
  rw [e]
  exact p (regW w q (.dK [(.inl k, .int x)])) _ _ (Ext.reg s.rb hq) (s.rb.reg hq) (by
    simp only [RepB, Rep]
    exact ⟨q, rfl, upd_same⟩)
end
end Hf

set_option Elab.async false
set_option linter.all false
set_option maxRecDepth 100000
set_option maxHeartbeats 4000000
namespace Hf
open PySem PySem.Spec PyProof.Rows L2
open Builtin Sem
/-! ### data beside an instance: the built-in == and != decline -/
theorem int_eq_i (b : Int) (u : Tok) (l C : Addr) (d2 : Option Addr) (sl2 : Array (Option Value)) :
    Meets (Builtin.«int.__eq__» ⟨[.int b u, .ref l], []⟩) (fun _ R s => s.heap.get? l = some { cls := .ref C, dict := d2, data := .plain, slots := sl2 } ∧ R (.ok (.ret .notImplemented)) s) :=
  .of_wp fun prog w A R s h => by obtain ⟨hp, g, d, tk, os⟩ := s; obtain ⟨hl, h⟩ := h; wp_walk using wpAny_loadPart' hl, wpAny_load hl; exact ⟨_, rfl, h⟩
theorem bool_eq_i (b : Bool) (l C : Addr) (d2 : Option Addr) (sl2 : Array (Option Value)) :
    Meets (Builtin.«int.__eq__» ⟨[.bool b, .ref l], []⟩) (fun _ R s => s.heap.get? l = some { cls := .ref C, dict := d2, data := .plain, slots := sl2 } ∧ R (.ok (.ret .notImplemented)) s) :=
  .of_wp fun prog w A R s h => by obtain ⟨hp, g, d, tk, os⟩ := s; obtain ⟨hl, h⟩ := h; wp_walk using wpAny_loadPart' hl, wpAny_load hl; exact ⟨_, rfl, h⟩
theorem str_eq_i (b : Str) (u : Tok) (l C : Addr) (d2 : Option Addr) (sl2 : Array (Option Value)) :
    Meets (Builtin.«str.__eq__» ⟨[.str b u, .ref l], []⟩) (fun _ R s => s.heap.get? l = some { cls := .ref C, dict := d2, data := .plain, slots := sl2 } ∧ R (.ok (.ret .notImplemented)) s) :=
  .of_wp fun prog w A R s h => by obtain ⟨hp, g, d, tk, os⟩ := s; obtain ⟨hl, h⟩ := h; wp_walk using wpAny_loadPart' hl, wpAny_load hl; exact ⟨_, rfl, h⟩
theorem list_eq_i (l b C : Addr) (items : Array Value) (n : Nat) (dd d2 : Option Addr) (sl sl2 : Array (Option Value)) :
    Meets (Builtin.«list.__eq__» ⟨[.ref l, .ref b], []⟩) (fun _ R s => s.heap.get? l = some { cls := .type "list", dict := dd, data := .seq items n, slots := sl } ∧ s.heap.get? b = some { cls := .ref C, dict := d2, data := .plain, slots := sl2 } ∧ (∀ (prog : Program) (w : World) (A : Around) (E : Value → Shared → Prop) (Q : Bool → Shared → Prop), Q false s → wpAny (model prog w) A (isSubtype (.ref C) (.type "list")) Q E s) ∧ R (.ok (.ret .notImplemented)) s) :=
  .of_wp fun prog w A R s h => by
    obtain ⟨hp, g, d, tk, os⟩ := s
    obtain ⟨hl, hb, hs, h⟩ := h
    wp_walk using wpAny_loadPart' hl, wpAny_loadPart' hb, wpAny_load hl, wpAny_load hb, hs _ _ _ _ _
    exact ⟨_, rfl, h⟩
theorem tuple_eq_i (l b C : Addr) (items : Array Value) (n : Nat) (dd d2 : Option Addr) (sl sl2 : Array (Option Value)) :
    Meets (Builtin.«tuple.__eq__» ⟨[.ref l, .ref b], []⟩) (fun _ R s => s.heap.get? l = some { cls := .type "tuple", dict := dd, data := .seq items n, slots := sl } ∧ s.heap.get? b = some { cls := .ref C, dict := d2, data := .plain, slots := sl2 } ∧ (∀ (prog : Program) (w : World) (A : Around) (E : Value → Shared → Prop) (Q : Bool → Shared → Prop), Q false s → wpAny (model prog w) A (isSubtype (.ref C) (.type "tuple")) Q E s) ∧ R (.ok (.ret .notImplemented)) s) :=
  .of_wp fun prog w A R s h => by
    obtain ⟨hp, g, d, tk, os⟩ := s
    obtain ⟨hl, hb, hs, h⟩ := h
    wp_walk using wpAny_loadPart' hl, wpAny_loadPart' hb, wpAny_load hl, wpAny_load hb, hs _ _ _ _ _
    exact ⟨_, rfl, h⟩
theorem dict_eq_i (l b C : Addr) (items : Array DictEntry) (n : Nat) (dd d2 : Option Addr) (sl sl2 : Array (Option Value)) :
    Meets (Builtin.«dict.__eq__» ⟨[.ref l, .ref b], []⟩) (fun _ R s => s.heap.get? l = some { cls := .type "dict", dict := dd, data := .dict items n, slots := sl } ∧ s.heap.get? b = some { cls := .ref C, dict := d2, data := .plain, slots := sl2 } ∧ (∀ (prog : Program) (w : World) (A : Around) (E : Value → Shared → Prop) (Q : Bool → Shared → Prop), Q false s → wpAny (model prog w) A (isSubtype (.ref C) (.type "dict")) Q E s) ∧ R (.ok (.ret .notImplemented)) s) :=
  .of_wp fun prog w A R s h => by
    obtain ⟨hp, g, d, tk, os⟩ := s
    obtain ⟨hl, hb, hs, h⟩ := h
    wp_walk using wpAny_loadPart' hl, wpAny_loadPart' hb, wpAny_load hl, wpAny_load hb, hs _ _ _ _ _
    exact ⟨_, rfl, h⟩
theorem int_ne_i (b : Int) (u : Tok) (l C : Addr) (d2 : Option Addr) (sl2 : Array (Option Value)) :
    Meets (Builtin.«int.__ne__» ⟨[.int b u, .ref l], []⟩) (fun _ R s => s.heap.get? l = some { cls := .ref C, dict := d2, data := .plain, slots := sl2 } ∧ R (.ok (.ret .notImplemented)) s) :=
  .of_wp fun prog w A R s h => by obtain ⟨hp, g, d, tk, os⟩ := s; obtain ⟨hl, h⟩ := h; wp_walk using wpAny_loadPart' hl, wpAny_load hl; exact ⟨_, rfl, h⟩
theorem bool_ne_i (b : Bool) (l C : Addr) (d2 : Option Addr) (sl2 : Array (Option Value)) :
    Meets (Builtin.«int.__ne__» ⟨[.bool b, .ref l], []⟩) (fun _ R s => s.heap.get? l = some { cls := .ref C, dict := d2, data := .plain, slots := sl2 } ∧ R (.ok (.ret .notImplemented)) s) :=
  .of_wp fun prog w A R s h => by obtain ⟨hp, g, d, tk, os⟩ := s; obtain ⟨hl, h⟩ := h; wp_walk using wpAny_loadPart' hl, wpAny_load hl; exact ⟨_, rfl, h⟩
theorem str_ne_i (b : Str) (u : Tok) (l C : Addr) (d2 : Option Addr) (sl2 : Array (Option Value)) :
    Meets (Builtin.«str.__ne__» ⟨[.str b u, .ref l], []⟩) (fun _ R s => s.heap.get? l = some { cls := .ref C, dict := d2, data := .plain, slots := sl2 } ∧ R (.ok (.ret .notImplemented)) s) :=
  .of_wp fun prog w A R s h => by obtain ⟨hp, g, d, tk, os⟩ := s; obtain ⟨hl, h⟩ := h; wp_walk using wpAny_loadPart' hl, wpAny_load hl; exact ⟨_, rfl, h⟩
theorem list_ne_i (l b C : Addr) (items : Array Value) (n : Nat) (dd d2 : Option Addr) (sl sl2 : Array (Option Value)) :
    Meets (Builtin.«list.__ne__» ⟨[.ref l, .ref b], []⟩) (fun _ R s => s.heap.get? l = some { cls := .type "list", dict := dd, data := .seq items n, slots := sl } ∧ s.heap.get? b = some { cls := .ref C, dict := d2, data := .plain, slots := sl2 } ∧ (∀ (prog : Program) (w : World) (A : Around) (E : Value → Shared → Prop) (Q : Bool → Shared → Prop), Q false s → wpAny (model prog w) A (isSubtype (.ref C) (.type "list")) Q E s) ∧ R (.ok (.ret .notImplemented)) s) :=
  .of_wp fun prog w A R s h => by
    obtain ⟨hp, g, d, tk, os⟩ := s
    obtain ⟨hl, hb, hs, h⟩ := h
    wp_walk using wpAny_loadPart' hl, wpAny_loadPart' hb, wpAny_load hl, wpAny_load hb, hs _ _ _ _ _
    exact ⟨_, rfl, h⟩
theorem tuple_ne_i (l b C : Addr) (items : Array Value) (n : Nat) (dd d2 : Option Addr) (sl sl2 : Array (Option Value)) :
    Meets (Builtin.«tuple.__ne__» ⟨[.ref l, .ref b], []⟩) (fun _ R s => s.heap.get? l = some { cls := .type "tuple", dict := dd, data := .seq items n, slots := sl } ∧ s.heap.get? b = some { cls := .ref C, dict := d2, data := .plain, slots := sl2 } ∧ (∀ (prog : Program) (w : World) (A : Around) (E : Value → Shared → Prop) (Q : Bool → Shared → Prop), Q false s → wpAny (model prog w) A (isSubtype (.ref C) (.type "tuple")) Q E s) ∧ R (.ok (.ret .notImplemented)) s) :=
  .of_wp fun prog w A R s h => by
    obtain ⟨hp, g, d, tk, os⟩ := s
    obtain ⟨hl, hb, hs, h⟩ := h
    wp_walk using wpAny_loadPart' hl, wpAny_loadPart' hb, wpAny_load hl, wpAny_load hb, hs _ _ _ _ _
    exact ⟨_, rfl, h⟩
theorem dict_ne_i (l b C : Addr) (items : Array DictEntry) (n : Nat) (dd d2 : Option Addr) (sl sl2 : Array (Option Value)) :
    Meets (Builtin.«dict.__ne__» ⟨[.ref l, .ref b], []⟩) (fun _ R s => s.heap.get? l = some { cls := .type "dict", dict := dd, data := .dict items n, slots := sl } ∧ s.heap.get? b = some { cls := .ref C, dict := d2, data := .plain, slots := sl2 } ∧ (∀ (prog : Program) (w : World) (A : Around) (E : Value → Shared → Prop) (Q : Bool → Shared → Prop), Q false s → wpAny (model prog w) A (isSubtype (.ref C) (.type "dict")) Q E s) ∧ R (.ok (.ret .notImplemented)) s) :=
  .of_wp fun prog w A R s h => by
    obtain ⟨hp, g, d, tk, os⟩ := s
    obtain ⟨hl, hb, hs, h⟩ := h
    wp_walk using wpAny_loadPart' hl, wpAny_loadPart' hb, wpAny_load hl, wpAny_load hb, hs _ _ _ _ _
    exact ⟨_, rfl, h⟩
end Hf

set_option Elab.async false
set_option linter.all false
set_option maxRecDepth 100000
set_option maxHeartbeats 4000000
namespace Hf
open PySem PySem.Spec PyProof.Rows L2 Builtin Sem
/-! ### data == an instance with its own == -/
section
variable {prog : Program} {w : World} {A : Around} {E : Value → Shared → Prop} {s : Shared} {K : PySem.W.Frag} {x C f : Addr} {ox : Obj} {od : Option Obj} {u : Value} {T : String}
theorem cmpR_K {Q : Value → Shared → Prop} (hu : A.units < cLine) (X : K.In s.heap) (hT : s.TypeIs u T) (I : PySem.W.InstAt s.heap x ox C od) (hm : PySem.W.mroIn K C (.type T) = some false)
    (decl : ∀ Q' : Option Value → Shared → Prop, Q' none s → wpAny (model prog w) A (tryCompare u "__eq__" (.ref x)) Q' E s)
    (hs : PySem.W.findIn K (.ref C) "__eq__" = some (some (.ref f))) (hf : PySem.W.isFn K (.ref f) = true)
    (h : wpAny (model prog w) A (call (.ref f) [.ref x, u]) (fun v s' => ∃ r, v = .bool r ∧ Q (.bool r) s') E s) : wpAny (model prog w) A (richCompare .Eq u (.ref x)) Q E s := by
  have one : wpAny (model prog w) A (tryCompare (.ref x) "__eq__" u) (fun r s' => ∃ v, r = some v ∧ Q v s') E s := by
    unfold tryCompare
    refine wpAny_bind (PySem.W.ifBound_K X I hs hf (wpAny_mono h (fun v s' hv => ?_) fun _ _ e => e))
    obtain ⟨r, rfl, hq⟩ := hv
    exact wpAny_pure ⟨_, rfl, hq⟩
  simp only [richCompare, cmpInfo_Eq, hT.oneThing_none]
  refine wpAny_holding (wpAny_bind (wpAny_cRoomFor hu ?_))
  refine wpAny_bind (wpAny_typeOf hT (wpAny_bind (I.type.here ?_)))
  have ne : ((Value.type T) != Value.ref C) = true := by simp
  simp only [ne, if_true]
  refine wpAny_bind ((PySem.W.looks_mroIn X hm).here ?_)
  simp only [Bool.false_eq_true, if_false, Bool.not_false, if_true]
  refine wpAny_bind (m := tryCompare u _ (.ref x)) (decl _ ?_)
  refine wpAny_bind (m := tryCompare (.ref x) _ u) (wpAny_mono one (fun r s' z => ?_) fun _ _ e => e)
  obtain ⟨v, rfl, hq⟩ := z
  exact wpAny_pure hq
theorem cmpRNe_K {Q : Value → Shared → Prop} (hu : A.units + 1 < cLine) (X : K.In s.heap) (hT : s.TypeIs u T) (I : PySem.W.InstAt s.heap x ox C od) (hm : PySem.W.mroIn K C (.type T) = some false) (hmo : PySem.W.mroIn K C (.type "object") = some true)
    (decl : ∀ Q' : Option Value → Shared → Prop, Q' none s → wpAny (model prog w) A (tryCompare u "__ne__" (.ref x)) Q' E s)
    (hn : PySem.W.findIn K (.ref C) "__ne__" = some (some (.builtin "object.__ne__"))) (hs : PySem.W.findIn K (.ref C) "__eq__" = some (some (.ref f))) (hf : PySem.W.isFn K (.ref f) = true)
    (h : wpAny (model prog w) A.in1 (call (.ref f) [.ref x, u]) (fun v s' => ∃ r, v = .bool r ∧ Q (.bool (!r)) s') E s) : wpAny (model prog w) A (richCompare .NotEq u (.ref x)) Q E s := by
  have one : wpAny (model prog w) A (tryCompare (.ref x) "__ne__" u) (fun r s' => ∃ v, r = some v ∧ Q v s') E s := by
    unfold tryCompare
    refine wpAny_bind (ifBound_objNe X I hn (call_objNe X I hmo hs hf hu (wpAny_mono h (fun v s' hv => ?_) fun _ _ e => e)))
    obtain ⟨r, rfl, hq⟩ := hv
    exact ⟨r, rfl, wpAny_pure ⟨_, rfl, hq⟩⟩
  simp only [richCompare, cmpInfo_NotEq, hT.oneThing_none]
  refine wpAny_holding (wpAny_bind (wpAny_cRoomFor (Nat.lt_of_succ_lt hu) ?_))
  refine wpAny_bind (wpAny_typeOf hT (wpAny_bind (I.type.here ?_)))
  have ne : ((Value.type T) != Value.ref C) = true := by simp
  simp only [ne, if_true]
  refine wpAny_bind ((PySem.W.looks_mroIn X hm).here ?_)
  simp only [Bool.false_eq_true, if_false, Bool.not_false, if_true]
  refine wpAny_bind (m := tryCompare u _ (.ref x)) (decl _ ?_)
  refine wpAny_bind (m := tryCompare (.ref x) _ u) (wpAny_mono one (fun r s' z => ?_) fun _ _ e => e)
  obtain ⟨v, rfl, hq⟩ := z
  exact wpAny_pure hq
end
def dtB : D → Bool
  | .none => true
  | .bool _ => true
  | .int _ => true
  | .str _ => true
  | .tup _ => true
  | .prs _ => true
  | .lst _ => true
  | .scr _ => true
  | .dct _ _ => true
  | .kd _ _ => true
  | _ => false
/-- a value's built-in class; its == and != decline beside an instance -/
structure Dec (P : Program) (W : World) (K : PySem.W.Frag) (C q : Addr) (u : Value) (s : Shared) : Prop where
  ex : ∃ T, s.TypeIs u T ∧ PySem.W.mroIn K C (.type T) = some false ∧ (∀ (A : Around) (E : Value → Shared → Prop) (Q : Option Value → Shared → Prop), Q none s → wpAny (model P W) A (tryCompare u "__eq__" (.ref q)) Q E s) ∧
    (∀ (A : Around) (E : Value → Shared → Prop) (Q : Option Value → Shared → Prop), Q none s → wpAny (model P W) A (tryCompare u "__ne__" (.ref q)) Q E s)
section
variable {P : Program} {W : World} {K : PySem.W.Frag} {C q : Addr} {s : Shared} {d2 : Option Addr} {sl2 : Array (Option Value)}
theorem dec_none (n : PySem.W.mroIn K C (.type "NoneType") = some false) : Dec P W K C q .none s :=
  ⟨"NoneType", rfl, n, fun A E Q h => wpAny_tryCompare_declines (show s.TypeIs .none "NoneType" from rfl) F.slot_NoneType_eq (call_gives F.slot_NoneType_eq rfl F.entry_NoneType_eq (F.args_NoneType_eq_2 _ _) (PySem.SeqAt.NoneType___eq___none_ref_0 q) ⟨rfl, h⟩),
    fun A E Q h => wpAny_tryCompare_declines (show s.TypeIs .none "NoneType" from rfl) F.slot_NoneType_ne (call_gives F.slot_NoneType_ne rfl F.entry_NoneType_ne (F.args_NoneType_ne_2 _ _) (PySem.SeqAt.NoneType___ne___none_ref_0 q) ⟨rfl, h⟩)⟩
theorem dec_bool (b : Bool) (n : PySem.W.mroIn K C (.type "bool") = some false) (hq : s.heap.get? q = some { cls := .ref C, dict := d2, data := .plain, slots := sl2 }) : Dec P W K C q (.bool b) s :=
  ⟨"bool", rfl, n, fun A E Q h => wpAny_tryCompare_declines (show s.TypeIs (.bool b) "bool" from rfl) F.slot_bool_eq (call_meets F.slot_bool_eq rfl F.entry_int_eq (F.args_int_eq_2 _ _) (bool_eq_i b q C d2 sl2) ⟨hq, rfl, h⟩),
    fun A E Q h => wpAny_tryCompare_declines (show s.TypeIs (.bool b) "bool" from rfl) F.slot_bool_ne (call_meets F.slot_bool_ne rfl F.entry_int_ne (F.args_int_ne_2 _ _) (bool_ne_i b q C d2 sl2) ⟨hq, rfl, h⟩)⟩
theorem dec_int (b : Int) (t : Tok) (n : PySem.W.mroIn K C (.type "int") = some false) (hq : s.heap.get? q = some { cls := .ref C, dict := d2, data := .plain, slots := sl2 }) : Dec P W K C q (.int b t) s :=
  ⟨"int", typeIs_int s b t, n, fun A E Q h => wpAny_tryCompare_declines (typeIs_int s b t) F.slot_int_eq (call_meets F.slot_int_eq (typeIs_int s b t) F.entry_int_eq (F.args_int_eq_2 _ _) (int_eq_i b t q C d2 sl2) ⟨hq, rfl, h⟩),
    fun A E Q h => wpAny_tryCompare_declines (typeIs_int s b t) F.slot_int_ne (call_meets F.slot_int_ne (typeIs_int s b t) F.entry_int_ne (F.args_int_ne_2 _ _) (int_ne_i b t q C d2 sl2) ⟨hq, rfl, h⟩)⟩
theorem dec_str (b : Str) (t : Tok) (n : PySem.W.mroIn K C (.type "str") = some false) (hq : s.heap.get? q = some { cls := .ref C, dict := d2, data := .plain, slots := sl2 }) : Dec P W K C q (.str b t) s :=
  ⟨"str", typeIs_str s b t, n, fun A E Q h => wpAny_tryCompare_declines (typeIs_str s b t) F.slot_str_eq (call_meets F.slot_str_eq (typeIs_str s b t) F.entry_str_eq (F.args_str_eq_2 _ _) (str_eq_i b t q C d2 sl2) ⟨hq, rfl, h⟩),
    fun A E Q h => wpAny_tryCompare_declines (typeIs_str s b t) F.slot_str_ne (call_meets F.slot_str_ne (typeIs_str s b t) F.entry_str_ne (F.args_str_ne_2 _ _) (str_ne_i b t q C d2 sl2) ⟨hq, rfl, h⟩)⟩
theorem dec_list (l : Addr) {items : Array Value} {n0 : Nat} {dd : Option Addr} {sl : Array (Option Value)} (X : K.In s.heap) (n : PySem.W.mroIn K C (.type "list") = some false) (hl : s.heap.get? l = some { cls := .type "list", dict := dd, data := .seq items n0, slots := sl }) (hq : s.heap.get? q = some { cls := .ref C, dict := d2, data := .plain, slots := sl2 }) : Dec P W K C q (.ref l) s :=
  ⟨"list", ⟨_, hl, rfl⟩, n, fun A E Q h => wpAny_tryCompare_declines ⟨_, hl, rfl⟩ F.slot_list_eq (call_meets F.slot_list_eq ⟨_, hl, rfl⟩ F.entry_list_eq (F.args_list_eq_2 _ _) (list_eq_i l q C items n0 dd d2 sl sl2) ⟨hl, hq, fun _ _ _ _ _ h => (PySem.W.looks_mroIn X n).here h, rfl, h⟩),
    fun A E Q h => wpAny_tryCompare_declines ⟨_, hl, rfl⟩ F.slot_list_ne (call_meets F.slot_list_ne ⟨_, hl, rfl⟩ F.entry_list_ne (F.args_list_ne_2 _ _) (list_ne_i l q C items n0 dd d2 sl sl2) ⟨hl, hq, fun _ _ _ _ _ h => (PySem.W.looks_mroIn X n).here h, rfl, h⟩)⟩
theorem dec_tuple (l : Addr) {items : Array Value} {n0 : Nat} {dd : Option Addr} {sl : Array (Option Value)} (X : K.In s.heap) (n : PySem.W.mroIn K C (.type "tuple") = some false) (hl : s.heap.get? l = some { cls := .type "tuple", dict := dd, data := .seq items n0, slots := sl }) (hq : s.heap.get? q = some { cls := .ref C, dict := d2, data := .plain, slots := sl2 }) : Dec P W K C q (.ref l) s :=
  ⟨"tuple", ⟨_, hl, rfl⟩, n, fun A E Q h => wpAny_tryCompare_declines ⟨_, hl, rfl⟩ F.slot_tuple_eq (call_meets F.slot_tuple_eq ⟨_, hl, rfl⟩ F.entry_tuple_eq (F.args_tuple_eq_2 _ _) (tuple_eq_i l q C items n0 dd d2 sl sl2) ⟨hl, hq, fun _ _ _ _ _ h => (PySem.W.looks_mroIn X n).here h, rfl, h⟩),
    fun A E Q h => wpAny_tryCompare_declines ⟨_, hl, rfl⟩ F.slot_tuple_ne (call_meets F.slot_tuple_ne ⟨_, hl, rfl⟩ F.entry_tuple_ne (F.args_tuple_ne_2 _ _) (tuple_ne_i l q C items n0 dd d2 sl sl2) ⟨hl, hq, fun _ _ _ _ _ h => (PySem.W.looks_mroIn X n).here h, rfl, h⟩)⟩
theorem dec_dict (l : Addr) {items : Array DictEntry} {n0 : Nat} {dd : Option Addr} {sl : Array (Option Value)} (X : K.In s.heap) (n : PySem.W.mroIn K C (.type "dict") = some false) (hl : s.heap.get? l = some { cls := .type "dict", dict := dd, data := .dict items n0, slots := sl }) (hq : s.heap.get? q = some { cls := .ref C, dict := d2, data := .plain, slots := sl2 }) : Dec P W K C q (.ref l) s :=
  ⟨"dict", ⟨_, hl, rfl⟩, n, fun A E Q h => wpAny_tryCompare_declines ⟨_, hl, rfl⟩ F.slot_dict_eq (call_meets F.slot_dict_eq ⟨_, hl, rfl⟩ F.entry_dict_eq (F.args_dict_eq_2 _ _) (dict_eq_i l q C items n0 dd d2 sl sl2) ⟨hl, hq, fun _ _ _ _ _ h => (PySem.W.looks_mroIn X n).here h, rfl, h⟩),
    fun A E Q h => wpAny_tryCompare_declines ⟨_, hl, rfl⟩ F.slot_dict_ne (call_meets F.slot_dict_ne ⟨_, hl, rfl⟩ F.entry_dict_ne (F.args_dict_ne_2 _ _) (dict_ne_i l q C items n0 dd d2 sl sl2) ⟨hl, hq, fun _ _ _ _ _ h => (PySem.W.looks_mroIn X n).here h, rfl, h⟩)⟩
end
end Hf

set_option Elab.async false
set_option linter.all false
set_option maxRecDepth 100000
set_option maxHeartbeats 4000000
namespace Hf
open PySem PySem.Spec PyProof.Rows L2
section
variable {g : Gs} {w : Wd} {H : Hp} {X : Cx} {pins : List (Addr × Obj)} {σ : L2.St} {s : Shared} {k c lv : Nat} {f : Fn} {E : XK}
theorem Rep.dec (I : Inv X pins σ H s) (hK : X.K = g.K) (hs : Same w.P H) (N : EqN g k c f) {q : Addr} {d2 : Option Addr} {sl2 : Array (Option Value)} (hq : s.heap.get? q = some { cls := .ref (g.cl c), dict := d2, data := .plain, slots := sl2 }) :
    ∀ (d : D) (v : V) (u : Value), dtB d = true → Rep g w d v → RelV v u → Dec X.prog X.w X.K (g.cl c) q u s
  | .none, v, u, _, h, r => by simp only [Rep] at h; subst h; cases r; exact dec_none (hK ▸ N.nT _ (by simp))
  | .bool b, v, u, _, h, r => by simp only [Rep] at h; subst h; cases r; exact dec_bool b (hK ▸ N.nT _ (by simp)) hq
  | .int b, v, u, _, h, r => by simp only [Rep] at h; subst h; obtain ⟨t, rfl⟩ := r; exact dec_int b t (hK ▸ N.nT _ (by simp)) hq
  | .str b, v, u, _, h, r => by simp only [Rep] at h; subst h; obtain ⟨t, rfl⟩ := r; exact dec_str b t (hK ▸ N.nT _ (by simp)) hq
  | .tup ds, v, u, _, h, r => by
    simp only [Rep] at h
    obtain ⟨a, vs, rfl, q0, rr⟩ := h
    cases r
    obtain ⟨its, rv, ⟨⟨cls, dd, data, sl⟩, ho, hc, n, hd⟩, _⟩ := I.tuple (hK ▸ sqT_mono hs q0.T)
    simp only at hc hd
    subst hc hd
    exact dec_tuple a I.kIn (hK ▸ N.nT _ (by simp)) ho hq
  | .prs ds, v, u, _, h, r => by
    simp only [Rep] at h
    obtain ⟨a, vs, rfl, q0, rr⟩ := h
    cases r
    obtain ⟨its, rv, ⟨⟨cls, dd, data, sl⟩, ho, hc, n, hd⟩, _⟩ := I.tuple (hK ▸ sqT_mono hs q0)
    simp only at hc hd
    subst hc hd
    exact dec_tuple a I.kIn (hK ▸ N.nT _ (by simp)) ho hq
  | .lst ds, v, u, _, h, r => by
    simp only [Rep] at h
    obtain ⟨a, vs, rfl, q0, rr⟩ := h
    cases r
    obtain ⟨its, rv, ⟨⟨cls, dd, data, sl⟩, n, ho, hc, _, hd⟩, _⟩ := I.list (hK ▸ (.inl (.inl (hs _ _ q0)) : SqL g.K H a vs))
    simp only at hc hd
    subst hc hd
    exact dec_list a I.kIn (hK ▸ N.nT _ (by simp)) ho hq
  | .scr ds, v, u, _, h, r => by
    simp only [Rep] at h
    obtain ⟨a, vs, rfl, q0, rr⟩ := h
    cases r
    obtain ⟨its, rv, ⟨⟨cls, dd, data, sl⟩, n, ho, hc, _, hd⟩, _⟩ := I.list (hK ▸ hs.seq q0)
    simp only at hc hd
    subst hc hd
    exact dec_list a I.kIn (hK ▸ N.nT _ (by simp)) ho hq
  | .dct ks ds, v, u, _, h, r => by
    simp only [Rep] at h
    obtain ⟨a, xs, rfl, q0, e, _, _⟩ := h
    cases r
    obtain ⟨⟨_, _, _, _, ys, hp, ⟨cls, dd, data, sl⟩, es, ep, ho, hx, hd, he⟩, _, _⟩ := I.hok a _ (hs _ _ q0)
    have hc := hx.1
    simp only at hc hd
    subst hc hd
    exact dec_dict a I.kIn (hK ▸ N.nT _ (by simp)) ho hq
  | .kd k x, v, u, _, h, r => by
    simp only [Rep] at h
    obtain ⟨a, rfl, q0⟩ := h
    cases r
    obtain ⟨_, hsm, vs, rv, ⟨cls, dd, data, sl⟩, es, ep, ho, hx, hd, _⟩ := dk_of I.hok (hs _ _ q0)
    have hc := hx.1
    simp only at hc hd
    subst hc hd
    exact dec_dict a I.kIn (hK ▸ N.nT _ (by simp)) ho hq
  | .inst c' ds, v, u, h, _, _ => by cases h
  | .box n, v, u, h, _, _ => by cases h
  | .cls n, v, u, h, _, _ => by cases h
  | .ptr n, v, u, h, _, _ => by cases h
  | .fnT n, v, u, h, _, _ => by cases h
/-- data == x, data != x of an own instance x on the right -/
def rEqR (g : Gs) (c : Nat) (f : Fn) (neg : Bool → Bool) : R2 := fun x y H Q => ∃ a dx fs w d, y = .ref a ∧ H a = some (.ins (g.cl c) dx fs) ∧ Same w.P H ∧ Rep g w d x ∧ dtB d = true ∧ spF g f [.ref a, x] H (fun r H' => ∃ b, r = .bl b ∧ Q (.bl (neg b)) H') E0
theorem op_eqR (ok : OkC g E lv X) (N : EqN g k c f) (hk : k ≤ lv) : OpR X (compareOp .Eq) (rEqR g c f fun b => b) := by
  intro pins s σ H x y v u Q I rx ry h
  obtain ⟨q0, dx, fs, w, d, rfl, hi, hs, hr, ht, q⟩ := h
  cases ry
  obtain ⟨od, J⟩ := inst_at I hi
  have D0 := Rep.dec I ok.K hs N J.at_ d x v ht hr rx
  obtain ⟨fa, F, hf, hfn, hc⟩ := N.d
  obtain ⟨prog, w', K, mg, base, A, N, s_0, H_0, env, outer, stack, ex, fn, calm, pn, xe⟩ := X
  obtain ⟨⟨h1, h2, h3, h4, h5, h6, h7, hfx⟩, h8, h9⟩ := ok
  simp only at h1 h2 h4 h5 h6 h7
  subst h1 h2 h5 h6 h7
  obtain ⟨T, hT, hm, de, dn⟩ := D0.ex
  have hr2 := h8.mono hk
  refine cmpR_K (by have z : A.units + 100 < cLine := h4; show A.units < cLine; omega) I.kIn hT J hm (fun Q' hq' => de _ _ _ hq') hf hfn (wpAny_mono (run_nox (E' := _) (us := [.ref q0, v]) (vs := [.ref q0, x]) F hr2 I.env0 I (.cons rfl (.cons rx .nil)) q) (fun r s1 hr => ?_) fun _ _ z => z)
  obtain ⟨z, H1, I1, rz, b, rfl, q1⟩ := hr
  obtain rfl : r = .bool b := rz
  exact ⟨b, rfl, .bl b, H1, I1, rfl, q1⟩
theorem op_neR (ok : OkC g E lv X) (N : EqN g k c f) (hk : k + 1 ≤ lv) : OpR X (compareOp .NotEq) (rEqR g c f fun b => !b) := by
  intro pins s σ H x y v u Q I rx ry h
  obtain ⟨q0, dx, fs, w, d, rfl, hi, hs, hr, ht, q⟩ := h
  cases ry
  obtain ⟨od, J⟩ := inst_at I hi
  have D0 := Rep.dec I ok.K hs N J.at_ d x v ht hr rx
  have hne := N.ne
  obtain ⟨fa, F, hf, hfn, hfi, hc⟩ := N.d
  obtain ⟨prog, w', K, mg, base, A, N, s_0, H_0, env, outer, stack, ex, fn, calm, pn, xe⟩ := X
  obtain ⟨⟨h1, h2, h3, h4, h5, h6, h7, hfx⟩, h8, h9⟩ := ok
  simp only at h1 h2 h4 h5 h6 h7
  subst h1 h2 h5 h6 h7
  obtain ⟨T, hT, hm, de, dn⟩ := D0.ex
  have hr2 := (h8.mono hk).in1
  have hmo := (hfx.cls c hc).hm
  refine cmpRNe_K (by have z : A.units + 100 < cLine := h4; show A.units + 1 < cLine; omega) I.kIn hT J hm hmo (fun Q' hq' => dn _ _ _ hq') hne hf hfn (wpAny_mono (run_nox (E' := _) (us := [.ref q0, v]) (vs := [.ref q0, x]) F hr2 I.env0.in1 I (.cons rfl (.cons rx .nil)) q) (fun r s1 hr => ?_) fun _ _ z => z)
  obtain ⟨z, H1, I1, rz, b, rfl, q1⟩ := hr
  obtain rfl : r = .bool b := rz
  exact ⟨b, rfl, .bl (!b), H1, I1, rfl, q1⟩
/-- what it means: data beside an own instance on the right -/
def fEqR (c : Nat) (f : Fn) (neg : Bool → Bool) (dflt : D → D → Bs → Rs D) : D → D → Bs → Rs D := fun d e B =>
  match e with
  | .inst c' es => if c' = c ∧ dtB d = true then toBn neg (f [.inst c' es, d] B) else dflt d e B
  | _ => dflt d e B
/-- what it means: an own instance on the left, all else as told -/
def fEqI (c : Nat) (f : Fn) (neg : Bool → Bool) (dflt : D → D → Bs → Rs D) : D → D → Bs → Rs D := fun d e B =>
  match d with
  | .inst c' es => if c' = c ∧ tyB c e = true then toBn neg (f [.inst c' es, e] B) else dflt d e B
  | _ => dflt d e B
/-- an operation on kept values -/
def OpSemN (g : Gs) (E : XK) (H0 : Hp) (r : R2) (f : D → D → Bs → Rs D) : Prop := ∀ (w : Wd) (σI : Sl) (B : Bs) (σ : L2.St) (H : Hp) (Q : VK) (x y : V) (dx dy : D),
  S0 g H0 w σI B σ H → Rep g w dx x → Rep g w dy y → PostE g E w H σI σ false Q (f dx dy B) → r x y H Q
variable {H0 : Hp} {neg : Bool → Bool} {dflt : D → D → Bs → Rs D} {r2 : R2}
theorem osn_of {fn : D → D → Bs → Rs D} (h : OpSem g E H0 r2 fn) : OpSemN g E H0 r2 fn := fun w σI B σ H Q x y dx dy s rx ry p => h w σI B σ H Q x y dx dy s (.inl rx) (.inl ry) p
theorem osn_eqI (h : OpSemN g E H0 r2 dflt) : OpSemN g E H0 (fun x y H Q => rEqO g c f neg x y H Q ∨ r2 x y H Q) (fEqI c f neg dflt) := by
  intro w σI B σ H Q x y dx dy s rx ry p
  unfold fEqI at p
  split at p
  · rename_i c' es
    split at p
    · rename_i hc'
      obtain ⟨rfl, ht⟩ := hc'
      have hr := rx
      simp only [Rep] at hr
      obtain ⟨q0, dd, vs, rfl, hi, hl, hh, rr⟩ := hr
      refine .inl ⟨q0, dd, _, w, _, rfl, s.rb.sub _ _ hi, s.rb.sub, ry, ht, w, _, B, s.rb, ?_, toBn_go0 p⟩
      simp only [Reps]
      exact ⟨_, _, rfl, rx, _, _, rfl, ry, rfl⟩
    · exact .inr (h w σI B σ H Q x y _ dy s rx ry p)
  · exact .inr (h w σI B σ H Q x y dx dy s rx ry p)
theorem osn_eqR (h : OpSemN g E H0 r2 dflt) : OpSemN g E H0 (fun x y H Q => rEqR g c f neg x y H Q ∨ r2 x y H Q) (fEqR c f neg dflt) := by
  intro w σI B σ H Q x y dx dy s rx ry p
  unfold fEqR at p
  split at p
  · rename_i c' es
    split at p
    · rename_i hc'
      obtain ⟨rfl, ht⟩ := hc'
      have hr := ry
      simp only [Rep] at hr
      obtain ⟨q0, dd, vs, rfl, hi, hl, hh, rr⟩ := hr
      refine .inl ⟨q0, dd, _, w, _, rfl, s.rb.sub _ _ hi, s.rb.sub, rx, ht, w, _, B, s.rb, ?_, toBn_go0 p⟩
      simp only [Reps]
      exact ⟨_, _, rfl, ry, _, _, rfl, rx, rfl⟩
    · exact .inr (h w σI B σ H Q x y dx _ s rx ry p)
  · exact .inr (h w σI B σ H Q x y dx dy s rx ry p)
variable {ma mb : Ev} {a b : Expr} {pos : Pos} {k2 c2 : Nat} {f2 : Fn}
theorem osn_go {fn : D → D → Bs → Rs D} (h : OpSemN g E H0 r2 fn) (ha : Snd g E H0 X false a ma) (hb : Snd g E H0 X false b mb) : ∀ σ H Q, tI g E H0 false (mBin fn ma mb) σ H Q → tOp r2 (tI g E H0 false ma) (tI g E H0 false mb) σ H Q := by
  rintro σ H Q ⟨w, σI, B, s, p⟩
  refine tI_bind s p fun d B1 w1 v H1 x1 s1 r1 p1 => ?_
  refine tI_bind s1 p1 fun d2 B2 w2 v2 H2 x2 s2 r2 p2 => ?_
  exact h w2 σI B2 σ H2 Q v v2 d d2 s2 (Rep.mono x2.le _ _ r1) r2 p2
theorem s_eqX (ok : OkC g E lv X) (N : EqN g k c f) (N2 : EqN g k2 c2 f2) (hk : k ≤ lv) (hk2 : k2 ≤ lv) (ha : Snd g E H0 X false a ma) (hb : Snd g E H0 X false b mb) (hm : behindInMarks .Eq b = false := by rfl) :
    Snd g E H0 X false (.Compare a [.Eq] [b] pos) (mBin (fEqI c f (fun b => b) (fEqI c2 f2 (fun b => b) (fEqR c f (fun b => b) fEq))) ma mb) :=
  weak (pe_cmpR ((op_eqO ok N hk).or ((op_eqO ok N2 hk2).or ((op_eqR ok N hk).or (ok.K ▸ op_eqD (by have := ok.un; omega))))) ha hb hm) (osn_go (osn_eqI (osn_eqI (osn_eqR (osn_of os_eq)))) ha hb)
theorem s_neX (ok : OkC g E lv X) (N : EqN g k c f) (N2 : EqN g k2 c2 f2) (hk : k + 1 ≤ lv) (hk2 : k2 + 1 ≤ lv) (ha : Snd g E H0 X false a ma) (hb : Snd g E H0 X false b mb) (hm : behindInMarks .NotEq b = false := by rfl) :
    Snd g E H0 X false (.Compare a [.NotEq] [b] pos) (mBin (fEqI c f (fun b => !b) (fEqI c2 f2 (fun b => !b) (fEqR c f (fun b => !b) fNe))) ma mb) :=
  weak (pe_cmpR ((op_neO ok N hk).or ((op_neO ok N2 hk2).or ((op_neR ok N hk).or (ok.K ▸ op_neD (by have := ok.un; omega))))) ha hb hm) (osn_go (osn_eqI (osn_eqI (osn_eqR (osn_of os_ne)))) ha hb)
end
end Hf

set_option Elab.async false
set_option linter.all false
set_option maxRecDepth 100000
set_option maxHeartbeats 4000000
namespace Hf
open PySem PySem.Spec PyProof.Rows L2 PySem.SeqAt
open AutoSeq1 (wpAny_loadPart')
open MeetsSeq MeetsSeq2 MeetsSeq3 SeqRoads2
/-! ### == of two tuples whose items are compared by running code -/
section
variable {pg : Program} {wd : World} {ar : Around} {Z : Result → Shared → Prop}
theorem tup_eqH (p q : Addr) (us vs : Array Value) (m m2 : Nat) (dp dq : Option Addr) (lp lq : Array (Option Value)) (same : us.size = vs.size) (J : Nat → Shared → Prop)
    (step : ∀ k (g1 : k < us.size) (g2 : k < vs.size) t, J k t → wpAny (model pg wd) ar.in1 (eqBool us[k] vs[k]) (fun r t' => (r = true ∧ J (k + 1) t') ∨ (r = false ∧ Z (.ok (.ret (.bool false))) t')) (fun e t' => Z (.error e) t') t)
    (done : ∀ t, J us.size t → Z (.ok (.ret (.bool true))) t) {t : Shared} (hp : t.heap.get? p = some { cls := .type "tuple", dict := dp, data := .seq us m, slots := lp }) (hq : t.heap.get? q = some { cls := .type "tuple", dict := dq, data := .seq vs m2, slots := lq }) (h : J 0 t) :
    wpAny (model pg wd) ar.in1 (Builtin.«tuple.__eq__» ⟨[.ref p, .ref q], []⟩) (GQ.FinOf pg wd ar Z) (fun e t' => Z (.error e) t') t := by
  have sub := AutoSeq1.sub_tuple_tuple
  have hW : (us.toList.zip vs.toList).length = us.size := by simp [same]
  have h0 := h
  obtain ⟨hp', g, d, tk, os⟩ := t
  wp_walk using wpAny_loadPart' hp, wpAny_loadPart' hq, wpAny_forIn_list _ (fun tail b t' => (b.1 = none ∧ ∃ k, tail = (us.toList.zip vs.toList).drop k ∧ k ≤ us.size ∧ J k t')) _
  case turn =>
    rintro ⟨y, x⟩ tail b t' ⟨hb', k, hz, hk, hJ⟩
    have hlt : k < (us.toList.zip vs.toList).length := by
      rcases Nat.lt_or_ge k (us.toList.zip vs.toList).length with h' | h'
      · exact h'
      · rw [List.drop_of_length_le h'] at hz; cases hz
    have g1 : k < us.size := hW ▸ hlt
    have g2 : k < vs.size := same ▸ g1
    rw [List.drop_eq_getElem_cons hlt] at hz
    injection hz with hyx htail
    have hy : y = us[k] := by have := congrArg Prod.fst hyx; simpa using this
    have hx : x = vs[k] := by have := congrArg Prod.snd hyx; simpa using this
    subst hy hx
    refine wpAny_bind (wpAny_mono (step k g1 g2 t' hJ) (fun r t2 q2 => ?_) fun _ _ x => x)
    rcases q2 with ⟨hr, q2⟩ | ⟨hr, q2⟩
    · subst hr
      wp_walk
      exact ⟨rfl, k + 1, htail, g1, q2⟩
    · subst hr
      wp_walk
      exact q2
  case fin =>
    rintro ⟨b1, b2⟩ t' ⟨hb', k, hz, hk, hJ⟩
    simp only at hb'
    subst hb'
    have hge : us.size ≤ k := by
      rcases Nat.lt_or_ge k (us.toList.zip vs.toList).length with h' | h'
      · rw [List.drop_eq_getElem_cons h'] at hz; cases hz
      · exact hW ▸ h'
    have hk' : k = us.size := by omega
    have hZ : Z (.ok (.ret (.bool true))) t' := done t' (hk' ▸ hJ)
    wp_walk
    simpa [Builtin.Tuple.tupleCompareSizes, same] using hZ
  case h =>
    exact ⟨rfl, 0, rfl, Nat.zero_le _, h0⟩
end
section
variable {pg : Program} {wd : World} {ar : Around} {E : Value → Shared → Prop} {t : Shared}
theorem rc_tupH {p q : Addr} {us vs : Array Value} {Q : Value → Shared → Prop} (same : us.size = vs.size) (hu : ar.units < cLine) (J : Nat → Shared → Prop)
    (hp : t.heap.IsTuple p us) (hq : t.heap.IsTuple q vs)
    (step : ∀ k (g1 : k < us.size) (g2 : k < vs.size) t, J k t → wpAny (model pg wd) ar.in1 (eqBool us[k] vs[k]) (fun r t' => (r = true ∧ J (k + 1) t') ∨ (r = false ∧ Q (.bool false) t')) E t)
    (done : ∀ t, J us.size t → Q (.bool true) t) (h : J 0 t) : wpAny (model pg wd) ar (richCompare .Eq (.ref p) (.ref q)) Q E t := by
  obtain ⟨⟨c1, dp, da, lp⟩, ho, hc, m, hd⟩ := id hp
  obtain ⟨⟨c2, dq, db, lq⟩, ho2, hc2, m2, hd2⟩ := id hq
  simp only at hc hd hc2 hd2
  subst hc hd hc2 hd2
  refine wpAny_richCompare_same_room (op := .Eq) ⟨_, ho, rfl⟩ ⟨_, ho2, rfl⟩ F.slot_tuple_eq (GQ.call_here F.slot_tuple_eq ⟨_, ho, rfl⟩ F.entry_tuple_eq (F.args_tuple_eq_2 _ _) ?_) hu
  exact tup_eqH (Z := wants (fun v t' => v ≠ .notImplemented ∧ Q v t') E) p q us vs m m2 dp dq lp lq same J
    (fun k g1 g2 t hJ => wpAny_mono (step k g1 g2 t hJ) (fun r t' z => z.imp id fun z => ⟨z.1, (fun x => nomatch x), z.2⟩) fun _ _ z => z) (fun t' z => ⟨(fun x => nomatch x), done t' z⟩) ho ho2 h
theorem eqBool_self {p : Addr} {Q : Bool → Shared → Prop} (h : Q true t) : wpAny (model pg wd) ar (eqBool (.ref p) (.ref p)) Q E t := by
  unfold eqBool
  refine wpAny_holding (wpAny_ite_split (fun _ => ?_) (fun z => absurd (by simp) z))
  first
  | exact wpAny_pure h
  | exact wpAny_bind (wpAny_rule (wpAny_pure h))
end
def all2 : List V → List V → Bool
  | [], [] => true
  | x :: xs, y :: ys => eqV x y && all2 xs ys
  | _, _ => false
theorem all2_drop {xs ys : List V} (hl : xs.length = ys.length) {k : Nat} {x y : V} (hx : xs[k]? = some x) (hy : ys[k]? = some y) : all2 (xs.drop k) (ys.drop k) = (eqV x y && all2 (xs.drop (k + 1)) (ys.drop (k + 1))) := by
  obtain ⟨h1, rfl⟩ := List.getElem?_eq_some_iff.mp hx
  obtain ⟨h2, rfl⟩ := List.getElem?_eq_some_iff.mp hy
  rw [List.drop_eq_getElem_cons h1, List.drop_eq_getElem_cons h2, all2]
section
variable {g : Gs} {w : Wd} {H : Hp} {X : Cx} {pins : List (Addr × Obj)} {σ : L2.St} {s : Shared} {k c lv : Nat} {f : Fn} {E : XK}
/-- (x, plain ...) == (y, plain ...) of two own instances x and y -/
def rEqTO (g : Gs) (c : Nat) (f : Fn) : R2 := fun x y H Q => ∃ a b i j xs ys e, x = .ref a ∧ y = .ref b ∧ SqT g.K H a (.ref i :: xs) ∧ SqT g.K H b (.ref j :: ys) ∧ xs.length = ys.length ∧ (∀ v ∈ xs, flatV v = true) ∧ (∀ v ∈ ys, flatV v = true) ∧
  (∃ dx dy fs gs n u v p q w d, H i = some (.ins (g.cl c) dx fs) ∧ fs.lookup n = some u ∧ H j = some (.ins (g.cl c) dy gs) ∧ gs.lookup n = some v ∧ Dp g.K H u p ∧ Dp g.K H v q ∧ p.canLay0 = true ∧ e = PyData.eqv p q ∧ Same w.P H ∧ Rep g w d (.ref j) ∧ tyB c d = true) ∧
  Q (.bl (e && all2 xs ys)) H ∧ spF g f [.ref i, .ref j] H (fun r H' => r = .bl e ∧ Q (.bl (e && all2 xs ys)) H') E0
def tupJ (X : Cx) (pins : List (Addr × Obj)) (σ : L2.St) (Q : VK) (e : Bool) (xs ys : List V) (s : Shared) (k : Nat) (s' : Shared) : Prop :=
  (k = 0 ∧ s' = s) ∨ ∃ H', k ≠ 0 ∧ Inv X pins σ H' s' ∧ e = true ∧ Q (.bl (all2 xs ys)) H' ∧ all2 xs ys = all2 (xs.drop (k - 1)) (ys.drop (k - 1))
theorem op_eqTO (ok : OkC g E lv X) (N : EqN g k c f) (hk : k + 1 ≤ lv) : OpR X (compareOp .Eq) (rEqTO g c f) := by
  intro pins s σ H x y v u Q I rx ry h
  obtain ⟨a, b, i, j, xs, ys, e, rfl, rfl, ta, tb, hl, fx, fy, ⟨dx, dy, fs, gs, n, fu, fv, pu, pv, w, d, hi, hfu, hj, hfv, du, dv, cl, he, hs, hr, ht⟩, q0, q⟩ := h
  cases rx
  cases ry
  obtain ⟨its, r1, e1, z1⟩ := I.tuple (ok.K ▸ ta)
  obtain ⟨its2, r2, e2, z2⟩ := I.tuple (ok.K ▸ tb)
  have hsz : its.toArray.size = its2.toArray.size := by
    rw [List.size_toArray, List.size_toArray, ← r1.length, ← r2.length]
    simp [hl]
  obtain ⟨tyb, lk, nf⟩ := Rep.ty I ok.K hs N d (.ref j) (.ref j) ht hr rfl
  have hself : i = j → e = true := fun z => by
    subst z
    rw [hi] at hj
    cases hj
    rw [hfu] at hfv
    cases hfv
    obtain ⟨mA, J, hv, _⟩ := ins_get I.hok hi
    have hv' := hv n
    rw [hfu] at hv'
    have : ∃ fz, mA n = some fz ∧ RelV fu fz := by
      cases hm : mA n with
      | none => rw [hm] at hv'; exact hv'.elim
      | some fz => rw [hm] at hv'; exact ⟨fz, rfl, hv'⟩
    obtain ⟨fz, _, rz⟩ := this
    obtain ⟨as1, z1⟩ := Dp.reads I pu fu fz (ok.K ▸ du) rz
    obtain ⟨as2, z2⟩ := Dp.reads I pv fu fz (ok.K ▸ dv) rz
    rw [he, ← Reads.unique pu pv fz as1 as2 cl z1 z2]
    exact eqv_refl pu cl
  obtain ⟨fa, F, hf, hfn, hc⟩ := N.d
  obtain ⟨prog, w', K, mg, base, A, N', s_0, H_0, env, outer, stack, ex, fn, calm, pn, xe⟩ := X
  obtain ⟨⟨h1, h2, h3, h4, h5, h6, h7, hfx⟩, h8, h9⟩ := ok
  simp only at h1 h2 h4 h5 h6 h7
  subst h1 h2 h5 h6 h7
  have hu : A.units < cLine := by have z : A.units + 100 < cLine := h4; omega
  have hr1 := (h8.mono hk).in1
  cases r1 with
  | cons r0 r1 =>
  rename_i v0 ws
  cases r0
  cases r2 with
  | cons r0 r2 =>
  rename_i v0 ws2
  cases r0
  refine rc_tupH hsz hu (tupJ ⟨g.prog, g.w, g.K, g.mg, g.base, A, N', s_0, H_0, env, outer, stack, ex, fn, calm, pn, xe⟩ pins σ Q e xs ys s) e1 e2 (fun k g1 g2 s' hJ => ?_) (fun s' hJ => ?_) (.inl ⟨rfl, rfl⟩)
  · rcases hJ with ⟨rfl, rfl⟩ | ⟨H', hne, I', he', hq', ha'⟩
    · show wpAny _ _ (eqBool (.ref i) (.ref j)) _ _ _
      by_cases hij : i = j
      · subst hij
        have ee := hself rfl
        refine eqBool_self (.inl ⟨rfl, .inr ⟨H, by omega, I, ee, ?_, rfl⟩⟩)
        rw [ee] at q0
        simpa using q0
      · obtain ⟨od, J⟩ := inst_at I hi
        obtain ⟨mf, Fm⟩ := I.fr
        refine GQ.eqBool_refG hij ?_
        refine PySem.W.cmp_K (op := .Eq) (tb := tyb) (by have z : A.units + 100 < cLine := h4; show A.in1.units < cLine; simp only [Around.in1]; omega) Fm I.ok.mod.kin J lk nf hf hfn (wpAny_mono (run_nox (E' := _) (us := [.ref i, .ref j]) (vs := [.ref i, .ref j]) F hr1 I.env0.in1 I (.cons rfl (.cons rfl .nil)) q) (fun r s1 hr => ?_) fun _ _ z => z)
        obtain ⟨z, H1, I1, rz, rfl, q1⟩ := hr
        obtain rfl : r = .bool e := rz
        refine ⟨e, rfl, ?_⟩
        cases ee : e with
        | true =>
          rw [ee] at q1
          exact .inl ⟨rfl, .inr ⟨H1, by omega, I1, rfl, by simpa using q1, rfl⟩⟩
        | false =>
          rw [ee] at q1
          exact .inr ⟨rfl, .bl false, H1, I1, rfl, by simpa using q1⟩
    · obtain ⟨m, rfl⟩ : ∃ m, k = m + 1 := ⟨k - 1, by omega⟩
      have k1 : m < ws.length := by simpa using g1
      have k2 : m < ws2.length := by simpa using g2
      have l1 : m < xs.length := by rw [r1.length]; exact k1
      have l2 : m < ys.length := by rw [r2.length]; exact k2
      obtain ⟨u1, hu1, ru1⟩ := (show Vals xs ws from r1).get (List.getElem?_eq_getElem l1)
      obtain ⟨u2, hu2, ru2⟩ := (show Vals ys ws2 from r2).get (List.getElem?_eq_getElem l2)
      rw [List.getElem?_eq_getElem k1] at hu1
      rw [List.getElem?_eq_getElem k2] at hu2
      cases hu1
      cases hu2
      have ad := all2_drop hl (List.getElem?_eq_getElem l1) (List.getElem?_eq_getElem l2)
      simp only [Nat.add_sub_cancel] at ha'
      have q := eqAt_V (A := A.in1) (s := s') ru1 ru2 (fx _ (List.getElem_mem l1)) (fy _ (List.getElem_mem l2))
      refine q _ _ _ _ ?_
      cases ev : eqV xs[m] ys[m] with
      | true =>
        refine .inl ⟨rfl, .inr ⟨H', by omega, I', he', hq', ?_⟩⟩
        rw [ha', ad, ev]
        simp
      | false =>
        refine .inr ⟨rfl, .bl false, H', I', rfl, ?_⟩
        rw [ha', ad, ev] at hq'
        simpa using hq'
  · rcases hJ with ⟨h0, rfl⟩ | ⟨H', hne, I', he', hq', ha'⟩
    · simp at h0
    · refine ⟨.bl true, H', I', rfl, ?_⟩
      have l1 : xs.length ≤ ws.length := Nat.le_of_eq r1.length
      have l2 : ys.length ≤ ws.length := by omega
      rw [ha'] at hq'
      have e1 : xs.drop ((Value.ref i :: ws).toArray.size - 1) = [] := by simp; omega
      have e2 : ys.drop ((Value.ref i :: ws).toArray.size - 1) = [] := by simp; omega
      rw [e1, e2, all2] at hq'
      exact hq'
end
end Hf

set_option Elab.async false
set_option linter.all false
set_option maxRecDepth 100000
set_option maxHeartbeats 4000000
namespace Hf
open PySem PySem.Spec PyProof.Rows L2
def flD : D → Bool
  | .none => true
  | .bool _ => true
  | .int _ => true
  | .str _ => true
  | _ => false
def all2D : List D → List D → Bool
  | [], [] => true
  | d :: ds, e :: es => eqD d e && all2D ds es
  | _, _ => false
/-- == of two tuples that begin with an own instance of one field, then plain values -/
def fEqTO (c : Nat) (dflt : D → D → Bs → Rs D) : D → D → Bs → Rs D := fun d e B =>
  match d, e with
  | .tup (.inst c1 (r1 :: t1) :: ds), .tup (.inst c2 (r2 :: t2) :: es) => if c1 = c ∧ c2 = c ∧ shp r1 = true ∧ shp r2 = true ∧ ds.length = es.length ∧ ds.all flD = true ∧ es.all flD = true then .ok (.bool (eqD r1 r2 && all2D ds es)) B else .bad
  | _, _ => dflt d e B
section
variable {g : Gs} {w : Wd} {H H0 : Hp} {X : Cx} {σ : L2.St} {k c lv : Nat} {f : Fn} {E : XK}
theorem fl_V {d : D} {x : V} (h : flD d = true) (r : Rep g w d x) : flatV x = true := by
  cases d <;> simp [flD] at h <;> simp only [Rep] at r <;> subst r <;> rfl
theorem fl_eq {d e : D} {x y : V} (h : flD d = true) (h2 : flD e = true) (r : Rep g w d x) (r2 : Rep g w e y) : eqV x y = eqD d e := by
  cases d <;> simp [flD] at h <;> cases e <;> simp [flD] at h2 <;> simp only [Rep] at r r2 <;> subst r <;> subst r2 <;> simp [eqV, eqD, toPy, PyData.eqv]
theorem fl_Vs : ∀ {ds : List D} {xs : List V}, ds.all flD = true → Reps g w ds xs → ∀ v ∈ xs, flatV v = true
  | [], xs, _, r => by simp only [Reps] at r; subst r; simp
  | d :: ds, xs, h, r => by
    simp only [Reps] at r
    obtain ⟨v, us, rfl, r1, r2⟩ := r
    simp only [List.all_cons, Bool.and_eq_true] at h
    intro u hu
    rcases List.mem_cons.mp hu with rfl | hu
    · exact fl_V h.1 r1
    · exact fl_Vs h.2 r2 u hu
theorem fl_all2 : ∀ {ds es : List D} {xs ys : List V}, ds.length = es.length → ds.all flD = true → es.all flD = true → Reps g w ds xs → Reps g w es ys → xs.length = ys.length ∧ all2 xs ys = all2D ds es
  | [], [], xs, ys, _, _, _, r, r2 => by simp only [Reps] at r r2; subst r r2; exact ⟨rfl, rfl⟩
  | d :: ds, e :: es, xs, ys, hl, h, h2, r, r2 => by
    simp only [Reps] at r r2
    obtain ⟨v, us, rfl, r1, rr⟩ := r
    obtain ⟨v', us', rfl, r1', rr'⟩ := r2
    simp only [List.all_cons, Bool.and_eq_true] at h h2
    obtain ⟨z1, z2⟩ := fl_all2 (by simpa using hl) h.2 h2.2 rr rr'
    exact ⟨by simp [z1], by rw [all2, all2D, fl_eq h.1 h2.1 r1 r1', z2]⟩
theorem fld_one {r : D} {ts : List D} {vs : List V} {n : Str} {l : List Str} (hf : fldN c = n :: l) (hr : Reps g w (r :: ts) vs) : ∃ v, ((fldN c).zip vs).lookup n = some v ∧ Rep g w r v := by
  simp only [Reps] at hr
  obtain ⟨v, us, rfl, r1, _⟩ := hr
  rw [hf]
  exact ⟨v, by simp [List.zip_cons_cons], r1⟩
theorem osn_eqTO {dflt : D → D → Bs → Rs D} {r2 : R2} (hf : ∀ r1 r2 t1 t2 B, shp r1 = true → shp r2 = true → f [.inst c (r1 :: t1), .inst c (r2 :: t2)] B = .ok (.bool (eqD r1 r2)) B) (h : OpSemN g E H0 r2 dflt) : OpSemN g E H0 (fun x y H Q => rEqTO g c f x y H Q ∨ r2 x y H Q) (fEqTO c dflt) := by
  intro w σI B σ H Q x y dx dy s rx ry p
  unfold fEqTO at p
  split at p
  · rename_i c1 q1 t1 ds c2 q2 t2 es
    split at p
    · rename_i hc
      obtain ⟨rfl, rfl, s1, s2, hl, f1, f2⟩ := hc
      simp only [Rep] at rx ry
      obtain ⟨a, vs, rfl, ta, ra⟩ := rx
      obtain ⟨b, vs', rfl, tb, rb⟩ := ry
      simp only [Reps] at ra rb
      obtain ⟨vi, xs, rfl, ri, rxs⟩ := ra
      obtain ⟨vj, ys, rfl, rj, rys⟩ := rb
      have ri' := ri
      have rj' := rj
      simp only [Rep] at ri rj
      obtain ⟨i, di, us, rfl, hi, li, hh, rui⟩ := ri
      obtain ⟨j, dj, us', rfl, hj, lj, _, ruj⟩ := rj
      obtain ⟨n, lf, en⟩ : ∃ n lf, fldN c2 = n :: lf := by
        cases hfn : fldN c2 with
        | nil => rw [hfn] at li; simp at li
        | cons n lf => exact ⟨n, lf, rfl⟩
      obtain ⟨u, e1, ru⟩ := fld_one en (by simpa only [Reps] using rui)
      obtain ⟨v, e2, rv⟩ := fld_one en (by simpa only [Reps] using ruj)
      obtain ⟨lxy, ea⟩ := fl_all2 hl f1 f2 rxs rys
      have l1 := SeqAt.canLay_of_shaped s1
      have l2 := SeqAt.canLay_of_shaped s2
      refine .inl ⟨a, b, i, j, xs, ys, eqD q1 q2, rfl, rfl, sqT_mono s.rb.sub ta.T, sqT_mono s.rb.sub tb.T, lxy, fl_Vs f1 rxs, fl_Vs f2 rys, ⟨di, dj, _, _, n, u, v, toPy q1, toPy q2, w, _, s.rb.sub _ _ hi, e1, s.rb.sub _ _ hj, e2, Rep.dp s.rb.sub _ _ ru l1, Rep.dp s.rb.sub _ _ rv l2, l1, rfl, s.rb.sub, rj', by simp [tyB]⟩, ?_, w, [.inst c2 (q1 :: t1), .inst c2 (q2 :: t2)], B, s.rb, ?_, ?_⟩
      · rw [ea]; exact p w _ H (Ext.refl _ _) s.rb (rep_bool g w _)
      · simp only [Reps]; exact ⟨_, _, rfl, ri', _, _, rfl, rj', rfl⟩
      · rw [hf _ _ _ _ _ s1 s2]
        intro w' v' H' x' rb' rr'
        simp only [Rep] at rr'
        refine ⟨rr', ?_⟩
        rw [ea]
        exact p w' _ H' x' rb' (rep_bool g w' _)
    · exact p.elim
  · exact .inr (h w σI B σ H Q x y dx dy s rx ry p)
variable {ma mb : Ev} {a b : Expr} {pos : Pos}
theorem s_eqTO (ok : OkC g E lv X) (N : EqN g k c f) (hk : k + 1 ≤ lv) (hf : ∀ r1 r2 t1 t2 B, shp r1 = true → shp r2 = true → f [.inst c (r1 :: t1), .inst c (r2 :: t2)] B = .ok (.bool (eqD r1 r2)) B) (ha : Snd g E H0 X false a ma) (hb : Snd g E H0 X false b mb) (hm : behindInMarks .Eq b = false := by rfl) :
    Snd g E H0 X false (.Compare a [.Eq] [b] pos) (mBin (fEqTO c fEq) ma mb) :=
  weak (pe_cmpR ((op_eqTO ok N hk).or (ok.K ▸ op_eqD (by have := ok.un; omega))) ha hb hm) (osn_go (osn_eqTO hf (osn_of os_eq)) ha hb)
end
end Hf

set_option Elab.async false
set_option linter.all false
set_option maxRecDepth 100000
set_option maxHeartbeats 4000000
namespace Hf
open PySem PySem.Spec PyProof.Rows L2
/-! ### one expression, several classes of what it asks -/
/-- by the class of what m is -/
def mDs (m : Ev) : List (Nat × Ev) → Ev
  | [] => fun _ _ => .bad
  | (c, M) :: r => fun σ B => match m σ B with
    | .ok (.inst c' _) _ => if c' = c then M σ B else mDs m r σ B
    | _ => .bad
theorem mDs_hit {m : Ev} {c : Nat} {M : Ev} {r : List (Nat × Ev)} {σ : Sl} {B B' : Bs} {ds : List D} (h : m σ B = .ok (.inst c ds) B') : mDs m ((c, M) :: r) σ B = M σ B := by
  simp only [mDs, h, if_true]
theorem mDs_miss {m : Ev} {c c' : Nat} {M : Ev} {r : List (Nat × Ev)} {σ : Sl} {B B' : Bs} {ds : List D} (h : m σ B = .ok (.inst c' ds) B') (hc : c' ≠ c) : mDs m ((c, M) :: r) σ B = mDs m r σ B := by
  simp only [mDs, h, if_neg hc]
section
variable {g : Gs} {E : XK} {w0 w : Wd} {H0 H : Hp} {X : Cx} {o e : Expr} {m M me mo : Ev} {r : List (Nat × Ev)} {c : Nat} {bo b1 b2 : Bool} {pos apos cpos : Pos}
theorem s_ds0 : Snd g E H0 X bo e (mDs m []) := ⟨fun pins s σ H Q I ⟨w, σI, B, s0, p⟩ => p.elim⟩
theorem s_ds (h : Snd g E H0 X bo e M) (h2 : Snd g E H0 X bo e (mDs m r)) : Snd g E H0 X bo e (mDs m ((c, M) :: r)) := ⟨fun pins s σ H Q I ⟨w, σI, B, s0, p⟩ => by
  unfold mDs at p
  split at p
  · rename_i c' ds B' hq
    split at p
    · exact h.run pins s σ H Q I ⟨w, σI, B, s0, p⟩
    · exact h2.run pins s σ H Q I ⟨w, σI, B, s0, p⟩
  · exact p.elim⟩
/-! ### methods of a list in a box, whatever expression the box is -/
def mBoxM (F : List D → D → Option (D × List D)) (o e : Ev) : Ev := fun σ B => (o σ B).bind fun v B1 => match v with
  | .box n => match B1[n]? with
    | some (.lst _) => (e σ B1).bind fun d B2 => match B2[n]? with
      | some (.lst ds) => match F ds d with
        | some (r, es) => .ok r (B2.set n (.lst es))
        | Option.none => .bad
      | _ => .bad
    | _ => .bad
  | _ => .bad
def bxApp : List D → D → Option (D × List D) := fun ds d => if ds.length < sizeLine then some (.none, ds ++ [d]) else Option.none
def bxExt : List D → D → Option (D × List D) := fun ds d => match d with
  | .lst zs => if ds.length + zs.length ≤ sizeLine then some (.none, ds ++ zs) else Option.none
  | _ => Option.none
theorem s_appB (ho : Snd g E H0 X false o mo) (he : Snd g E H0 X false e me)
    (hbase : attributeBase o "append" X.env (eval o X.env) = eval o X.env := by rfl)
    (hfew : ((backTo cpos (starEach [e] X.env)).all (fun x => !x.1) && (backToKw cpos (keywordEach [] X.env)).all (fun x => x.1.isSome) && decide ([e].length + ([] : List Keyword).length + (if ([] : List Keyword).isEmpty then 0 else 1) < 30)) = true := by rfl)
    (hline : (apos.endLine == cpos.line) = true := by rfl) (hs : starEach [e] X.env = (false, eval e X.env) :: starEach [] X.env := by rfl) (hpl : (backTo cpos (starEach [] X.env)).any (·.1) = false := by rfl) :
    Snd g E H0 X false (.Call (.Attribute o "append" apos) [e] [] cpos) (mBoxM bxApp mo me) := by
  refine weak (pe_bm PySem.F.plainAttrs_list PySem.F.slot_list_append PySem.F.type_list_append mt_append ho (pa_cons he pa_nil hs) hbase hfew hline hs hpl) ?_
  rintro σ H Q ⟨w, σI, B, s, p⟩
  refine tI_bind s p fun v B1 w1 x H1 x1 s1 r1 p1 => ?_
  split at p1
  · rename_i n
    split at p1
    · rename_i ds0 hb
      have r1' := r1
      simp only [RepB, Rep] at r1'
      obtain ⟨a, rfl, ha⟩ := r1'
      obtain ⟨a', oo, h1, h2, c⟩ := s1.rb.get _ _ hb
      rw [ha] at h1; cases h1
      simp only [Cont] at c
      obtain ⟨vs0, rfl, _⟩ := c
      refine ⟨tyL h2, tI_bind s1 p1 fun d B2 w2 y H2 x2 s2 r2 p2 => ?_⟩
      split at p2
      · rename_i ds hb2
        unfold bxApp at p2
        split at p2
        · rename_i rr es hf
          split at hf
          · rename_i hlt
            cases hf
            have ha2 := x2.le.io _ _ ha
            obtain ⟨a2, o2, h3, h4, c2⟩ := s2.rb.get _ _ hb2
            rw [ha2] at h3; cases h3
            simp only [Cont] at c2
            obtain ⟨vs, rfl, rv⟩ := c2
            refine ⟨a, vs, y, rfl, rfl, h4, by rw [rv.len]; exact hlt, ?_⟩
            exact p2 w2 .non _ ((Ext.refl w2 H2).mutB ha2) (s2.rb.mut ha2 (by simp only [Cont]; exact ⟨_, rfl, Reps.app rv (Reps.one r2)⟩)) (by simp only [RepB, Rep])
          · cases hf
        · exact p2.elim
      · exact p2.elim
    · exact p1.elim
  · exact p1.elim
theorem s_extB (ho : Snd g E H0 X false o mo) (he : Snd g E H0 X false e me)
    (hbase : attributeBase o "extend" X.env (eval o X.env) = eval o X.env := by rfl)
    (hfew : ((backTo cpos (starEach [e] X.env)).all (fun x => !x.1) && (backToKw cpos (keywordEach [] X.env)).all (fun x => x.1.isSome) && decide ([e].length + ([] : List Keyword).length + (if ([] : List Keyword).isEmpty then 0 else 1) < 30)) = true := by rfl)
    (hline : (apos.endLine == cpos.line) = true := by rfl) (hs : starEach [e] X.env = (false, eval e X.env) :: starEach [] X.env := by rfl) (hpl : (backTo cpos (starEach [] X.env)).any (·.1) = false := by rfl) :
    Snd g E H0 X false (.Call (.Attribute o "extend" apos) [e] [] cpos) (mBoxM bxExt mo me) := by
  refine weak (pe_bm PySem.F.plainAttrs_list PySem.F.slot_list_extend PySem.F.type_list_extend mt_extend ho (pa_cons he pa_nil hs) hbase hfew hline hs hpl) ?_
  rintro σ H Q ⟨w, σI, B, s, p⟩
  refine tI_bind s p fun v B1 w1 x H1 x1 s1 r1 p1 => ?_
  split at p1
  · rename_i n
    split at p1
    · rename_i ds0 hb
      have r1' := r1
      simp only [RepB, Rep] at r1'
      obtain ⟨a, rfl, ha⟩ := r1'
      obtain ⟨a', oo, h1, h2, c⟩ := s1.rb.get _ _ hb
      rw [ha] at h1; cases h1
      simp only [Cont] at c
      obtain ⟨vs0, rfl, _⟩ := c
      refine ⟨tyL h2, tI_bind s1 p1 fun d B2 w2 y H2 x2 s2 r2 p2 => ?_⟩
      split at p2
      · rename_i ds hb2
        unfold bxExt at p2
        split at p2
        · rename_i rr es hf
          split at hf
          · rename_i zs
            split at hf
            · rename_i hlt
              cases hf
              have r2' := r2
              simp only [RepB, Rep] at r2'
              obtain ⟨b, vz, rfl, hbz, rz⟩ := r2'
              have ha2 := x2.le.io _ _ ha
              obtain ⟨a2, o2, h3, h4, c2⟩ := s2.rb.get _ _ hb2
              rw [ha2] at h3; cases h3
              simp only [Cont] at c2
              obtain ⟨vs, rfl, rv⟩ := c2
              refine ⟨a, b, vs, vz, rfl, rfl, h4, s2.rb.sub _ _ hbz, by rw [rv.len, rz.len]; exact hlt, ?_⟩
              exact p2 w2 .non _ ((Ext.refl w2 H2).mutB ha2) (s2.rb.mut ha2 (by simp only [Cont]; exact ⟨_, rfl, Reps.app rv rz⟩)) (by simp only [RepB, Rep])
            · cases hf
          · cases hf
        · exact p2.elim
      · exact p2.elim
    · exact p1.elim
  · exact p1.elim
/-- o.pop() -/
def mPop0 (o : Ev) : Ev := fun σ B => (o σ B).bind fun v B1 => match v with
  | .box n => match B1[n]? with
    | some (.lst ds) => match ds[ds.length - 1]? with
      | some d => .ok d (B1.set n (.lst ds.dropLast))
      | Option.none => .bad
    | _ => .bad
  | _ => .bad
theorem s_pop0 (ho : Snd g E H0 X false o mo) (hbase : attributeBase o "pop" X.env (eval o X.env) = eval o X.env := by rfl) (hline : (apos.endLine == cpos.line) = true := by rfl) :
    Snd g E H0 X false (.Call (.Attribute o "pop" apos) [] [] cpos) (mPop0 mo) := by
  refine weak (pe_bm0 PySem.F.plainAttrs_list PySem.F.slot_list_pop PySem.F.type_list_pop mt_pop ho hbase hline) ?_
  rintro σ H Q ⟨w, σI, B, s, p⟩
  refine tI_bind s p fun v B1 w1 x H1 x1 s1 r1 p1 => ?_
  split at p1
  · rename_i n
    split at p1
    · rename_i ds hb
      have r1' := r1
      simp only [RepB, Rep] at r1'
      obtain ⟨a, rfl, ha⟩ := r1'
      obtain ⟨a', oo, h1, h2, c⟩ := s1.rb.get _ _ hb
      rw [ha] at h1; cases h1
      simp only [Cont] at c
      obtain ⟨vs, rfl, rv⟩ := c
      split at p1
      · rename_i d hd
        obtain ⟨u, e2, ru⟩ := Reps.get rv hd
        refine ⟨tyL h2, a, vs, u, rfl, rfl, h2, by rw [rv.len]; exact e2, ?_⟩
        exact p1 w1 u _ ((Ext.refl w1 H1).mutB ha) (s1.rb.mut ha (by simp only [Cont]; exact ⟨_, rfl, rv.dropLast⟩)) ru
      · exact p1.elim
    · exact p1.elim
  · exact p1.elim
end
end Hf

set_option Elab.async false
set_option linter.all false
set_option maxRecDepth 100000
set_option maxHeartbeats 4000000
namespace Hf
open PySem PySem.Spec PyProof.Rows L2
/-! ### a constant of a class, read at an instance -/
def ConC (g : Gs) (c : Nat) (n : Str) (d : D) : Prop := ∃ v u, Con g.K (g.cl c) n v u ∧ (∀ w, Rep g w d v) ∧ n ∉ fldN c ∧ g.has c = true
def mCon (c : Nat) (d : D) (m : Ev) : Ev := fun σ B => (m σ B).bind fun x B1 => match x with
  | .inst c' _ => if c' = c then .ok d B1 else .bad
  | _ => .bad
section
variable {g : Gs} {E : XK} {w : Wd} {H0 H : Hp} {X : Cx} {e : Expr} {m : Ev} {c lv : Nat} {bo : Bool} {pos : Pos} {n : Str} {d : D}
theorem s_con (ok : OkC g E lv X) (N : ConC g c n d) (he : Snd g E H0 X bo e m) (hb : attributeBase e n X.env (eval e X.env) = eval e X.env := by rfl) : Snd g E H0 X false (.Attribute e n pos) (mCon c d m) := by
  obtain ⟨v, u, hcon, hr, hn, hc⟩ := N
  have C := ok.fx.cls _ hc
  have hK := ok.K
  refine weak (pe_con he hb) ?_
  rintro σ H Q ⟨w, σI, B, s, p⟩
  refine tI_bind s p fun x B1 w1 y H1 x1 s1 r1 p1 => ?_
  split at p1
  · rename_i c' es
    split at p1
    · rename_i hc'
      subst hc'
      obtain ⟨a, dx, vs, rfl, ha, hl, hh, rr⟩ := (RepB.up r1).inst s1
      exact ⟨a, _, dx, _, v, u, rfl, ha, hK ▸ C.cls, hK ▸ hcon, zip_none hn vs, p1.nowR s1 (hr w1)⟩
    · exact p1.elim
  · exact p1.elim
end
end Hf

set_option Elab.async false
set_option linter.all false
set_option maxRecDepth 100000
set_option maxHeartbeats 4000000
namespace Hf
open PySem PySem.Spec PyProof.Rows L2
/-! ### s.strip(signs) -/
def fStrip : D → D → Bs → Rs D
  | .str a, .str b, B => if a.length ≤ sizeLine then .ok (.str (Txt.stripChars a b)) B else .bad
  | _, _, _ => .bad
section
variable {g : Gs} {E : XK} {w : Wd} {H0 H : Hp} {X : Cx} {o e : Expr} {mo me : Ev} {b1 b2 : Bool} {apos pos : Pos}
theorem s_strip (ho : Snd g E H0 X b1 o mo) (he : Snd g E H0 X b2 e me) (hs : starEach [e] X.env = [(false, eval e X.env)] := by rfl) (hbase : attributeBase o "strip" X.env (eval o X.env) = eval o X.env := by rfl) (hline : (apos.endLine == pos.line) = true := by rfl) :
    Snd g E H0 X false (.Call (.Attribute o "strip" apos) [e] [] pos) (mMeth fStrip mo me) := by
  refine weak (pe_m1 PySem.F.slot_str_strip PySem.F.type_str_strip mt_stripChars ho he hs hbase hline) ?_
  rintro σ H Q ⟨w, σI, B, s, p⟩
  refine tI_bind s p fun d B1 w1 v H1 x1 s1 r1 p1 => ?_
  obtain ⟨z, rfl, rfl, p1⟩ := isS_go s1 r1.up p1
  refine ⟨⟨z, rfl⟩, tI_bind s1 p1 fun d2 B2 w2 v2 H2 x2 s2 r2 p2 => ?_⟩
  unfold fStrip at p2
  split at p2
  · rename_i z' y e1
    cases e1
    split at p2
    · rename_i hz
      exact ⟨z, y, rfl, by rw [r2.up.str s2], hz, p2.nowR s2 (by simp only [Rep])⟩
    · exact p2.elim
  · exact p2.elim
end
end Hf

set_option Elab.async false
set_option linter.all false
set_option maxRecDepth 100000
set_option maxHeartbeats 4000000
namespace Hf
open PySem PySem.Spec PyProof.Rows L2 PySem.Froz
/-! ### len(set(xs)), xs a list of texts -/
section
variable {P : Program} {w : World} {A : Around} {E : Value → Shared → Prop} {s : Shared}
theorem add_old {a : Addr} {T : String} {D : SD} {l : List Str} {k : Str} {u : Tok} {Q : Bool → Shared → Prop} (ho : s.heap.get? a = some (sObj T D)) (F : TxOk P w D l) (hk : k ∈ l) (hb : l.length < scanBound)
    (h : Q false s) : wpAny (model P w) A (setAddHashed a (.str k u) (hashStr w k)) Q E s := by
  obtain ⟨es, ep, t⟩ := D
  have hd : (sObj T (es, ep, t)).data = .set es ep t := rfl
  have hf : t.fits es.size = true := F.fit
  have hel : ElemsOf (strKind P w) es.toList := F.el
  have hsz : es.size = l.length := F.sz
  have hb0 : es.size < scanBound := by omega
  have hkey : (strKind P w).is k (.str k u) = true := is_str k u
  obtain ⟨e, he, hp⟩ := (F.mem k).mp hk
  obtain ⟨j, hj⟩ : ∃ j, List.findIdx? (fun e => (strKind P w).is k e.2) es.toList = some j := by
    cases hr : List.findIdx? (fun e => (strKind P w).is k e.2) es.toList with
    | some j => exact ⟨j, rfl⟩
    | none =>
      have := List.findIdx?_eq_none_iff.mp hr e he
      rw [hp] at this
      cases this
  unfold setAddHashed setAddHashedIn
  refine wpAny_holding (wpAny_bind (wpAny_setState_of ho hd hf ?_))
  dsimp only
  rw [byScan_of rfl hb0 hel]
  simp only [↓reduceIte]
  unfold setAddByScan
  refine wpAny_bind ?_
  refine wpAny_bind (wpAny_rule ?_)
  refine wpAny_bind (wpAny_setScan_of (knd := strKind P w) (k := k) hkey ho hd hf hel ?_)
  rw [hj]
  dsimp only
  exact wpAny_pure (wpAny_pure h)
theorem add_txt {a : Addr} {T : String} {D : SD} {l : List Str} {k : Str} {u : Tok} {Q : Bool → Shared → Prop} (ho : s.heap.get? a = some (sObj T D)) (F : TxOk P w D l) (hb : l.length + 1 < scanBound)
    (h : ∀ b h' D' l', (∀ c, c ≠ a → h'.get? c = s.heap.get? c) → h'.get? a = some (sObj T D') → TxOk P w D' l' → ((k ∈ l ∧ l' = l) ∨ (k ∉ l ∧ l' = k :: l)) → Q b { s with heap := h' }) : wpAny (model P w) A (setAddHashed a (.str k u) (hashStr w k)) Q E s := by
  by_cases hk : k ∈ l
  · exact add_old ho F hk (by omega) (h false s.heap D l (fun _ _ => rfl) ho F (.inl ⟨hk, rfl⟩))
  · exact add_x ho F hk hb (h true _ _ _ (fun c hc => PySem.Heap.get?_update_ne _ _ _ _ hc) (get_upd _ ho rfl) (add_ok u F) (.inr ⟨hk, rfl⟩))
end
/-- the texts of the first i of ks, each once -/
structure Gx (ks : List Str) (i : Nat) (l : List Str) : Prop where
  mem : ∀ k, k ∈ l ↔ k ∈ ks.take i
  nd : l.Nodup
  len : l.length ≤ i
theorem Gx.zero (ks : List Str) : Gx ks 0 [] := ⟨fun k => by simp, List.nodup_nil, Nat.le_refl _⟩
theorem Gx.next {ks l l' : List Str} {i : Nat} {k : Str} (g : Gx ks i l) (h : ks[i]? = some k) (c : (k ∈ l ∧ l' = l) ∨ (k ∉ l ∧ l' = k :: l)) : Gx ks (i + 1) l' := by
  have ht : ks.take (i + 1) = ks.take i ++ [k] := by rw [List.take_succ, h]; rfl
  rcases c with ⟨c, rfl⟩ | ⟨c, rfl⟩
  · refine ⟨fun x => ?_, g.nd, Nat.le_succ_of_le g.len⟩
    rw [ht, List.mem_append, ← g.mem, List.mem_singleton]
    exact ⟨.inl, fun z => z.elim id fun e => e ▸ c⟩
  · refine ⟨fun x => ?_, List.nodup_cons.mpr ⟨c, g.nd⟩, by rw [List.length_cons]; exact Nat.succ_le_succ g.len⟩
    rw [ht, List.mem_append, ← g.mem, List.mem_singleton, List.mem_cons]
    exact or_comm
section
variable {P : Program} {w : World} {A : Around} {E : Value → Shared → Prop} {s : Shared}
def TxS (P : Program) (w : World) (h : Heap) (S : Addr) (l : List Str) : Prop := ∃ D, h.get? S = some (sObj "set" D) ∧ TxOk P w D l
theorem set_update_txts {I : Addr} {fp wr : List Addr} {G : Array GenState → Array GenState → Prop} {n : Nat} {Pv : Nat → Value → Prop} {St : Nat → Shared → Prop} {R : Result → Shared → Prop}
    (W : WalksS P w A.in1 I fp wr G n Pv St) (S : Addr) (hSf : S ∉ fp) (ks : List Str) (hn : n = ks.length) (hfew : ks.length + 1 < scanBound) (hval : ∀ i v, Pv i v → ∃ k u, ks[i]? = some k ∧ v = .str k u)
    (h0 : Heap) (hS0 : h0.get? S = none) (hw0 : ∀ b ∈ wr, h0.get? b = none) :
    ∀ (k i : Nat) (s : Shared), n - i = k → i ≤ n → St i s → (∀ b o, h0.get? b = some o → s.heap.get? b = some o) → (∃ l, TxS P w s.heap S l ∧ Gx ks i l) →
      (∀ s' l, Moved (S :: wr) G s s' → TxS P w s'.heap S l → Gx ks n l → (∀ b o, h0.get? b = some o → s'.heap.get? b = some o) → R (.ok (.ret .none)) s') →
      codeAny (model P w) A (.builtin "set.update.loop" ⟨[.ref S, .ref I], []⟩) R s := by
  have hSw : S ∉ wr := fun h => hSf (W.sub _ h)
  have hsub : ∀ b ∈ wr, b ∈ S :: wr := fun b hb => List.mem_cons_of_mem _ hb
  have kept : ∀ {s s' : Shared}, Moved wr G s s' → (∀ b o, h0.get? b = some o → s.heap.get? b = some o) → ∀ b o, h0.get? b = some o → s'.heap.get? b = some o := fun hm hkp b o e =>
    hm.heap b o (fun hb => by rw [hw0 b hb] at e; cases e) (hkp b o e)
  intro k
  induction k with
  | zero =>
    intro i s hk' hi hst hkp ⟨l, ⟨D, ho, F⟩, g⟩ hR
    have hin : i = n := by omega
    subst hin
    refine codeAny_builtin PyProof.Rows.F.entry_set_update_loop ?_
    rw [Around.under_plainId PyProof.Rows.F.plain_set_update_loop _]
    show wpAny _ A.in1 (pyNext (.ref I) >>= _) _ _ s
    refine wpAny_bind (W.done s _ _ hst fun s' hm => ?_)
    show wpAny _ A.in1 (ret Value.none) _ _ s'
    exact wpAny_pure (hR s' l (hm.mono hsub) ⟨D, hm.heap S _ hSw ho, F⟩ g (kept hm hkp))
  | succ k ih =>
    intro i s hk' hi hst hkp ⟨l, ⟨D, ho, F⟩, g⟩ hR
    have hlt : i < n := by omega
    refine codeAny_builtin PyProof.Rows.F.entry_set_update_loop ?_
    rw [Around.under_plainId PyProof.Rows.F.plain_set_update_loop _]
    show wpAny _ A.in1 (pyNext (.ref I) >>= _) _ _ s
    refine wpAny_bind (W.item i s _ _ hlt hst fun v s' hP hst' hm => ?_)
    obtain ⟨x, u, hx, rfl⟩ := hval i v hP
    have hkp' := kept hm hkp
    have ho' : s'.heap.get? S = some (sObj "set" D) := hm.heap S _ hSw ho
    show wpAny _ A.in1 (holding [Value.str x u] (setAdd S (.str x u)) >>= _) _ _ s'
    refine wpAny_bind (wpAny_holding ?_)
    unfold setAdd
    refine wpAny_holding ?_
    refine wpAny_bind ((strKind P w).pyHash (k := x) (is_str _ _) ?_)
    refine add_txt (l := l) (D := D) (s := { s' with toks := s'.toks + 1 }) ho' F (by have := g.len; omega) fun b h' D' l' hsb ho2 F2 c => ?_
    have g' := g.next hx c
    have hkp2 : ∀ b o, h0.get? b = some o → h'.get? b = some o := fun b o e => (hsb b (fun z => by rw [z, hS0] at e; cases e)).trans (hkp' b o e)
    refine wpAny_pure ⟨plainId_quiet PyProof.Rows.F.plain_set_update_loop _, ih (i + 1) _ (by omega) hlt (W.frame _ s' _ _ hst' (Nat.le_add_right _ _) fun b hb o e => ?_) hkp2 ⟨l', ⟨D', ho2, F2⟩, g'⟩ fun s2 l2 hm2 hS2 g2 hkp3 => ?_⟩
    · rw [hsb b (fun z : b = S => hSf (by rw [← z]; exact hb))]; exact e
    · refine hR s2 l2 (Moved.trans W.gtrans ((hm.mono hsub).then_heap (Nat.le_add_right _ _) fun b o hb e => ?_) hm2) hS2 g2 hkp3
      rw [hsb b (fun z : b = S => hb (by rw [z]; exact List.mem_cons_self))]; exact e
end
theorem txs_fresh (P : Program) (w : World) (h : Heap) (ito : Obj) : TxS P w ((h.push (newSet w)).push ito) h.objs.size [] :=
  ⟨(#[], 0, .fresh 0 0 (!w.params.followText "set-order")), Heap.get?_push_of_some _ (Heap.get?_push_size _ rfl), TxOk.nil (by first | rfl | decide | simp [SetTable.fits, SetTable.fresh])⟩
/-- len(set(x)), x a list of texts -/
def fLenTx : D → Bs → Rs D
  | .lst ds, B => match strsA ds with
    | some ks => if ks.length < 64 then .ok (.int (dd ks).length) B else .bad
    | Option.none => .bad
  | _, _ => .bad
def tLX (K : PySem.W.Frag) (ta : TE) : TE := fun σ H Q => ta σ H fun x H1 => ∃ (l : Addr) (ks : List Str), x = V.ref l ∧ SqL K H1 l (ks.map V.str) ∧ ks.length < 64 ∧ Q (.int (dd ks).length) H1
theorem vals_strs : ∀ {ks : List Str} {its : List Value}, Vals (ks.map V.str) its → ∀ (i : Nat) (v : Value), its[i]? = some v → ∃ k u, ks[i]? = some k ∧ v = .str k u
  | [], its, r, i, v, h => by cases r; simp at h
  | k :: ks, its, r, i, v, h => by
    cases r with
    | cons r0 r =>
      cases i with
      | zero => simp at h; subst h; obtain ⟨u, rfl⟩ := r0; exact ⟨k, u, rfl, rfl⟩
      | succ i => simp only [List.getElem?_cons_succ] at h ⊢; exact vals_strs r i v h
section
variable {g : Gs} {E : XK} {H0 : Hp} {X : Cx} {e : Expr} {m : Ev} {b1 : Bool} {p p2 q pos : Pos}
theorem pe_lx {ta : TE} (hc : X.calm = true) (hg : Gl X "len") (hm : X.mg "len" = none) (hg2 : Gl X "set") (hm2 : X.mg "set" = none) (ha : PE X e ta) (na : starEach [e] X.env = (false, eval e X.env) :: starEach [] X.env) :
    PE X (.Call (.Name "len" p) [.Call (.Name "set" p2) [e] [] q] [] pos) (tLX X.K ta) := by
  refine ⟨fun pins s σ H Q I h => ?_⟩
  refine Call_ (ld_blt I hg hm PySem.boot_len (PyProof.Rows.callWith_builtin1 (PyProof.Rows.args_cons ?_ rfl) rfl rfl))
  refine Call_ (ld_blt I hg2 hm2 PyProof.Rows.boot_set (PyProof.Rows.callWith_type1 (PyProof.Rows.args_cons (thn (ha.run pins s σ H _ I h) fun v s1 ⟨x, H1, I1, r1, q1⟩ => PyProof.Rows.args_nil ?_) na) na rfl))
  obtain ⟨l, ks, rfl, hq, hf, q1⟩ := q1
  cases r1
  obtain ⟨its, rv, ⟨⟨cls, od, data, sl⟩, ho, hcl, n, hd⟩, hz⟩ := let ⟨its, rv, z, hz⟩ := I1.list hq; (⟨its, rv, z.isList, hz⟩ : ∃ its, Vals (ks.map V.str) its ∧ s1.heap.IsList l its.toArray ∧ _)
  simp only at hcl hd
  subst hcl hd
  have hh : X.A.handled = Option.none := I1.ok.hd hc
  have hlS : l < s1.heap.objs.size := Heap.lt_size ho
  have hz1 : (s1.heap.push (newSet X.w)).objs.size = s1.heap.objs.size + 1 := Heap.size_push ..
  have hsz : its.toArray.size = ks.length := by rw [List.size_toArray, ← rv.length, List.length_map]
  have sb : (65 : Nat) < scanBound := by decide
  refine set_of (P := X.prog) (w := X.w) (Fin := fun h => ∃ L, TxS X.prog X.w h s1.heap.objs.size L ∧ Gx ks ks.length L) ho sub_list_set sub_list_frozenset (by decide) (fun A' E' s2 Q' h1 h2 => wpAny_pyIter_list ⟨_, h1, rfl, _, rfl⟩ h2) (fun R hR => ?_) fun h' tk ⟨L, hT, gt⟩ hk' => ?_
  · have Wk := (Walks.list (prog := X.prog) (w := X.w) (A := X.A.in1.in1.in1) (by simp [hh]) (s1.heap.push (newSet X.w)).objs.size l (Nat.ne_of_lt (by rw [hz1]; exact Nat.lt_succ_of_lt hlS)) its.toArray).toS
    refine set_update_txts Wk s1.heap.objs.size ?_ ks hsz (by omega) (fun i v hv => vals_strs rv i v (by simpa using hv)) s1.heap (heap_none (Nat.le_refl _)) (fun b hb => ?_) (its.toArray.size - 0) 0 _ (by omega) (Nat.zero_le _)
      ⟨⟨_, Heap.get?_push_size _ rfl, rfl, rfl⟩, ⟨_, Heap.get?_push_of_some _ (Heap.get?_push_of_some _ ho), rfl, _, rfl⟩⟩ (fun b o e => Heap.get?_push_of_some _ (Heap.get?_push_of_some _ e)) ⟨[], txs_fresh _ _ _ _, Gx.zero ks⟩ ?_
    · simp only [List.mem_cons, List.not_mem_nil, or_false, not_or]
      exact ⟨Nat.ne_of_lt (by rw [hz1]; exact Nat.lt_succ_self _), Nat.ne_of_gt hlS⟩
    · rw [List.mem_singleton.mp hb]
      exact heap_none (by rw [hz1]; exact Nat.le_succ _)
    · rintro ⟨h', g2, d', tk', os'⟩ L hm' hT gt hkp
      have eg : g2 = s1.gens := hm'.gens
      have ed : d' = s1.drawn := hm'.drawn
      have eo : os' = s1.os := hm'.os
      subst eg ed eo
      rw [hsz] at gt
      exact hR h' tk' ⟨L, hT, gt⟩ hkp
  · obtain ⟨D, ho', F⟩ := hT
    have I2 : Inv X pins σ H1 { s1 with heap := h', toks := tk } := I1.kept fun b o e => hk' b o e
    have hlen : D.1.size = (dd ks).length := by
      rw [F.sz]
      refine nodup_len gt.nd (nodup_dd _) fun k => ?_
      rw [mem_dd, gt.mem, List.take_length]
    have hle : D.1.size ≤ 64 := by rw [hlen]; have := dd_le ks; omega
    refine PyProof.Rows.args_nil (call_len_set (s := { s1 with heap := h', toks := tk }) ho' ⟨rfl, rfl, rfl⟩ rfl F.fit (by omega) ⟨.int _, H1, I2.tok _, ⟨_, by rw [hlen]⟩, q1⟩)
theorem s_lenTx (ok : Ok g X) (ha : Snd g E H0 X b1 e m) (hg : Gl X "len" := by rfl) (hg2 : Gl X "set" := by rfl) (na : starEach [e] X.env = (false, eval e X.env) :: starEach [] X.env := by rfl) :
    Snd g E H0 X false (.Call (.Name "len" p) [.Call (.Name "set" p2) [e] [] q] [] pos) (m1 fLenTx m) := by
  refine weak (pe_lx ok.calm hg (nbs ok) hg2 (nbs ok) ha na) ?_
  rintro σ H Q ⟨w, σI, B, s, p⟩
  refine tI_bind s p fun d B1 w1 v H1 x1 s1 r1 p1 => ?_
  unfold fLenTx at p1
  split at p1
  · rename_i ds
    split at p1
    · rename_i ks hks
      split at p1
      · rename_i hl
        rcases r1.up with r | ⟨i, h1, h2⟩
        · simp only [Rep] at r
          obtain ⟨a, vs, rfl, q1, rr⟩ := r
          rw [strsA_map hks] at rr
          have ev := Reps.strs rr
          subst ev
          exact ⟨a, ks, rfl, ok.K ▸ (.inl (.inl (s1.rb.sub _ _ q1)) : SqL g.K H1 a (ks.map V.str)), hl, p1.nowR s1 (rep_int g w1 _)⟩
        · obtain ⟨a, o, e1, ha', c, _⟩ := s1.ow i _ h1
          rw [h2] at e1
          cases e1
          simp only [Cont] at c
          obtain ⟨vs, rfl, rr⟩ := c
          rw [strsA_map hks] at rr
          have ev := Reps.strs rr
          subst ev
          exact ⟨a, ks, rfl, ok.K ▸ (.inl (.inl ha') : SqL g.K H1 a (ks.map V.str)), hl, p1.nowR s1 (rep_int g w1 _)⟩
      · exact p1.elim
    · exact p1.elim
  · exact p1.elim
end
end Hf

set_option Elab.async false
set_option linter.all false
set_option maxRecDepth 100000
set_option maxHeartbeats 4000000
namespace Hf
open PySem PySem.Spec PyProof.Rows L2
/-! ### a lambda with parameters that captures nothing: a value -/
theorem obE_ok {P : Program} {w : World} {H : Hp} {h : Heap} {a : Addr} {o : Obj} (e : h.get? a = some o) : ObjOk P w H h a (ObE a o) := ⟨e, ⟨o, e⟩, fun _ _ p k => k _ p⟩
theorem obE_at {P : Program} {w : World} {H : Hp} {h : Heap} {a : Addr} {o : Obj} (hok : HOk P w H h) (e : H a = some (ObE a o)) : h.get? a = some o := (hok a _ e).1
theorem clo_nil {cells : List (Str × Addr)} : ∀ (ns : List (Str × NameKind)) (acc : List (Str × Addr)), (∀ y ∈ ns, y.2 ≠ .free) → cloFrom cells ns acc = acc
  | [], acc, _ => rfl
  | (n, k) :: ns, acc, h => by
    have h1 := h (n, k) List.mem_cons_self
    have h2 := clo_nil (cells := cells) ns acc fun y hy => h y (List.mem_cons_of_mem _ hy)
    cases k <;> first | exact absurd rfl h1 | (unfold cloFrom; exact h2)
section
variable {X : Cx} {pins : List (Addr × Obj)} {σ : L2.St} {H : Hp} {s : Shared}
theorem lam_mkF {T : List (Addr × Str)} {k0 P : Addr} {prm : Arguments} {bd : Expr} {sc : Scope} {lp : Pos} {Er Q : Value → Shared → Prop} (I : Inv X pins σ H s) (tb : LamX.TabB X.base X.mg k0 P) (hk : X.env.code = .ref k0)
    (mem : (P, X.env.qual ++ "<lambda>") ∈ T) (uni : ∀ p ∈ T, p.1 = P → p.2 = X.env.qual ++ "<lambda>") (tT : LamX.Tabs T H) (hdf : defaultsOf prm X.env = ([], [])) (fre : ∀ y ∈ sc.names, y.2 = .free → ∃ c, X.env.cells.lookup y.1 = some c)
    (go : ∀ (f c' : Addr) (pm ct : Value) (H1 : Hp) (s' : Shared), Inv X pins σ H1 s' → LamX.ExtN H H1 → (∀ b, H b ≠ Option.none → H1 b ≠ Option.none) → LamX.Tabs T H1 → H f = Option.none → f ≠ c' →
      H1 f = some (ObE f (PySem.W.kla_obj "<lambda>" (X.env.qual ++ "<lambda>") prm bd sc (cloFrom X.env.cells sc.names []) pm c' ct)) → H1 c' = some (LamX.CodeO c' (X.env.qual ++ "<lambda>")) → Q (.ref f) s') :
    wpAny (model X.prog X.w) X.A (eval (.Lambda prm bd sc lp) X.env) Q Er s := by
  obtain ⟨ps, atP, ht, ha⟩ := tT _ mem
  refine PySem.W.kla_eval hdf ?_
  have bP : s.heap.BuiltinsAt X.mg P := tb.bm.keeps I.bk
  have gP : s.heap.get? P = some { cls := .none, data := .fields ps } := I.hok P _ atP
  cases am : codeAmong lp ps.toList with
  | none =>
    refine PySem.W.kla_makeFunction (mg := X.mg) (c := k0) (P := P) (ps := ps) (closure_ok fre) I.ok.glob (I.mod.glob.keeps I.bk) hk (tb.code.keeps I.bk) gP ht am tb.gP bP fun c' ct h' tk hx hge hlt hrec htb => ?_
    obtain ⟨c2, oc, vs, t, e2, hoc, hd, hv⟩ := hrec
    cases e2
    have big : s.heap.objs.size ≤ h'.objs.size := Nat.le_trans hge (Nat.le_of_lt hlt)
    have newC : H c' = Option.none := I.hok.fresh hge
    have newF : H h'.objs.size = Option.none := I.hok.fresh big
    have J0 := LamX.inv_table (t' := tk) (more := #[rawInt lp.line, rawInt lp.col, .ref c']) (h' := h') I atP (fun b o z e => hx b o z e) htb hge ⟨oc, vs, t, hoc, hd, hv⟩
    have fc : h'.objs.size ≠ c' := Nat.ne_of_gt hlt
    have fP : h'.objs.size ≠ P := Nat.ne_of_gt (Nat.lt_of_lt_of_le (Heap.lt_size gP) big)
    have J := J0.laid (t' := tk) (a := h'.objs.size) (o := ObE h'.objs.size (PySem.W.kla_obj "<lambda>" (X.env.qual ++ "<lambda>") prm bd sc (cloFrom X.env.cells sc.names []) ((X.mg "__name__").getD .none) c' ct)) (h' := h'.push (PySem.W.kla_obj "<lambda>" (X.env.qual ++ "<lambda>") prm bd sc (cloFrom X.env.cells sc.names []) ((X.mg "__name__").getD .none) c' ct))
      (fun b o e => Heap.get?_push_of_some _ e) (Nat.le_refl _) (obE_ok (Heap.get?_push_size _ rfl))
    generalize hob : ObE h'.objs.size (PySem.W.kla_obj "<lambda>" (X.env.qual ++ "<lambda>") prm bd sc (cloFrom X.env.cells sc.names []) ((X.mg "__name__").getD .none) c' ct) = ob at J
    have kept : LamX.ExtN H (upd (upd (upd H P (.tbl (ps ++ #[rawInt lp.line, rawInt lp.col, .ref c']))) c' (LamX.CodeO c' (X.env.qual ++ "<lambda>"))) h'.objs.size ob) := fun b o e n => by
      rw [upd_ne (ne_of_none e newF), upd_ne (ne_of_none e newC), upd_ne fun z => n ps (Option.some.inj (e.symm.trans (by rw [z]; exact atP)))]
      exact e
    have lst : (ps ++ #[rawInt lp.line, rawInt lp.col, .ref c']).toList = ps.toList ++ [rawInt lp.line, rawInt lp.col, .ref c'] := by simp
    refine go h'.objs.size c' ((X.mg "__name__").getD .none) ct _ _ J kept (fun b hb => ?_) (tabs_upd (fun p hp => ?_) fun u e => ?_) newF fc (by rw [upd_same, ← hob]) (by rw [upd_ne fc.symm, upd_same])
    · by_cases y : b = h'.objs.size
      · rw [y, upd_same]; simp
      rw [upd_ne y]
      by_cases z : b = c'
      · rw [z, upd_same]; simp
      · rw [upd_ne z]
        by_cases z2 : b = P
        · rw [z2, upd_same]; simp
        · rw [upd_ne z2]; exact hb
    · have kept0 : LamX.ExtN H (upd (upd H P (.tbl (ps ++ #[rawInt lp.line, rawInt lp.col, .ref c']))) c' (LamX.CodeO c' (X.env.qual ++ "<lambda>"))) := fun b o e n => by
        rw [upd_ne (ne_of_none e newC), upd_ne fun z => n ps (Option.some.inj (e.symm.trans (by rw [z]; exact atP)))]
        exact e
      by_cases z : p.1 = P
      · rw [uni p hp z, z]
        refine ⟨_, by rw [upd_ne (ne_of_none atP newC), upd_same], by rw [lst]; exact PySem.TriplesOk_snoc _ _ _ _ ht, fun p' cv hcv => ?_⟩
        rw [lst] at hcv
        rcases LamX.among_app _ ht hcv with z | z
        · obtain ⟨c0, e1, e2⟩ := ha p' cv z
          exact ⟨c0, e1, kept0 _ _ e2 LamX.codeO_ne⟩
        · exact ⟨c', z, upd_same⟩
      · obtain ⟨ps', a1, a2, a3⟩ := tT p hp
        refine ⟨ps', by rw [upd_ne (ne_of_none a1 newC), upd_ne z]; exact a1, a2, fun p' cv hcv => ?_⟩
        obtain ⟨c0, e1, e2⟩ := a3 p' cv hcv
        exact ⟨c0, e1, kept0 _ _ e2 LamX.codeO_ne⟩
    · rw [upd_ne fc, upd_ne fP, newF] at e
      cases e
  | some cv =>
    obtain ⟨c', e, hco⟩ := ha lp cv am
    subst e
    refine PySem.W.kla_makeFunctionHit (mg := X.mg) (c := k0) (P := P) (ps := ps) (closure_ok fre) I.ok.glob (I.mod.glob.keeps I.bk) hk (tb.code.keeps I.bk) gP ht am bP fun ct h' tk hx big => ?_
    have newF : H h'.objs.size = Option.none := I.hok.fresh big
    have J := I.laid (t' := tk) (a := h'.objs.size) (o := ObE h'.objs.size (PySem.W.kla_obj "<lambda>" (X.env.qual ++ "<lambda>") prm bd sc (cloFrom X.env.cells sc.names []) ((X.mg "__name__").getD .none) c' ct)) (h' := h'.push (PySem.W.kla_obj "<lambda>" (X.env.qual ++ "<lambda>") prm bd sc (cloFrom X.env.cells sc.names []) ((X.mg "__name__").getD .none) c' ct))
      (fun b o e => Heap.get?_push_of_some _ (hx b o e)) big (obE_ok (Heap.get?_push_size _ rfl))
    have fc : h'.objs.size ≠ c' := (ne_of_none hco newF).symm
    refine go h'.objs.size c' ((X.mg "__name__").getD .none) ct _ _ J (fun b o e _ => by rw [upd_ne (ne_of_none e newF)]; exact e) (fun b hb => ?_) (tabs_upd tT fun u e => by rw [newF] at e; cases e) newF fc upd_same (by rw [upd_ne fc.symm]; exact hco)
    by_cases y : b = h'.objs.size
    · rw [y, upd_same]; simp
    · rw [upd_ne y]; exact hb
end
/-- the lambda's names: parameters and globals -/
structure LamP (sc : Scope) (ps : List Str) : Prop where
  fs : FnScope ps ps sc
  nc : ∀ y ∈ sc.names, y.2 ≠ .cell
section
variable {g : Gs} {E : XK} {w0 w : Wd} {H0 H : Hp} {X : Cx} {e : Expr} {es : List Expr} {ms : Evs} {pos p p1 p2 lp : Pos} {x : Str} {lv k i : Nat} {k0 P : Addr} {prm : Arguments} {bd : Expr} {sc : Scope} {ps : List Str}
theorem s_lam (c : Ok g X) (lk : LamK g X k0 P) (hl : g.lam k = ⟨X.env.qual ++ "<lambda>", prm, bd, sc⟩) (L : LamP sc ps) (hdf : defaultsOf prm X.env = ([], []) := by rfl) : Snd g E H0 X false (.Lambda prm bd sc lp) (mC (.fnT k)) := by
  obtain ⟨prog, w', K, mg, base, A, N, s_0, H_0, env, outer, stack, ex, fn, calm, pn, xe⟩ := X
  obtain ⟨h1, h2, h3, h4, h5, h6, h7, hfx⟩ := c
  simp only at h1 h2 h5 h6 h7
  subst h1 h2 h5 h6 h7
  refine ⟨fun pins s σ H Q I h => ?_⟩
  obtain ⟨w, σI, B, s0, post⟩ := h
  refine lam_mkF I lk.tb lk.code lk.mem lk.uni s0.rb.tb hdf (fun y hy e => absurd e (L.fs.nofree y hy)) fun f c' pm ct H1 s' I1 eN tr T1 nf fc hf hc => ?_
  rw [clo_nil _ _ L.fs.nofree] at hf
  simp only at hf hc hl
  let w1 : Wd := { w with P := upd (upd w.P f (ObE f (PySem.W.kla_obj "<lambda>" (env.qual ++ "<lambda>") prm bd sc [] pm c' ct))) c' (LamX.CodeO c' (env.qual ++ "<lambda>")) }
  have nP : w.P f = Option.none := s0.rb.fresh_P nf
  have old : ∀ b u, w.P b = some u → H1 b = some u := fun b u e => eN b u (s0.rb.sub b u e) fun ps z => s0.rb.nt b ps (z ▸ e)
  have l : Le w w1 := ⟨fun b u e => by
    show upd (upd w.P f _) c' _ b = some u
    by_cases hb : b = c'
    · subst hb
      have z := old b u e
      rw [hc] at z
      rw [upd_same]; exact z
    · rw [upd_ne hb, upd_ne (ne_of_none e nP)]; exact e, fun _ _ h => h⟩
  have sb : Same w1.P H1 := fun b u e => by
    have e : upd (upd w.P f _) c' _ b = some u := e
    by_cases hb : b = c'
    · subst hb; rw [upd_same] at e; rw [← e]; exact hc
    · rw [upd_ne hb] at e
      by_cases hb2 : b = f
      · subst hb2; rw [upd_same] at e; rw [← e]; exact hf
      · rw [upd_ne hb2] at e; exact old b u e
  have ioN : ∀ {n : Nat} {a : Addr}, w.io n = some a → a ≠ c' ∧ a ≠ f := fun {n a} e => by
    obtain ⟨b, hb⟩ : ∃ b, B[n]? = some b := ⟨_, List.getElem?_eq_getElem (s0.rb.dom n a e)⟩
    obtain ⟨a', o, q1, q2, q3⟩ := s0.rb.get n b hb
    rw [e] at q1; cases q1
    refine ⟨fun z => ?_, fun z => ?_⟩
    · have y := eN a o q2 q3.nt.t
      rw [z, hc] at y; cases y
      exact q3.nt.c _ _ rfl
    · rw [z, nf] at q2; cases q2
  have rb1 : RB g w1 B H1 := ⟨sb, fun n b e => by
    obtain ⟨a, o, q1, q2, q3⟩ := s0.rb.get n b e
    exact ⟨a, o, q1, eN a o q2 q3.nt.t, q3.mono l⟩, s0.rb.inj, fun n a e => by
      show upd (upd w.P f _) c' _ a = Option.none
      rw [upd_ne (ioN e).1, upd_ne (ioN e).2]
      exact s0.rb.np n a e, s0.rb.dom, T1, fun b ps e => by
      have e : upd (upd w.P f _) c' _ b = some (.tbl ps) := e
      by_cases hb : b = c'
      · subst hb; rw [upd_same] at e; exact LamX.codeO_ne ps (Option.some.inj e)
      · rw [upd_ne hb] at e
        by_cases hb2 : b = f
        · subst hb2; rw [upd_same] at e; unfold ObE at e; cases e
        · rw [upd_ne hb2] at e; exact s0.rb.nt b ps e⟩
  have x1 : Ext w H w1 H1 := ⟨l, fun b o e _ ht => eN b o e ht, fun b o e => by
    have e : upd (upd w.P f _) c' _ b = some o := e
    by_cases hb : b = c'
    · subst hb; rw [upd_same] at e; cases e; exact .inr (.inr ⟨_, rfl⟩)
    · rw [upd_ne hb] at e
      by_cases hb2 : b = f
      · subst hb2; exact .inr (.inl nf)
      · rw [upd_ne hb2] at e; exact .inl e, fun _ _ h => .inl h, tr, rfl⟩
  refine ⟨.ref f, H1, I1, rfl, ?_⟩
  have post : PostE g E w H σI σ false Q (.ok (.fnT k) B) := post
  refine post w1 _ H1 x1 rb1 ?_
  simp only [RepB, Rep, hl]
  exact ⟨f, c', pm, ct, rfl, by show upd (upd w.P f _) c' _ f = _; rw [upd_ne fc, upd_same], by show upd (upd w.P f _) c' _ c' = _; rw [upd_same]⟩
/-- what a lambda of the text promises -/
def LamF (g : Gs) (lv k : Nat) (f : Fn) : Prop := ∃ (ps : List Str) (m : Ev), LamP (g.lam k).sc ps ∧ (∀ (pm cv ct : Value) (us : List Value), us.length = ps.length → bindArgs (PySem.W.kla_fn "<lambda>" (g.lam k).q (g.lam k).prm (g.lam k).bd (g.lam k).sc [] pm cv ct) ⟨us, []⟩ = pure (ps.zip us)) ∧
  f = (fun ds B => if ds.length = ps.length then m (ds.map fun d => some (false, d)) B else .bad) ∧
  ∀ (E : XK) (H0 : Hp) (X : Cx), OkC g E lv X → X.N = ps → X.env.scope = (g.lam k).sc → Snd g E H0 X false (g.lam k).bd m
def LamsF (g : Gs) (lv : Nat) (F : Nat → Fn) : Prop := ∀ k, F k = (fun _ _ => .bad) ∨ LamF g lv k (F k)
/-- x(..), x a name that holds a lambda -/
def mFit (F : Nat → Fn) (i : Nat) (ms : Evs) : Ev := fun σ B => match σ[i]? with
  | some (some (false, .fnT k)) => (ms σ B).bind (F k)
  | _ => .bad
theorem s_callF {F : Nat → Fn} (c : OkC g E (lv + 1) X) (LB : LamsF g lv F) (ha : Snds g E H0 X (e :: es) ms) (hN : X.N[i]? = some x := by rfl) (hv : Vis X.env.scope x := by first | exact Or.inl rfl | exact Or.inr (Or.inl rfl) | exact Or.inr (Or.inr rfl)) (hd : (x == ("__debug__" : Str)) = false := by decide) (hcd : (x == ("__classdict__" : Str)) = false := by decide)
    (he : starEach (e :: es) X.env = (false, eval e X.env) :: starEach es X.env := by rfl) (hpl : (backTo pos (starEach es X.env)).any (·.1) = false := by rfl) :
    Snd g E H0 X false (.Call (.Name x p) (e :: es) [] pos) (mFit F i ms) := by
  obtain ⟨prog, w', K, mg, base, A, N, s_0, H_0, env, outer, stack, ex, fn, calm, pn, xe⟩ := X
  obtain ⟨⟨h1, h2, h3, h4, h5, h6, h7, hfx⟩, h8, h9⟩ := c
  simp only at h1 h2 h5 h6 h7 h8
  subst h1 h2 h5 h6 h7
  refine ⟨fun pins s σ H Q I h => ?_⟩
  obtain ⟨w, σI, B, s0, post⟩ := h
  unfold mFit at post
  split at post
  rotate_left
  · exact post.elim
  rename_i k hk
  obtain ⟨v0, hv0, rp⟩ := s0.sl _ _ hk
  simp only [Rep] at rp
  obtain ⟨f, c', pm, ct, rfl, pf, pc⟩ := rp
  refine wpAny_Call_Name_kw (thn ((pe_var (pos := p) (i := i) hN hv hd hcd).run pins s σ H (fun v H1 => v = .ref f ∧ H1 = H) I ⟨.ref f, hv0, rfl, rfl⟩) fun u s1 ⟨v, H1, I1, r1, q1⟩ => ?_)
  obtain ⟨ev, eH⟩ := q1
  subst ev eH
  obtain rfl : u = Value.ref f := r1
  refine PySem.W.callWith_F ⟨_, _, _, _, obE_at I1.hok (s0.rb.sub _ _ pf)⟩ (thn (ha.run pos pins s1 σ H1 (fun vs H2 => ∃ w2 B2 ds, Ext w H1 w2 H2 ∧ RB g w2 B2 H2 ∧ Reps g w2 ds vs ∧ PostE g E w2 H2 σI σ false Q (F k ds B2)) I1
    (tIs_bind s0 post fun ds B1 w1 vs H2 x1 s2 r2 p2 => ⟨w1, B1, ds, x1, s2.rb, r2, p2⟩)) fun us s2 ⟨vs, H2, I2, r2, w2, B2, ds, x2, rb2, rd, p2⟩ => ?_) he hpl
  have of2 := obE_at I2.hok (rb2.sub _ _ (x2.le.P _ _ pf))
  refine ⟨⟨_, _, _, _, of2⟩, ?_⟩
  obtain ⟨⟨oc, fs, tq, hoc, hdc, hvc⟩, _, _⟩ := I2.hok c' _ (rb2.sub _ _ (x2.le.P _ _ pc))
  have fin : codeAny (model g.prog g.w) A (.call (.ref f) ⟨us, []⟩) (CR (L2N.CX g.prog g.w) stack g.prog g.w H2 s2 Q E) s2 := by
    rcases LB k with fb | ⟨ps, m, L, bind, fe, hb⟩
    · rw [fb] at p2
      exact p2.elim
    rw [fe] at p2
    simp only at p2
    split at p2
    rotate_left
    · exact p2.elim
    rename_i hl
    have hlu : us.length = ps.length := by rw [← Paired.length r2, rd.len, hl]
    have hlv : vs.length = ps.length := by rw [rd.len, hl]
    refine PySem.W.kla_callFunE h8.depth of2 rfl L.fs.co L.fs.gen rfl ⟨c', oc, fs, tq, rfl, hoc, hdc, hvc⟩ ?_
    rw [bind _ _ _ us hlu]
    refine wpAny_pure (wpAny_newFunctionEnv_cells L.fs.kind (fun ⟨n, z⟩ hy => .inl ((L.fs.par n (List.of_mem_zip hy).1).resolve_right fun q => L.nc _ (PySem.mem_of_lookup q) rfl)) fun env' he' s3 x => ?_)
    subst he'
    have J := inv_start (CX := L2N.CX g.prog g.w) (E := E) (qual := (g.lam k).q) (f := f) (cd := .ref c') L.fs h8.hd I2.env0 hlv r2 x
    refine ⟨I2.nolimit.keeps x.toInCall.keep, PySem.W.kla_codeExpr ?_⟩
    have hr' := h8.deeper (envOfC (g.lam k).q (g.lam k).sc s2.heap.objs.size f (.ref c'))
    have ok' : OkC g E lv (cxOf (L2N.CX g.prog g.w) g.prog g.w g.K g.mg g.base ps (g.lam k).q (g.lam k).sc f (.ref c') A stack s2 H2 E) :=
      ⟨⟨rfl, rfl, rfl, un_of hr', rfl, rfl, rfl, hfx⟩, hr', L2N.passes_call (L2N.takes_of rfl rfl rfl rfl) (fun _ _ _ _ h => h)⟩
    have st := start_at (N := ps) rb2 rd hl (Nat.le_refl _)
    rw [Nat.sub_self] at st
    simp only [List.replicate_zero, List.append_nil] at st
    have ht : tI g E H2 false m (L2.start ps vs) H2 Q := ⟨w2, _, B2, st, by
      revert p2
      generalize m (ds.map fun d => some (false, d)) B2 = q
      intro p2
      cases q with
      | ok d B' => exact fun w' v H' x rb r => p2 w' v H' x rb r
      | exc c y B' => exact p2
      | bad => exact p2⟩
    refine wpAny_mono ((hb E H2 _ ok' rfl rfl).run [] s3 _ H2 Q J ht) (fun v s' hq => ?_) fun e s' hq => hq
    obtain ⟨w', H', J', rv, q⟩ := hq
    exact ⟨w', H', J'.os, J'.bare, J'.base, J'.hok, rv, q⟩
  refine wpAny_call (codeAny_mono fin fun r s' hq => ?_)
  cases r with
  | error e => exact h9 pins σ H2 s2 e s' I2 hq
  | ok fl =>
    cases fl with
    | ret u => exact I2.after hq
    | next => exact False.elim hq
    | brk => exact False.elim hq
    | cont => exact False.elim hq
end
end Hf

set_option Elab.async false
set_option linter.all false
set_option maxRecDepth 100000
set_option maxHeartbeats 4000000
namespace Hf
open PySem PySem.Spec PyProof.Rows L2
/-! ### sorted of rows of numbers -/
def ltR : List Int → List Int → Bool
  | [], [] => false
  | [], _ :: _ => true
  | _ :: _, [] => false
  | a :: as, b :: bs => if a = b then ltR as bs else decide (a < b)
def leR (x y : List Int) : Bool := !ltR y x
theorem ltR_eq : ∀ x y : List Int, ltR x y = decide (x < y)
  | [], [] => by simp [ltR]
  | [], _ :: _ => by simp [ltR]
  | _ :: _, [] => by simp [ltR]
  | a :: as, b :: bs => by
    unfold ltR
    by_cases h : a = b
    · rw [if_pos h, ltR_eq as bs]
      simp [h, List.cons_lt_cons_iff]
    · rw [if_neg h]
      simp [h, List.cons_lt_cons_iff]
theorem ltR_trans : ∀ x y z : List Int, leR x y = true → leR y z = true → leR x z = true
  | [], [], _, _, h => h
  | [], _ :: _, [], _, h => by simp [leR, ltR] at h
  | [], _ :: _, _ :: _, _, _ => by simp [leR, ltR]
  | _ :: _, [], _, h, _ => by simp [leR, ltR] at h
  | _ :: _, _ :: _, [], _, h => by simp [leR, ltR] at h
  | a :: as, b :: bs, c :: cs, h1, h2 => by
    have ih := ltR_trans as bs cs
    simp only [leR, ltR, Bool.not_eq_true', Bool.not_eq_eq_eq_not, Bool.not_true] at h1 h2 ih ⊢
    by_cases h : b = a
    · rw [if_pos h] at h1
      subst h
      by_cases k : c = b
      · rw [if_pos k] at h2 ⊢
        exact ih h1 h2
      · rw [if_neg k] at h2 ⊢
        exact h2
    · rw [if_neg h] at h1
      have h1 := of_decide_eq_false h1
      by_cases k : c = b
      · subst k
        rw [if_neg h]
        exact decide_eq_false h1
      · rw [if_neg k] at h2
        have h2 := of_decide_eq_false h2
        rw [if_neg (by omega)]
        exact decide_eq_false (by omega)
theorem leR_total : ∀ x y : List Int, (leR x y || leR y x) = true
  | [], [] => rfl
  | [], _ :: _ => rfl
  | _ :: _, [] => rfl
  | a :: as, b :: bs => by
    have ih := leR_total as bs
    simp only [leR, ltR, Bool.or_eq_true, Bool.not_eq_true'] at ih ⊢
    by_cases h : a = b
    · subst h; simpa using ih
    · rw [if_neg h, if_neg (Ne.symm h)]
      rcases Int.lt_trichotomy a b with z | z | z
      · exact .inl (decide_eq_false (by omega))
      · exact absurd z h
      · exact .inr (decide_eq_false (by omega))
theorem leR_anti : ∀ x y : List Int, leR x y = true → leR y x = true → x = y
  | [], [], _, _ => rfl
  | [], _ :: _, _, h => by simp [leR, ltR] at h
  | _ :: _, [], h, _ => by simp [leR, ltR] at h
  | a :: as, b :: bs, h1, h2 => by
    have ih := leR_anti as bs
    simp only [leR, ltR, Bool.not_eq_true'] at h1 h2 ih
    by_cases h : a = b
    · subst h
      simp only [if_true] at h1 h2
      rw [ih h1 h2]
    · rw [if_neg (Ne.symm h)] at h1
      rw [if_neg h] at h2
      have h1 := of_decide_eq_false h1
      have h2 := of_decide_eq_false h2
      omega
def insR (x : List Int) : List (List Int) → List (List Int)
  | [] => [x]
  | y :: ys => if leR x y then x :: y :: ys else y :: insR x ys
def isR : List (List Int) → List (List Int)
  | [] => []
  | x :: xs => insR x (isR xs)
theorem insR_perm (x : List Int) : ∀ l, (insR x l).Perm (x :: l)
  | [] => .refl _
  | y :: ys => by
    unfold insR
    split
    · exact .refl _
    · exact ((insR_perm x ys).cons y).trans (.swap _ _ _)
theorem isR_perm : ∀ l, (isR l).Perm l
  | [] => .refl _
  | x :: xs => (insR_perm x (isR xs)).trans ((isR_perm xs).cons x)
theorem insR_pw (x : List Int) : ∀ l : List (List Int), l.Pairwise (fun a b => leR a b = true) → (insR x l).Pairwise (fun a b => leR a b = true)
  | [], _ => .cons (by simp) .nil
  | y :: ys, h => by
    obtain ⟨h1, h2⟩ := List.pairwise_cons.mp h
    unfold insR
    split
    · rename_i hxy
      refine .cons (fun z hz => ?_) h
      rcases List.mem_cons.mp hz with rfl | hz
      · exact hxy
      · exact ltR_trans _ _ _ hxy (h1 z hz)
    · rename_i hxy
      refine .cons (fun z hz => ?_) (insR_pw x ys h2)
      rcases List.mem_cons.mp ((insR_perm x ys).mem_iff.mp hz) with rfl | hz
      · have := leR_total z y
        simp only [Bool.or_eq_true] at this
        exact this.resolve_left hxy
      · exact h1 z hz
theorem isR_pw : ∀ l, (isR l).Pairwise (fun a b => leR a b = true)
  | [] => .nil
  | x :: xs => insR_pw x _ (isR_pw xs)
theorem pw_unique : ∀ (a b : List (List Int)), a.Perm b → a.Pairwise (fun x y => leR x y = true) → b.Pairwise (fun x y => leR x y = true) → a = b
  | [], b, p, _, _ => (List.nil_perm.mp p).symm
  | x :: xs, b, p, h1, h2 => by
    cases b with
    | nil => exact absurd p.length_eq (by simp)
    | cons y ys =>
      obtain ⟨a1, a2⟩ := List.pairwise_cons.mp h1
      obtain ⟨b1, b2⟩ := List.pairwise_cons.mp h2
      have e : x = y := by
        rcases List.mem_cons.mp (p.mem_iff.mp (List.mem_cons_self ..)) with q | q
        · exact q
        · rcases List.mem_cons.mp (p.mem_iff.mpr (List.mem_cons_self ..)) with r | r
          · exact r.symm
          · exact leR_anti _ _ (a1 y r) (b1 x q)
      subst e
      rw [pw_unique xs ys (List.perm_cons _ |>.mp p) a2 b2]
theorem ms_isR (l : List (List Int)) : l.mergeSort leR = isR l :=
  pw_unique _ _ ((List.mergeSort_perm l leR).trans (isR_perm l).symm) (List.pairwise_mergeSort ltR_trans leR_total l) (isR_pw l)
abbrev wT (r : List Int) : D := .tup (r.map D.int)
theorem toPys_int : ∀ r : List Int, toPys (r.map D.int) = r.map PyData.int
  | [] => by simp [toPys]
  | i :: r => by simp [toPys, toPy, toPys_int r]
theorem toPy_wT (r : List Int) : toPy (wT r) = .tuple (r.map .int) := by
  simp only [toPy, toPys_int]
theorem le_wT (x y : List Int) : PySem.W.dataLe false (fun r : List Int => toPy (wT r)) x y = leR x y := by
  show (!PySem.W.dataLt (toPy (wT y)) (toPy (wT x))) = _
  rw [toPy_wT, toPy_wT, PySem.W.dataLt_tuple]
  show (!PySem.W.rowLt (y.map .int) (x.map .int)) = _
  rw [PySem.W.dataLt_ints, leR, ltR_eq]
theorem intsA_is : ∀ {ds : List D} {r : List Int}, intsA ds = some r → ds = r.map D.int
  | [], r, h => by simp [intsA] at h; subst h; rfl
  | d :: ds, r, h => by
    unfold intsA at h
    split at h
    · rename_i k ks h1 h2
      cases h
      cases d <;> simp [intA] at h1
      subst h1
      rw [intsA_is h2]; rfl
    · cases h
theorem tupsA_is : ∀ {ds : List D} {rs : List (List Int)}, tupsA ds = some rs → ds = rs.map wT
  | [], r, h => by simp [tupsA] at h; subst h; rfl
  | d :: ds, r, h => by
    unfold tupsA at h
    split at h
    · rename_i k ks h1 h2
      cases h
      cases d <;> simp [tupA] at h1
      rw [intsA_is h1, tupsA_is h2]; rfl
    · cases h
def rSrtR (K : PySem.W.Frag) : List V → Hp → VK → Prop := fun vs H Q => ∃ (q : Addr) (xs : List V) (rs : List (List Int)), vs = [V.ref q] ∧ SqL K H q xs ∧ DpAll K H xs (toPys (rs.map wT)) ∧ rs.length ≤ 1000 ∧ (∀ r ∈ rs, r ≠ []) ∧
  ∀ ps : List (V × List Int), (∀ x ∈ ps, x ∈ xs.zip rs) → ps.map (·.2) = isR rs → ∀ p, H p = none → Q (.ref p) (upd H p (.lst (ps.map (·.1))))
section
variable {X : Cx} {pins : List (Addr × Obj)} {σ : L2.St} {H : Hp} {s : Shared}
theorem zip_sndR : ∀ {xs : List V} {rs : List (List Int)}, xs.length = rs.length → (xs.zip rs).map (·.2) = rs
  | [], [], _ => rfl
  | x :: xs, d :: ds, h => by simp [zip_sndR (xs := xs) (rs := ds) (by simpa using h)]
theorem each_zipR : ∀ {xs : List V} {us : List Value} {rs : List (List Int)}, Vals xs us → xs.length = rs.length → PySem.W.EachIs (fun u (p : V × List Int) => RelV p.1 u) us (xs.zip rs)
  | [], _, rs, r, hl => by
    cases r
    match rs, hl with
    | [], _ => exact .nil
  | x :: xs, _, rs, r, hl => by
    cases r with
    | cons r1 r2 => match rs, hl with
      | d :: ds, hl => exact .cons r1 (each_zipR r2 (by simpa using hl))
theorem vals_eachR : ∀ {us : List Value} {ps : List (V × List Int)}, PySem.W.EachIs (fun u (p : V × List Int) => RelV p.1 u) us ps → Vals (ps.map (·.1)) us
  | _, _, .nil => .nil
  | _, _, .cons h1 h2 => .cons h1 (vals_eachR h2)
theorem each_readsR (I : Inv X pins σ H s) : ∀ {xs : List V} {us : List Value} {rs : List (List Int)}, Vals xs us → DpAll X.K H xs (toPys (rs.map wT)) → PySem.W.EachIs (fun u (p : V × List Int) => ∃ as, Reads s.heap u (toPy (wT p.2)) as) us (xs.zip rs)
  | [], _, rs, r, h => by
    cases r
    cases rs with
    | nil => exact .nil
    | cons d ds => simp only [List.map_cons, toPys] at h; cases h
  | x :: xs, _, rs, r, h => by
    cases r with
    | cons r1 r2 => cases rs with
      | nil => simp only [List.map_nil, toPys] at h; cases h
      | cons d ds =>
        simp only [List.map_cons, toPys] at h
        cases h with
        | cons h1 h2 => exact .cons (Dp.reads I _ _ _ h1 r1) (each_readsR I r2 h2)
theorem cr_srtR (hu : X.A.units + 100 < cLine) : CallR X (.builtin "sorted") (rSrtR X.K) := by
  intro pins s σ H vs us Q I r h
  obtain ⟨q, xs, rs, rfl, hs, hd, g1, g2, hq⟩ := h
  rw [Vals.ref1 r]
  obtain ⟨its, rv, pl, hz⟩ := I.list hs
  have hl : xs.length = rs.length := by rw [dpAll_len hd, toPys_map]; simp
  have hz2 : rs.length ≤ sizeLine := by rw [sizeLine_eq]; omega
  refine PySem.W.sorted_data (enc := fun p : V × List Int => toPy (wT p.2)) (R := fun u (p : V × List Int) => RelV p.1 u) pl.isList (each_zipR rv hl) (each_readsR I rv hd) (PySem.W.AllAlike.of fun a b => by
    rw [toPy_wT, toPy_wT]
    show PySem.W.alikeAll _ _ = true
    exact PySem.W.alike_ints _ _) (.inl fun d hd => by
    obtain ⟨p, hp, rfl⟩ := List.mem_map.mp hd
    have := g2 p.2 (by rw [← zip_sndR hl]; exact List.mem_map_of_mem hp)
    rw [toPy_wT]
    cases h : p.2 with
    | nil => exact absurd h this
    | cons a b => exact ⟨_, _, rfl⟩) (by simp [hl, hz2]) (fun p hp => by
      have : (toPy (wT p.2)).depth ≤ 1 := by
        rw [toPy_wT]
        have : ∀ l : List Int, PyData.depthAll (l.map PyData.int) = 0 := fun l => by
          induction l with
          | nil => simp [PyData.depthAll]
          | cons a b ih => simp [PyData.depthAll, PyData.depth, ih]
        simp [PyData.depth, this]
      omega) fun out h1 h2 => ?_
  have rv2 := vals_eachR h2
  have e2 : ((xs.zip rs).mergeSort (PySem.W.dataLe false fun p : V × List Int => toPy (wT p.2))).map (·.2) = isR rs := by
    rw [List.map_mergeSort (s := leR) (fun a _ b _ => le_wT a.2 b.2), zip_sndR hl, ms_isR]
  have e3 : ∀ x ∈ (xs.zip rs).mergeSort (PySem.W.dataLe false fun p : V × List Int => toPy (wT p.2)), x ∈ xs.zip rs := fun x hx => List.mem_mergeSort.mp hx
  have hlen : ((xs.zip rs).mergeSort (PySem.W.dataLe false fun p : V × List Int => toPy (wT p.2))).length ≤ sizeLine := by rw [List.length_mergeSort]; simp [hl, hz2]
  obtain ⟨ep, he⟩ := PyProof.Rows.sortedAll_at s.heap its out.toArray
  have he' : (PyProof.Rows.sortedAll s.heap its out.toArray).get? (s.heap.objs.size + 1) = some (seqObj "list" out.toArray ep) := he
  exact ⟨.ref _, upd H (s.heap.objs.size + 1) (.lst (((xs.zip rs).mergeSort (PySem.W.dataLe false fun p : V × List Int => toPy (wT p.2))).map (·.1))), I.laid (t' := s.toks) (o := .lst (((xs.zip rs).mergeSort (PySem.W.dataLe false fun p : V × List Int => toPy (wT p.2))).map (·.1))) (fun _ _ => PyProof.Rows.sortedAll_old) (Nat.le_succ _) ⟨by rw [List.length_map]; exact hlen, out, ep, rv2, he'⟩, rfl, hq _ e3 e2 _ (I.hok.fresh (Nat.le_succ _))⟩
end
def fSrtR : D → Bs → Rs D
  | .lst ds, B => match tupsA ds with
    | some rs => if decide (rs.length ≤ 1000) && rs.all (fun r => !r.isEmpty) then .ok (.lst ((isR rs).map wT)) B else .bad
    | Option.none => .bad
  | _, _ => .bad
theorem reps_zip {g : Gs} {w : Wd} : ∀ {rs : List (List Int)} {vs : List V}, Reps g w (rs.map wT) vs → ∀ x ∈ vs.zip rs, Rep g w (wT x.2) x.1
  | [], vs, h, x, hx => by simp at hx
  | r :: rs, vs, h, x, hx => by
    simp only [List.map_cons, Reps] at h
    obtain ⟨v, us, rfl, r1, r2⟩ := h
    rw [List.zip_cons_cons] at hx
    rcases List.mem_cons.mp hx with rfl | hx
    · exact r1
    · exact reps_zip r2 x hx
theorem reps_pairs {g : Gs} {w : Wd} : ∀ {ps : List (V × List Int)}, (∀ x ∈ ps, Rep g w (wT x.2) x.1) → Reps g w ((ps.map (·.2)).map wT) (ps.map (·.1))
  | [], _ => by simp only [List.map_nil, Reps]
  | p :: ps, h => by
    simp only [List.map_cons, Reps]
    exact ⟨_, _, rfl, h p List.mem_cons_self, reps_pairs fun x hx => h x (List.mem_cons_of_mem _ hx)⟩
section
variable {g : Gs} {E : XK} {w0 w : Wd} {H0 H : Hp} {X : Cx} {e : Expr} {m : Ev} {pos p1 : Pos} {bo b1 : Bool}
theorem o_sortedR (c : Ok g X) : OneF g E H0 X (.builtin "sorted") fSrtR := ⟨_, cr_srtR c.un, fun w σI B σ H Q x d s r p => by
  unfold fSrtR at p
  split at p
  · rename_i ds
    split at p
    · rename_i rs hr
      split at p
      · rename_i hc
        simp only [Bool.and_eq_true, decide_eq_true_eq, List.all_eq_true, Bool.not_eq_true', List.isEmpty_eq_false_iff] at hc
        obtain rfl := tupsA_is hr
        obtain ⟨q, vs, rfl, hq, rr⟩ := r.lst s
        have cl : PyData.canLayAll0 (toPys (rs.map wT)) = true := by
          have h1 : ∀ l : List Int, PyData.canLayAll0 (l.map PyData.int) = true := fun l => by
            induction l with
            | nil => simp [PyData.canLayAll0]
            | cons a b ih => simp [PyData.canLayAll0, PyData.canLay0, ih]
          clear hc hr rr p r hq
          induction rs with
          | nil => simp [toPys, PyData.canLayAll0]
          | cons a b ih => simp only [List.map_cons, toPys, PyData.canLayAll0, ih, toPy_wT, PyData.canLay0, h1, Bool.and_self]
        exact ⟨q, vs, rs, rfl, .inl (.inl hq), c.K ▸ Reps.dp s.rb.sub _ vs rr cl, hc.1, hc.2, fun ps h1 h2 l hl => p.newL s (by
          rw [← h2]
          exact reps_pairs fun x hx => reps_zip rr x (h1 x hx)) hl⟩
      · exact p.elim
    · exact p.elim
  · exact p.elim⟩
theorem q_sortedR (c : Ok g X) (he : Snd g E H0 X b1 e m) (hg : Gl X "sorted" := by rfl) (h1 : starEach (e :: []) X.env = (false, eval e X.env) :: starEach [] X.env := by rfl) : SndF g E H0 X (.Call (.Name "sorted" p1) [e] [] pos) (m1 fSrtR m) := f_b1 (o_sortedR c) bt_sorted (nbs c) he hg (by decide) (by decide) h1
end
/-! ### x = n.pop(), n a name's own list -/
def mPopO (i j : Nat) : Ms := fun σ B => match σ[j]? with
  | some (some (true, .lst ds)) => match ds[ds.length - 1]? with
    | some d => .next ((σ.set j (some (true, .lst ds.dropLast))).set i (some (false, d))) B
    | Option.none => .bad
  | _ => .bad
section
variable {g : Gs} {E : XK} {w0 : Wd} {H0 : Hp} {X : Cx} {pos p1 p2 apos cpos : Pos} {x y : Str} {i j : Nat}
theorem z_popO (hn : X.N.Nodup) (hi : X.N[i]? = some x := by rfl) (hx : Loc X.env.scope x := by first | exact .inl rfl | exact .inr rfl) (hj : X.N[j]? = some y := by rfl) (hv : Vis X.env.scope y := by first | exact Or.inl rfl | exact Or.inr (Or.inl rfl) | exact Or.inr (Or.inr rfl)) (hd : (y == ("__debug__" : Str)) = false := by decide) (hcd : (y == ("__classdict__" : Str)) = false := by decide)
    (hbase : attributeBase (.Name y p2) "pop" X.env (eval (.Name y p2) X.env) = eval (.Name y p2) X.env := by rfl) (hline : (apos.endLine == cpos.line) = true := by rfl)
    (hs : swapsWith (.Call (.Attribute (.Name y p2) "pop" apos) [] [] cpos) (some (.Name x p1)) pos.line X.env = pure false := by rfl) (hf : X.fn x = true := by rfl) :
    SndS g E w0 H0 X (.Assign [.Name x p1] (.Call (.Attribute (.Name y p2) "pop" apos) [] [] cpos) pos) (mPopO i j) := by
  refine weakS (ps_set hn hi hx (pe_bm0 PySem.F.plainAttrs_list PySem.F.slot_list_pop PySem.F.type_list_pop mt_pop (pe_var hj hv hd hcd) hbase hline) hs (.inl hf)) ?_
  rintro D σ H ⟨w, σI, B, s, x0, p⟩
  unfold mPopO at p
  split at p
  · rename_i ds hjs
    split at p
    · rename_i d hd'
      obtain ⟨a, o, e1, ha, c, np, nb, n0⟩ := s.ow j _ hjs
      simp only [Cont] at c
      obtain ⟨vs, rfl, r⟩ := c
      obtain ⟨u, e2, ru⟩ := Reps.get r hd'
      refine ⟨.ref a, e1, tyL ha, a, vs, u, rfl, rfl, ha, by rw [r.len]; exact e2, ?_⟩
      exact p w _ _ (Le.refl _) ((s.mut hjs e1 (by simp only [Cont]; exact ⟨_, rfl, r.dropLast⟩) (by intro _ _ z; cases z)).set i ru) (x0.mut n0)
    · exact p.elim
  · exact p.elim
end
/-! ### a, b = [..], [..]: both are own containers -/
def mPar2O (i j : Nat) (ma mb : Ev) : Ms := fun σ B => (ma σ B).st fun d B1 => (mb σ B1).st fun e B2 => .next ((σ.set i (some (true, d))).set j (some (true, e))) B2
section
variable {g : Gs} {E : XK} {w0 : Wd} {H0 : Hp} {X : Cx} {a b : Expr} {ma mb : Ev} {pos : Pos} {lv k : Nat}
theorem z_par2O {i j : Nat} {x y : Str} {px py pt : Pos} {kt k2 : Nat} {pt2 : Pos} (c : Ok g X) (hN : X.N.Nodup) (ha : SndF g E H0 X a ma) (hb : SndF g E H0 X b mb) (hw : swappedStores [.Tuple [.Name x px, .Name y py] kt pt] (.Tuple [a, b] k2 pt2) X.env = pure (some [x, y]) := by rfl)
    (hi : X.N[i]? = some x := by rfl) (hj : X.N[j]? = some y := by rfl) (hij : i ≠ j := by decide) (hx : X.env.scope.names.lookup x = some .local := by rfl) (hy : X.env.scope.names.lookup y = some .local := by rfl)
    (hs : swapsWithSole [.Tuple [.Name x px, .Name y py] kt pt] (.Tuple [a, b] k2 pt2) pos.line X.env = pure false := by rfl) (h1 : starEach [a, b] X.env = (false, eval a X.env) :: starEach [b] X.env := by rfl) (h2 : starEach [b] X.env = (false, eval b X.env) :: starEach [] X.env := by rfl) :
    SndS g E w0 H0 X (.Assign [.Tuple [.Name x px, .Name y py] kt pt] (.Tuple [a, b] k2 pt2) pos) (mPar2O i j ma mb) := by
  refine weakS (ps_par c.calm hN hi hj hij hx hy (pa_cons ha (pa_cons hb pa_nil h2) h1) hw hs) ?_
  rintro D σ H ⟨w, σI, B, s, x0, p⟩
  refine st_goF s x0 p fun e B1 w1 q ob H1 x1 x2 s1 e1 ct n pp io z p1 => ?_
  refine st_goF s1 x1 p1 fun e' B2 w2 q' ob' H2 y1 y2 s2 e2 ct' n' pp' io' z' p2 => ?_
  have hq : q ≠ q' := ne_of_none e1 n'
  refine ⟨.ref q, .ref q', rfl, p2 w2 _ H2 (Le.refl _) ((s2.setO i (y2.keep _ _ e1 io ct.nt.t) (Cont.mono y2.le ct) ?_ ?_ (x0.none0 n) (fun l f hl => s.own_ne hl n) z).setO j e2 ct' pp' io' (x1.none0 n') (fun l f hl => ?_) z') y1⟩
  · cases hp : w2.P q with
    | none => rfl
    | some u =>
      rcases y2.pf _ _ hp with h | h | ⟨qq, h⟩
      · rw [pp] at h; cases h
      · rw [e1] at h; cases h
      · have y := s2.rb.sub _ _ hp
        rw [y2.keep _ _ e1 io ct.nt.t] at y; cases y
        exact (ct.nt.c _ _ h).elim
  · intro k hk
    rcases y2.iof _ _ hk with h | h
    · exact io k h
    · rw [e1] at h; cases h
  · by_cases hli : l = i
    · subst hli
      intro q2
      have hl' : l < σ.length := by
        have := (List.getElem?_eq_some_iff.mp q2).1
        simpa using this
      rw [List.getElem?_set_self hl'] at q2
      exact hq (by cases q2; rfl)
    · rw [List.getElem?_set_ne (Ne.symm hli)] at hl ⊢
      exact s1.own_ne hl n'
theorem OkC.mono (c : OkC g E lv X) (h : k ≤ lv) : OkC g E k X := ⟨c.toOk, c.room.mono h, c.hx⟩
end
/-! ### where the lambdas of a text stand -/
def noE : Expr := .Constant .none 0 ⟨0, 0, 0, 0⟩
def retE : Stmt → Expr
  | .Return (some e) _ => e
  | .Assign _ e _ => e
  | _ => noE
def argE (n : Nat) : Expr → Expr
  | .Call _ es _ _ => es.getD n noE
  | _ => noE
def lmP : Expr → Arguments
  | .Lambda p _ _ _ => p
  | _ => ⟨[], [], Option.none, [], [], Option.none, []⟩
def lmB : Expr → Expr
  | .Lambda _ b _ _ => b
  | e => e
def lmS (d : Scope) : Expr → Scope
  | .Lambda _ _ s _ => s
  | _ => d
/-! ### a def that holds lambdas, no repr asked -/
theorem def_okLC {g : Gs} {x qual : Str} {st : Stmt} {fa : Addr} {fd : FuncData} {N ps : List Str} {n k : Nat} {b : Ms} {k0 P : Addr} (F : L2.Fun g.K x qual st fa fd) (S : FnScope N ps (defScope st)) (hn : ps.length = n) (hN : n ≤ N.length)
    (fx : Fx g) (co : fd.code = .ref k0) (tb : LamX.TabB g.base g.mg k0 P) (mem : (P, (qual ++ ".<locals>.") ++ "<lambda>") ∈ g.tabs) (uni : ∀ p ∈ g.tabs, p.1 = P → p.2 = (qual ++ ".<locals>.") ++ "<lambda>")
    (hb : ∀ (E : XK) (w0 : Wd) (H0 : Hp) (X : Cx), OkC g E k X → LamK g X k0 P → PassesOwn (model X.prog X.w) X.A X.env X.xe → L2N.Takes X (fun cls d _ H => E cls d H) → X.N = N → X.env.scope = defScope st → X.fn = (fun _ => true) → SndB g E w0 H0 X (defBody st) b) :
    FnOk g.prog g.w g.K g.mg g.base (L2N.CX g.prog g.w) (k + 1) fa fd ps (spF g (mkFn n N.length b)) := by
  obtain ⟨oc, od, kV, doc, pm, an, cdv, ct, osl, rfl, lk, hcd⟩ := F.ex
  have len : ∀ vs H Q E, spF g (mkFn n N.length b) vs H Q E → vs.length = ps.length := fun vs H Q E h => by
    obtain ⟨w, ds, B, rb, r, p⟩ := h
    unfold mkFn at p
    split at p
    · rename_i e; rw [r.len, e, hn]
    · exact p.elim
  refine ⟨len, fun A outer s H args us vs Q E hr e0 hbd r h => ?_⟩
  refine LamX.run_ofS lk hcd S hr e0 hbd r (len _ _ _ _ h) fun hr' => ?_
  obtain ⟨w, ds, B, rb, r, p⟩ := h
  unfold mkFn at p
  split at p
  · rename_i e
    refine ⟨_, hb E w H _ ⟨⟨rfl, rfl, rfl, un_of hr', rfl, rfl, rfl, fx⟩, hr', L2N.passes_call (L2N.takes_of rfl rfl rfl rfl) (fun _ _ _ _ h => h)⟩ (by exact ⟨tb, co, mem, uni⟩) (passes_of rfl) (L2N.takes_of rfl rfl rfl rfl) rfl rfl rfl, ?_⟩
    refine ⟨w, _, B, start_at rb r e hN, Ext.refl _ _, ?_⟩
    revert p
    generalize b _ B = q
    intro p
    cases q with
    | next σI' B' => exact fun w' σ H' _ s x => p w' .non H' x s.rb (rep_none g w')
    | ret d B' => exact fun w' v H' rb x r => p w' v H' x rb r
    | exc c y B' => exact fun w' cls dd H' rb x r => p w' cls dd H' x rb r
    | bad => exact p
  · exact p.elim
end Hf

set_option Elab.async false
set_option linter.all false
set_option maxRecDepth 100000
set_option maxHeartbeats 4000000
namespace Hk
open PySem PySem.Spec PyProof.Rows L2 Hf
def top (i : Nat) : Stmt := PySem.Challenge.pw_halfread_k30_single_codes_made.main.body.getD i (.Pass ⟨0, 0, 0, 0⟩)
theorem nbg {g : Gs} {X : Cx} (ok : Ok g X) (x : String) (h : x ∈ ["len", "range", "isinstance", "tuple", "list", "all", "any", "max", "min", "set", "sorted", "enumerate", "zip", "repr", "str", "int", "sum", "dict", "bool"] := by decide) : g.mg (Str.ofString x) = Option.none := ok.fx.nb x h
def mL_0 : Ev := (mC (.bool true))
def FL : Nat → Fn
  | 0 => fun ds B => if ds.length = 2 then mL_0 (ds.map fun d => some (false, d)) B else .bad
  | _ => fun _ _ => .bad
/-! ### _law_pen -/
abbrev t__law_pen : Stmt := top 34
abbrev n__law_pen : List Str := ["_law_cell"]
def m__law_pen : Ms := (mRet (mBox (mLst (mCons (mBin fMax2 (mC (.int 0)) (mBin fSub (mVar 0) (mBin fPow (mC (.int 10)) (mC (.int 18))))) (mCons (mBin fAdd (mBin fMod (mVar 0) (mC (.int 2147483629))) (mC (.int 1))) (mCons (mC (.int 0)) mNil))))))
def f__law_pen : Fn := mkFn 1 1 m__law_pen
theorem b__law_pen {g : Gs}  : ∀ (E : XK) (w0 : Wd) (H0 : Hp) (X : Cx), OkC g E 0 X → PassesOwn (model X.prog X.w) X.A X.env X.xe → L2N.Takes X (fun cls d _ H => E cls d H) → X.N = n__law_pen → X.env.scope = defScope (t__law_pen) → X.fn = (fun _ => true) → SndB g E w0 H0 X (defBody (t__law_pen)) m__law_pen := by
  intro E w0 H0 X c po tk hN hs hf
  obtain ⟨prog, w', K, mg, base, A, N, s_0, H_0, ⟨e1, e2, e3, e4, e5, e6, e7, e8, e9⟩, outer, stack, ex, fn, calm, pn, xe⟩ := X
  simp only at hN hs hf
  subst hN hs hf
  have nd : (n__law_pen).Nodup := by decide +kernel
  exact (b_one (z_ret (s_box (f_lst (a_cons (q_max2 c.toOk s_int (s_sub (s_var (i := 0)) (s_pow s_int s_int))) (a_cons (s_add c.toOk (s_mod (s_var (i := 0)) s_int) s_int) (a_cons s_int a_nil)))))))
/-! ### _law_cell_at -/
abbrev t__law_cell_at : Stmt := top 33
abbrev n__law_cell_at : List Str := ["_law_script", "_law_k"]
def m__law_cell_at : Ms := (mSeq (mIf (mCmpT fLt (mVar 1) (m1 fLen (mVar 0))) (mRet (mBin fIx (mVar 0) (mVar 1))) mSkip)
  (mRet (mC (.int 0))))
def f__law_cell_at : Fn := mkFn 2 2 m__law_cell_at
theorem b__law_cell_at {g : Gs}  : ∀ (E : XK) (w0 : Wd) (H0 : Hp) (X : Cx), OkC g E 0 X → PassesOwn (model X.prog X.w) X.A X.env X.xe → L2N.Takes X (fun cls d _ H => E cls d H) → X.N = n__law_cell_at → X.env.scope = defScope (t__law_cell_at) → X.fn = (fun _ => true) → SndB g E w0 H0 X (defBody (t__law_cell_at)) m__law_cell_at := by
  intro E w0 H0 X c po tk hN hs hf
  obtain ⟨prog, w', K, mg, base, A, N, s_0, H_0, ⟨e1, e2, e3, e4, e5, e6, e7, e8, e9⟩, outer, stack, ex, fn, calm, pn, xe⟩ := X
  simp only at hN hs hf
  subst hN hs hf
  have nd : (n__law_cell_at).Nodup := by decide +kernel
  exact (b_cons (z_if (t_cmp c_lt (s_var (i := 1)) (q_len c.toOk (s_var (i := 0)))) (b_one (z_ret (s_ix c.toOk (s_var (i := 0)) (s_var (i := 1))))) b_nil)
  (b_one (z_ret s_int)))
/-! ### _law_draw -/
abbrev t__law_draw : Stmt := top 35
abbrev n__law_draw : List Str := ["_law_pen_here", "_law_many", "_law_found", "_law_mixed_here"]
def m__law_draw : Ms := (mSeq (mIf (mCmpT fGt (mBin fIx (mVar 0) (mC (.int 0))) (mC (.int 0))) (mSeq (mSet 2 (mBin fMod (mBin fIx (mVar 0) (mC (.int 0))) (mVar 1)))
  (mSeq (mSetIx (mVar 0) (mC (.int 0)) (mBin fDiv (mBin fIx (mVar 0) (mC (.int 0))) (mVar 1)))
  (mRet (mVar 2)))) mSkip)
  (mSeq (mSetIx (mVar 0) (mC (.int 2)) (mBin fAdd (mBin fIx (mVar 0) (mC (.int 2))) (mC (.int 1))))
  (mSeq (mSetIx (mVar 0) (mC (.int 1)) (mBin fMod (mBin fAdd (mBin fAdd (mBin fMul (mBin fIx (mVar 0) (mC (.int 1))) (mC (.int 48271))) (mBin fMul (mC (.int 1009)) (mBin fIx (mVar 0) (mC (.int 2))))) (mC (.int 7))) (mC (.int 2147483647))))
  (mSeq (mSet 3 (mBin fMod (mBin fAdd (mBin fAdd (mBin fMul (mBin fIx (mVar 0) (mC (.int 1))) (mBin fIx (mVar 0) (mC (.int 1)))) (mBin fMul (mC (.int 69621)) (mBin fIx (mVar 0) (mC (.int 1))))) (mC (.int 11))) (mC (.int 2147483629))))
  (mSeq (mSet 3 (mBin fMod (mBin fAdd (mBin fMul (mVar 3) (mVar 3)) (mBin fMul (mC (.int 40014)) (mVar 3))) (mC (.int 2147483587))))
  (mRet (mBin fMod (mBin fDiv (mVar 3) (mC (.int 16))) (mVar 1))))))))
def f__law_draw : Fn := mkFn 2 4 m__law_draw
theorem b__law_draw {g : Gs}  : ∀ (E : XK) (w0 : Wd) (H0 : Hp) (X : Cx), OkC g E 0 X → PassesOwn (model X.prog X.w) X.A X.env X.xe → L2N.Takes X (fun cls d _ H => E cls d H) → X.N = n__law_draw → X.env.scope = defScope (t__law_draw) → X.fn = (fun _ => true) → SndB g E w0 H0 X (defBody (t__law_draw)) m__law_draw := by
  intro E w0 H0 X c po tk hN hs hf
  obtain ⟨prog, w', K, mg, base, A, N, s_0, H_0, ⟨e1, e2, e3, e4, e5, e6, e7, e8, e9⟩, outer, stack, ex, fn, calm, pn, xe⟩ := X
  simp only at hN hs hf
  subst hN hs hf
  have nd : (n__law_draw).Nodup := by decide +kernel
  exact (b_cons (z_if (t_cmp c_gt (s_ix c.toOk (s_var (i := 0)) s_int) s_int) (b_cons (z_set (i := 2) nd (s_mod (s_ix c.toOk (s_var (i := 0)) s_int) (s_var (i := 1))))
  (b_cons (z_setIx (s_div (s_ix c.toOk (s_var (i := 0)) s_int) (s_var (i := 1))) (s_var (i := 0)) s_int)
  (b_one (z_ret (s_var (i := 2)))))) b_nil)
  (b_cons (z_setIx (s_add c.toOk (s_ix c.toOk (s_var (i := 0)) s_int) s_int) (s_var (i := 0)) s_int)
  (b_cons (z_setIx (s_mod (s_add c.toOk (s_add c.toOk (s_mul c.toOk (s_ix c.toOk (s_var (i := 0)) s_int) s_int) (s_mul c.toOk s_int (s_ix c.toOk (s_var (i := 0)) s_int))) s_int) s_int) (s_var (i := 0)) s_int)
  (b_cons (z_set (i := 3) nd (s_mod (s_add c.toOk (s_add c.toOk (s_mul c.toOk (s_ix c.toOk (s_var (i := 0)) s_int) (s_ix c.toOk (s_var (i := 0)) s_int)) (s_mul c.toOk s_int (s_ix c.toOk (s_var (i := 0)) s_int))) s_int) s_int))
  (b_cons (z_set (i := 3) nd (s_mod (s_add c.toOk (s_mul c.toOk (s_var (i := 3)) (s_var (i := 3))) (s_mul c.toOk s_int (s_var (i := 3)))) s_int))
  (b_one (z_ret (s_mod (s_div (s_var (i := 3)) s_int) (s_var (i := 1))))))))))
/-! ### _law_mixed -/
abbrev t__law_mixed : Stmt := top 36
abbrev n__law_mixed : List Str := ["_law_pen_here", "_law_some", "_law_left", "_law_one"]
def m__law_mixed : Ms := (mSeq (mSet 2 (mBox (m1 fLstO (mVar 1))))
  (mRet (mLc [3] (gN 3) (mItems (mVar 1)) mYes (mPopB 2 (mCall f__law_draw [] (mCons (mVar 0) (mCons (m1 fLen (mVar 2)) mNil)))))))
def f__law_mixed : Fn := mkFn 2 4 m__law_mixed
theorem b__law_mixed {g : Gs}  (d__law_draw : Def g 1 "_law_draw" [] f__law_draw) : ∀ (E : XK) (w0 : Wd) (H0 : Hp) (X : Cx), OkC g E 1 X → PassesOwn (model X.prog X.w) X.A X.env X.xe → L2N.Takes X (fun cls d _ H => E cls d H) → X.N = n__law_mixed → X.env.scope = defScope (t__law_mixed) → X.fn = (fun _ => true) → SndB g E w0 H0 X (defBody (t__law_mixed)) m__law_mixed := by
  intro E w0 H0 X c po tk hN hs hf
  obtain ⟨prog, w', K, mg, base, A, N, s_0, H_0, ⟨e1, e2, e3, e4, e5, e6, e7, e8, e9⟩, outer, stack, ex, fn, calm, pn, xe⟩ := X
  simp only at hN hs hf
  subst hN hs hf
  have nd : (n__law_mixed).Nodup := by decide +kernel
  exact (b_cons (z_set (i := 2) nd (s_box (q_list c.toOk (s_var (i := 1)))))
  (b_one (z_ret (f_val (f_lc (own := [("_law_one", 3)]) c.toOk nd (i_seq c.toOk (s_var (i := 1))) (by first | exact L2.blkOk_by (by decide +kernel) | exact L2.blkOk_by (by kernel_rfl)) (by decide) (fun _ _ _ _ _ => (g_name (i := 3) nd)) (fun _ _ _ _ _ => ts_nil) (fun _ _ _ _ _ => (fun (cb : OkC g E0 1 _) => (s_popB (i := 2) (s_call cb d__law_draw (by decide) (a_cons (s_var (i := 0)) (a_cons (q_len cb.toOk (s_var (i := 2))) a_nil))))) (c.blk _ _ _ _ _)))))))
/-! ### _law_near -/
abbrev t__law_near : Stmt := top 38
abbrev n__law_near : List Str := ["_law_row", "_law_at"]
def m__law_near : Ms := (mRet (m1 fSrtR (mLc [1] (gN 1) (mRng1 (m1 fLen (mVar 0))) mYes (mBin fAdd (mBin fAdd (mSl01 (mVar 0) (mVar 1)) (mTup (mCons (mBin fSub (mC (.int 1)) (mBin fIx (mVar 0) (mVar 1))) mNil))) (mSl10 (mVar 0) (mBin fAdd (mVar 1) (mC (.int 1))))))))
def f__law_near : Fn := mkFn 1 2 m__law_near
theorem b__law_near {g : Gs}  : ∀ (E : XK) (w0 : Wd) (H0 : Hp) (X : Cx), OkC g E 0 X → PassesOwn (model X.prog X.w) X.A X.env X.xe → L2N.Takes X (fun cls d _ H => E cls d H) → X.N = n__law_near → X.env.scope = defScope (t__law_near) → X.fn = (fun _ => true) → SndB g E w0 H0 X (defBody (t__law_near)) m__law_near := by
  intro E w0 H0 X c po tk hN hs hf
  obtain ⟨prog, w', K, mg, base, A, N, s_0, H_0, ⟨e1, e2, e3, e4, e5, e6, e7, e8, e9⟩, outer, stack, ex, fn, calm, pn, xe⟩ := X
  simp only at hN hs hf
  subst hN hs hf
  have nd : (n__law_near).Nodup := by decide +kernel
  exact (b_one (z_ret (f_val (q_sortedR c.toOk (f_val (f_lc (own := [("_law_at", 1)]) c.toOk nd (i_rng1 c.toOk (nbg c.toOk "range") (q_len c.toOk (s_var (i := 0)))) (by first | exact L2.blkOk_by (by decide +kernel) | exact L2.blkOk_by (by kernel_rfl)) (by decide) (fun _ _ _ _ _ => (g_name (i := 1) nd)) (fun _ _ _ _ _ => ts_nil) (fun _ _ _ _ _ => (fun (cb : OkC g E0 0 _) => (s_add cb.toOk (s_add cb.toOk (s_sl01 cb.toOk (s_var (i := 0)) (s_var (i := 1))) (s_tup (a_cons (s_sub s_int (s_ix cb.toOk (s_var (i := 0)) (s_var (i := 1)))) a_nil))) (s_sl10 cb.toOk (s_var (i := 0)) (s_add cb.toOk (s_var (i := 1)) s_int)))) (c.blk _ _ _ _ _))))))))
/-! ### _law_apart -/
abbrev t__law_apart : Stmt := top 39
abbrev n__law_apart : List Str := ["_law_row", "_law_other", "_law_at"]
def m__law_apart : Ms := (mRet (mLc [2] (gN 2) (mRng1 (m1 fLen (mVar 0))) (mCmpT fNe (mBin fIx (mVar 0) (mVar 2)) (mBin fIx (mVar 1) (mVar 2))) (mVar 2)))
def f__law_apart : Fn := mkFn 2 3 m__law_apart
theorem b__law_apart {g : Gs}  : ∀ (E : XK) (w0 : Wd) (H0 : Hp) (X : Cx), OkC g E 0 X → PassesOwn (model X.prog X.w) X.A X.env X.xe → L2N.Takes X (fun cls d _ H => E cls d H) → X.N = n__law_apart → X.env.scope = defScope (t__law_apart) → X.fn = (fun _ => true) → SndB g E w0 H0 X (defBody (t__law_apart)) m__law_apart := by
  intro E w0 H0 X c po tk hN hs hf
  obtain ⟨prog, w', K, mg, base, A, N, s_0, H_0, ⟨e1, e2, e3, e4, e5, e6, e7, e8, e9⟩, outer, stack, ex, fn, calm, pn, xe⟩ := X
  simp only at hN hs hf
  subst hN hs hf
  have nd : (n__law_apart).Nodup := by decide +kernel
  exact (b_one (z_ret (f_val (f_lc (own := [("_law_at", 2)]) c.toOk nd (i_rng1 c.toOk (nbg c.toOk "range") (q_len c.toOk (s_var (i := 0)))) (by first | exact L2.blkOk_by (by decide +kernel) | exact L2.blkOk_by (by kernel_rfl)) (by decide) (fun _ _ _ _ _ => (g_name (i := 2) nd)) (fun _ _ _ _ _ => (fun (cb : OkC g E0 0 _) => (ts_one (t_cmp (c_ne cb.toOk) (s_ix cb.toOk (s_var (i := 0)) (s_var (i := 2))) (s_ix cb.toOk (s_var (i := 1)) (s_var (i := 2)))))) (c.blk _ _ _ _ _)) (fun _ _ _ _ _ => (s_var (i := 2)))))))
/-! ### _law_rings -/
abbrev t__law_rings : Stmt := top 40
abbrev n__law_rings : List Str := ["_law_many", "_law_wide", "_law_limit", "_law_found", "_law_waiting", "_law_rows", "_law_left", "_law_row"]
def m__law_rings : Ms := (mSeq (mPar2O 3 4 (mLst mNil) (mLst (mCons (mLst (mCons (mBin fMul (mTup (mCons (mC (.int 0)) mNil)) (mVar 1)) mNil)) mNil)))
  (mSeq (whileL (mAndT (mCmpT fNe (mBor 4) (mLst mNil)) (mCmpT fLt (m1 fLen (mBor 3)) (mVar 2))) (mSeq (mPopO 5 4)
  (mSeq (mSet 6 (mBin fSub (mVar 0) (m1 fLen (mVar 5))))
  (mSeq (mIf (mCmpT fEq (mVar 6) (mC (.int 0))) (mApp 3 (m1 fTupO (mVar 5))) mSkip)
  (mFor (gN 7) (mItems (mBin fMulL (m1 fRev (mCall f__law_near [] (mCons (mBin fIx (mVar 5) (mNeg (mC (.int 1)))) mNil))) (m1 fInt (mBin fGt (mVar 6) (mC (.int 0)))))) (mIf (mAndT (mCmpT (fInD fun b => !b) (mVar 7) (mVar 5)) (mCmpT fLe (m1 fLen (mCall f__law_apart [] (mCons (mVar 7) (mCons (mBin fIx (mVar 5) (mC (.int 0))) mNil)))) (mVar 6))) (mApp 4 (mBin fAdd (mVar 5) (mLst (mCons (mVar 7) mNil)))) mSkip))))) 4000)
  (mFrz 3 (mRet (mVar 3)))))
def f__law_rings : Fn := mkFn 3 8 m__law_rings
theorem b__law_rings {g : Gs}  (d__law_near : Def g 1 "_law_near" [] f__law_near) (d__law_apart : Def g 1 "_law_apart" [] f__law_apart) : ∀ (E : XK) (w0 : Wd) (H0 : Hp) (X : Cx), OkC g E 1 X → PassesOwn (model X.prog X.w) X.A X.env X.xe → L2N.Takes X (fun cls d _ H => E cls d H) → X.N = n__law_rings → X.env.scope = defScope (t__law_rings) → X.fn = (fun _ => true) → SndB g E w0 H0 X (defBody (t__law_rings)) m__law_rings := by
  intro E w0 H0 X c po tk hN hs hf
  obtain ⟨prog, w', K, mg, base, A, N, s_0, H_0, ⟨e1, e2, e3, e4, e5, e6, e7, e8, e9⟩, outer, stack, ex, fn, calm, pn, xe⟩ := X
  simp only at hN hs hf
  subst hN hs hf
  have nd : (n__law_rings).Nodup := by decide +kernel
  exact (b_cons (z_par2O (i := 3) (j := 4) c.toOk nd (f_lst a_nil) (f_lst (a_cons (f_val (f_lst (a_cons (s_mul c.toOk (s_tup (a_cons s_int a_nil)) (s_var (i := 1))) a_nil))) a_nil)))
  (b_cons (z_while 4000 po (t_w (w_and (t_cmp (c_ne c.toOk) (s_bor (i := 4)) (f_val (f_lst a_nil))) (w_and1 (t_cmp c_lt (q_len c.toOk (s_bor (i := 3))) (s_var (i := 2)))))) (b_cons (z_popO (i := 5) (j := 4) nd)
  (b_cons (z_set (i := 6) nd (s_sub (s_var (i := 0)) (q_len c.toOk (s_var (i := 5)))))
  (b_cons (z_if (t_cmp (c_eq c.toOk) (s_var (i := 6)) s_int) (b_one (z_app (i := 3) (q_tuple c.toOk (s_var (i := 5))))) b_nil)
  (b_one (z_for c.toOk po (i_seq c.toOk (f_val (f_mul (s_rev c.toOk (s_call c d__law_near (by decide) (a_cons (s_ix c.toOk (s_var (i := 5)) (s_neg s_int)) a_nil))) (q_int c.toOk (s_cmp c_gt (s_var (i := 6)) s_int))))) (g_name (i := 7) nd) (b_one (z_if (t_w (w_and (t_cmp (c_notinA c.toOk) (s_var (i := 7)) (s_var (i := 5))) (w_and1 (t_cmp c_le (q_len c.toOk (s_call c d__law_apart (by decide) (a_cons (s_var (i := 7)) (a_cons (s_ix c.toOk (s_var (i := 5)) s_int) a_nil)))) (s_var (i := 6)))))) (b_one (z_app (i := 4) (s_add c.toOk (s_var (i := 5)) (f_val (f_lst (a_cons (s_var (i := 7)) a_nil)))))) b_nil))))))))
  (b_one (s_frz (i := 3) (z_ret (s_var (i := 3)))))))
/-! ### _law_all -/
abbrev t__law_all : Stmt := top 37
abbrev n__law_all : List Str := ["_law_many", "_law_found", "_law_turn", "_law_longer", "_law_row"]
def m__law_all : Ms := (mSeq (mSet 1 (mLst (mCons (mTup mNil) mNil)))
  (mSeq (mFor (gN 2) (mRng1 (mVar 0)) (mSeq (mSetO 3 (mLst mNil))
  (mSeq (mFor (gN 4) (mItems (mVar 1)) (mExt 3 (mLst (mCons (mBin fAdd (mVar 4) (mTup (mCons (mC (.int 0)) mNil))) (mCons (mBin fAdd (mVar 4) (mTup (mCons (mC (.int 1)) mNil))) mNil)))))
  (mFrz 3 (mSet 1 (mVar 3))))))
  (mRet (mVar 1))))
def f__law_all : Fn := mkFn 1 5 m__law_all
theorem b__law_all {g : Gs}  : ∀ (E : XK) (w0 : Wd) (H0 : Hp) (X : Cx), OkC g E 0 X → PassesOwn (model X.prog X.w) X.A X.env X.xe → L2N.Takes X (fun cls d _ H => E cls d H) → X.N = n__law_all → X.env.scope = defScope (t__law_all) → X.fn = (fun _ => true) → SndB g E w0 H0 X (defBody (t__law_all)) m__law_all := by
  intro E w0 H0 X c po tk hN hs hf
  obtain ⟨prog, w', K, mg, base, A, N, s_0, H_0, ⟨e1, e2, e3, e4, e5, e6, e7, e8, e9⟩, outer, stack, ex, fn, calm, pn, xe⟩ := X
  simp only at hN hs hf
  subst hN hs hf
  have nd : (n__law_all).Nodup := by decide +kernel
  exact (b_cons (z_set (i := 1) nd (f_val (f_lst (a_cons (s_tup a_nil) a_nil))))
  (b_cons (z_for c.toOk po (i_rng1 c.toOk (nbg c.toOk "range") (s_var (i := 0))) (g_name (i := 2) nd) (b_cons (z_setO (i := 3) nd (f_lst a_nil))
  (b_cons (z_for c.toOk po (i_seq c.toOk (s_var (i := 1))) (g_name (i := 4) nd) (b_one (z_ext (i := 3) (f_val (f_lst (a_cons (s_add c.toOk (s_var (i := 4)) (s_tup (a_cons s_int a_nil))) (a_cons (s_add c.toOk (s_var (i := 4)) (s_tup (a_cons s_int a_nil))) a_nil)))))))
  (b_one (s_frz (i := 3) (z_set (i := 1) nd (s_var (i := 3))))))))
  (b_one (z_ret (s_var (i := 1))))))
/-! ### _law_due -/
abbrev t__law_due : Stmt := top 41
abbrev n__law_due : List Str := ["_law_many", "_law_wide", "_law_rings_here"]
def m__law_due : Ms := (mSeq (mSet 2 (mIte (mAndT (mCmpT fEq (mBin fMod (mVar 0) (mC (.int 2))) (mC (.int 0))) (mCmpT fLe (mVar 0) (m1 fLen (mCall f__law_all [] (mCons (mVar 1) mNil))))) (mCall f__law_rings [] (mCons (mVar 0) (mCons (mVar 1) (mCons (mC (.int 1)) mNil)))) (mLst mNil)))
  (mRet (mIte (mCmpT fNe (mVar 2) (mLst mNil)) (mBin fIx (mVar 2) (mC (.int 0))) (mC .none))))
def f__law_due : Fn := mkFn 2 3 m__law_due
theorem b__law_due {g : Gs}  (d__law_all : Def g 1 "_law_all" [] f__law_all) (d__law_rings : Def g 2 "_law_rings" [] f__law_rings) : ∀ (E : XK) (w0 : Wd) (H0 : Hp) (X : Cx), OkC g E 2 X → PassesOwn (model X.prog X.w) X.A X.env X.xe → L2N.Takes X (fun cls d _ H => E cls d H) → X.N = n__law_due → X.env.scope = defScope (t__law_due) → X.fn = (fun _ => true) → SndB g E w0 H0 X (defBody (t__law_due)) m__law_due := by
  intro E w0 H0 X c po tk hN hs hf
  obtain ⟨prog, w', K, mg, base, A, N, s_0, H_0, ⟨e1, e2, e3, e4, e5, e6, e7, e8, e9⟩, outer, stack, ex, fn, calm, pn, xe⟩ := X
  simp only at hN hs hf
  subst hN hs hf
  have nd : (n__law_due).Nodup := by decide +kernel
  exact (b_cons (z_set (i := 2) nd (s_ite (t_w (w_and (t_cmp (c_eq c.toOk) (s_mod (s_var (i := 0)) s_int) s_int) (w_and1 (t_cmp c_le (s_var (i := 0)) (q_len c.toOk (s_call c d__law_all (by decide) (a_cons (s_var (i := 1)) a_nil))))))) (s_call c d__law_rings (by decide) (a_cons (s_var (i := 0)) (a_cons (s_var (i := 1)) (a_cons s_int a_nil)))) (f_val (f_lst a_nil))))
  (b_one (z_ret (s_ite (t_cmp (c_ne c.toOk) (s_var (i := 2)) (f_val (f_lst a_nil))) (s_ix c.toOk (s_var (i := 2)) s_int) s_none))))
/-! ### is_between -/
abbrev t_is_between : Stmt := top 13
abbrev n_is_between : List Str := ["thing", "low", "high"]
def m_is_between : Ms := (mRet (mAnd (mIsB .int (mVar 0)) (mAnd (mNot (mIsB .bool (mVar 0))) (mChain fLe fLe (mVar 1) (mVar 0) (mVar 2)))))
def f_is_between : Fn := mkFn 3 3 m_is_between
theorem b_is_between {g : Gs}  : ∀ (E : XK) (w0 : Wd) (H0 : Hp) (X : Cx), OkC g E 0 X → PassesOwn (model X.prog X.w) X.A X.env X.xe → L2N.Takes X (fun cls d _ H => E cls d H) → X.N = n_is_between → X.env.scope = defScope (t_is_between) → X.fn = (fun _ => true) → SndB g E w0 H0 X (defBody (t_is_between)) m_is_between := by
  intro E w0 H0 X c po tk hN hs hf
  obtain ⟨prog, w', K, mg, base, A, N, s_0, H_0, ⟨e1, e2, e3, e4, e5, e6, e7, e8, e9⟩, outer, stack, ex, fn, calm, pn, xe⟩ := X
  simp only at hN hs hf
  subst hN hs hf
  have nd : (n_is_between).Nodup := by decide +kernel
  exact (b_one (z_ret (s_and c.toOk (s_isB c.toOk .int rfl (s_var (i := 0))) (s_and c.toOk (s_not c.toOk (s_isB c.toOk .bool rfl (s_var (i := 0)))) (s_one (s_chain c_le c_le (s_var (i := 1)) (s_var (i := 0)) (s_var (i := 2))))))))
/-! ### need_bits -/
abbrev t_need_bits : Stmt := top 25
abbrev n_need_bits : List Str := ["bits"]
def m_need_bits : Ms := (mIf (mNotT (mT (mCall f_is_between [] (mCons (mVar 0) (mCons (mC (.int 1)) (mCons (mC (.int (4))) mNil)))))) mBad mSkip)
def f_need_bits : Fn := mkFn 1 1 m_need_bits
theorem b_need_bits {g : Gs} (G_MOST_MADE_BITS : GlobC g "MOST_MADE_BITS" (.int (4))) (d_is_between : Def g 1 "is_between" [] f_is_between) : ∀ (E : XK) (w0 : Wd) (H0 : Hp) (X : Cx), OkC g E 1 X → PassesOwn (model X.prog X.w) X.A X.env X.xe → L2N.Takes X (fun cls d _ H => E cls d H) → X.N = n_need_bits → X.env.scope = defScope (t_need_bits) → X.fn = (fun _ => true) → SndB g E w0 H0 X (defBody (t_need_bits)) m_need_bits := by
  intro E w0 H0 X c po tk hN hs hf
  obtain ⟨prog, w', K, mg, base, A, N, s_0, H_0, ⟨e1, e2, e3, e4, e5, e6, e7, e8, e9⟩, outer, stack, ex, fn, calm, pn, xe⟩ := X
  simp only at hN hs hf
  subst hN hs hf
  have nd : (n_need_bits).Nodup := by decide +kernel
  exact (b_one (z_if (t_not (t_val c.toOk (s_call c d_is_between (by decide) (a_cons (s_var (i := 0)) (a_cons s_int (a_cons (s_glob c.toOk G_MOST_MADE_BITS) a_nil)))))) (b_one z_bad) b_nil))
/-! ### need_sizes -/
abbrev t_need_sizes : Stmt := top 24
abbrev n_need_sizes : List Str := ["values", "bits"]
def m_need_sizes : Ms := (mSeq (mIf (mNotT (mT (mCall f_is_between [] (mCons (mVar 0) (mCons (mC (.int (2))) (mCons (mC (.int (16))) mNil)))))) mBad mSkip)
  (mDo (mCall f_need_bits [] (mCons (mVar 1) mNil))))
def f_need_sizes : Fn := mkFn 2 2 m_need_sizes
theorem b_need_sizes {g : Gs} (G_FEWEST : GlobC g "FEWEST" (.int (2))) (G_MOST_VALUES : GlobC g "MOST_VALUES" (.int (16))) (d_is_between : Def g 1 "is_between" [] f_is_between) (d_need_bits : Def g 2 "need_bits" [] f_need_bits) : ∀ (E : XK) (w0 : Wd) (H0 : Hp) (X : Cx), OkC g E 2 X → PassesOwn (model X.prog X.w) X.A X.env X.xe → L2N.Takes X (fun cls d _ H => E cls d H) → X.N = n_need_sizes → X.env.scope = defScope (t_need_sizes) → X.fn = (fun _ => true) → SndB g E w0 H0 X (defBody (t_need_sizes)) m_need_sizes := by
  intro E w0 H0 X c po tk hN hs hf
  obtain ⟨prog, w', K, mg, base, A, N, s_0, H_0, ⟨e1, e2, e3, e4, e5, e6, e7, e8, e9⟩, outer, stack, ex, fn, calm, pn, xe⟩ := X
  simp only at hN hs hf
  subst hN hs hf
  have nd : (n_need_sizes).Nodup := by decide +kernel
  exact (b_cons (z_if (t_not (t_val c.toOk (s_call c d_is_between (by decide) (a_cons (s_var (i := 0)) (a_cons (s_glob c.toOk G_FEWEST) (a_cons (s_glob c.toOk G_MOST_VALUES) a_nil)))))) (b_one z_bad) b_nil)
  (b_one (z_expr (s_call c d_need_bits (by decide) (a_cons (s_var (i := 1)) a_nil)))))
/-! ### changed -/
abbrev t_changed : Stmt := top 26
abbrev n_changed : List Str := ["word", "place"]
def m_changed : Ms := (mRet (mTup (mStar (mSl01 (mVar 0) (mVar 1)) (mCons (mBin fSub (mC (.int 1)) (mBin fIx (mVar 0) (mVar 1))) (mStar (mSl10 (mVar 0) (mBin fAdd (mVar 1) (mC (.int 1)))) mNil)))))
def f_changed : Fn := mkFn 2 2 m_changed
theorem b_changed {g : Gs}  : ∀ (E : XK) (w0 : Wd) (H0 : Hp) (X : Cx), OkC g E 0 X → PassesOwn (model X.prog X.w) X.A X.env X.xe → L2N.Takes X (fun cls d _ H => E cls d H) → X.N = n_changed → X.env.scope = defScope (t_changed) → X.fn = (fun _ => true) → SndB g E w0 H0 X (defBody (t_changed)) m_changed := by
  intro E w0 H0 X c po tk hN hs hf
  obtain ⟨prog, w', K, mg, base, A, N, s_0, H_0, ⟨e1, e2, e3, e4, e5, e6, e7, e8, e9⟩, outer, stack, ex, fn, calm, pn, xe⟩ := X
  simp only at hN hs hf
  subst hN hs hf
  have nd : (n_changed).Nodup := by decide +kernel
  exact (b_one (z_ret (s_tup (a_star c.toOk (s_sl01 c.toOk (s_var (i := 0)) (s_var (i := 1))) (a_cons (s_sub s_int (s_ix c.toOk (s_var (i := 0)) (s_var (i := 1)))) (a_star c.toOk (s_sl10 c.toOk (s_var (i := 0)) (s_add c.toOk (s_var (i := 1)) s_int)) a_nil))))))
/-! ### next_words -/
abbrev t_next_words : Stmt := top 27
abbrev n_next_words : List Str := ["word", "place"]
def m_next_words : Ms := (mRet (m1 fSrtR (mLc [1] (gN 1) (mRng1 (m1 fLen (mVar 0))) mYes (mCall f_changed [] (mCons (mVar 0) (mCons (mVar 1) mNil))))))
def f_next_words : Fn := mkFn 1 2 m_next_words
theorem b_next_words {g : Gs}  (d_changed : Def g 1 "changed" [] f_changed) : ∀ (E : XK) (w0 : Wd) (H0 : Hp) (X : Cx), OkC g E 1 X → PassesOwn (model X.prog X.w) X.A X.env X.xe → L2N.Takes X (fun cls d _ H => E cls d H) → X.N = n_next_words → X.env.scope = defScope (t_next_words) → X.fn = (fun _ => true) → SndB g E w0 H0 X (defBody (t_next_words)) m_next_words := by
  intro E w0 H0 X c po tk hN hs hf
  obtain ⟨prog, w', K, mg, base, A, N, s_0, H_0, ⟨e1, e2, e3, e4, e5, e6, e7, e8, e9⟩, outer, stack, ex, fn, calm, pn, xe⟩ := X
  simp only at hN hs hf
  subst hN hs hf
  have nd : (n_next_words).Nodup := by decide +kernel
  exact (b_one (z_ret (f_val (q_sortedR c.toOk (f_val (f_lc (own := [("place", 1)]) c.toOk nd (i_rng1 c.toOk (nbg c.toOk "range") (q_len c.toOk (s_var (i := 0)))) (by first | exact L2.blkOk_by (by decide +kernel) | exact L2.blkOk_by (by kernel_rfl)) (by decide) (fun _ _ _ _ _ => (g_name (i := 1) nd)) (fun _ _ _ _ _ => ts_nil) (fun _ _ _ _ _ => (fun (cb : OkC g E0 1 _) => (s_call cb d_changed (by decide) (a_cons (s_var (i := 0)) (a_cons (s_var (i := 1)) a_nil)))) (c.blk _ _ _ _ _))))))))
/-! ### can_close -/
abbrev t_can_close : Stmt := top 28
abbrev n_can_close : List Str := ["words", "values", "apart", "one", "other"]
def m_can_close : Ms := (mSeq (mSet 2 (m1 fLen (mLc [3, 4] (gT (gsC (gN 3) (gsC (gN 4) gs0))) (mZip2 (mBin fIx (mVar 0) (mNeg (mC (.int 1)))) (mBin fIx (mVar 0) (mC (.int 0)))) (mCmpT fNe (mVar 3) (mVar 4)) (mC (.int 1)))))
  (mRet (mBin fLe (mVar 2) (mBin fAdd (mBin fSub (mVar 1) (m1 fLen (mVar 0))) (mC (.int 1))))))
def f_can_close : Fn := mkFn 2 5 m_can_close
theorem b_can_close {g : Gs}  : ∀ (E : XK) (w0 : Wd) (H0 : Hp) (X : Cx), OkC g E 0 X → PassesOwn (model X.prog X.w) X.A X.env X.xe → L2N.Takes X (fun cls d _ H => E cls d H) → X.N = n_can_close → X.env.scope = defScope (t_can_close) → X.fn = (fun _ => true) → SndB g E w0 H0 X (defBody (t_can_close)) m_can_close := by
  intro E w0 H0 X c po tk hN hs hf
  obtain ⟨prog, w', K, mg, base, A, N, s_0, H_0, ⟨e1, e2, e3, e4, e5, e6, e7, e8, e9⟩, outer, stack, ex, fn, calm, pn, xe⟩ := X
  simp only at hN hs hf
  subst hN hs hf
  have nd : (n_can_close).Nodup := by decide +kernel
  exact (b_cons (z_set (i := 2) nd (q_len c.toOk (f_val (f_lc (own := [("one", 3), ("other", 4)]) c.toOk nd (i_zip2 c.toOk (s_ix c.toOk (s_var (i := 0)) (s_neg s_int)) (s_ix c.toOk (s_var (i := 0)) s_int)) (by first | exact L2.blkOk_by (by decide +kernel) | exact L2.blkOk_by (by kernel_rfl)) (by decide) (fun _ _ _ _ _ => (fun (cb : OkC g E0 0 _) => (g_tup cb.toOk (gs_cons (g_name (i := 3) nd) (gs_cons (g_name (i := 4) nd) gs_nil)) (n_cons (n_cons n_nil)))) (c.blk _ _ _ _ _)) (fun _ _ _ _ _ => (fun (cb : OkC g E0 0 _) => (ts_one (t_cmp (c_ne cb.toOk) (s_var (i := 3)) (s_var (i := 4))))) (c.blk _ _ _ _ _)) (fun _ _ _ _ _ => s_int)))))
  (b_one (z_ret (s_cmp c_le (s_var (i := 2)) (s_add c.toOk (s_sub (s_var (i := 1)) (q_len c.toOk (s_var (i := 0)))) s_int)))))
/-! ### are_bits -/
abbrev t_are_bits : Stmt := top 14
abbrev n_are_bits : List Str := ["thing", "one"]
def m_are_bits : Ms := (mRet (mAnd (mIsB .tuple (mVar 0)) (m1 fAll (mLc [1] (gN 1) (mItems (mVar 0)) mYes (mCall f_is_between [] (mCons (mVar 1) (mCons (mC (.int 0)) (mCons (mC (.int 1)) mNil))))))))
def f_are_bits : Fn := mkFn 1 2 m_are_bits
theorem b_are_bits {g : Gs}  (d_is_between : Def g 1 "is_between" [] f_is_between) : ∀ (E : XK) (w0 : Wd) (H0 : Hp) (X : Cx), OkC g E 1 X → PassesOwn (model X.prog X.w) X.A X.env X.xe → L2N.Takes X (fun cls d _ H => E cls d H) → X.N = n_are_bits → X.env.scope = defScope (t_are_bits) → X.fn = (fun _ => true) → SndB g E w0 H0 X (defBody (t_are_bits)) m_are_bits := by
  intro E w0 H0 X c po tk hN hs hf
  obtain ⟨prog, w', K, mg, base, A, N, s_0, H_0, ⟨e1, e2, e3, e4, e5, e6, e7, e8, e9⟩, outer, stack, ex, fn, calm, pn, xe⟩ := X
  simp only at hN hs hf
  subst hN hs hf
  have nd : (n_are_bits).Nodup := by decide +kernel
  exact (b_one (z_ret (s_and c.toOk (s_isB c.toOk .tuple rfl (s_var (i := 0))) (s_one (q_all c.toOk (f_val (f_lc (own := [("one", 1)]) c.toOk nd (i_seq c.toOk (s_var (i := 0))) (by first | exact L2.blkOk_by (by decide +kernel) | exact L2.blkOk_by (by kernel_rfl)) (by decide) (fun _ _ _ _ _ => (g_name (i := 1) nd)) (fun _ _ _ _ _ => ts_nil) (fun _ _ _ _ _ => (fun (cb : OkC g E0 1 _) => (s_call cb d_is_between (by decide) (a_cons (s_var (i := 1)) (a_cons s_int (a_cons s_int a_nil))))) (c.blk _ _ _ _ _)))))))))
/-! ### are_words -/
abbrev t_are_words : Stmt := top 15
abbrev n_are_words : List Str := ["thing", "word"]
def m_are_words : Ms := (mSeq (mIf (mOrT (mNotT (mChainT fLe fLe (mC (.int (2))) (m1 fLen (mVar 0)) (mC (.int (16))))) (mNotT (mT (m1 fAll (mLc [1] (gN 1) (mItems (mVar 0)) mYes (mCall f_are_bits [] (mCons (mVar 1) mNil))))))) (mRet (mC (.bool false))) mSkip)
  (mSeq (mIf (mOrT (mNotT (mChainT fLe fLe (mC (.int 1)) (m1 fLen (mBin fIx (mVar 0) (mC (.int 0)))) (mC (.int (5))))) (mNotT (mT (m1 fAll (mLc [1] (gN 1) (mItems (mVar 0)) mYes (mBin fEq (m1 fLen (mVar 1)) (m1 fLen (mBin fIx (mVar 0) (mC (.int 0)))))))))) (mRet (mC (.bool false))) mSkip)
  (mRet (mBin fEq (m1 fLenSet (mVar 0)) (m1 fLen (mVar 0))))))
def f_are_words : Fn := mkFn 1 2 m_are_words
theorem b_are_words {g : Gs} (G_FEWEST_VALUES : GlobC g "FEWEST_VALUES" (.int (2))) (G_MOST_VALUES : GlobC g "MOST_VALUES" (.int (16))) (G_MOST_BITS : GlobC g "MOST_BITS" (.int (5))) (d_are_bits : Def g 2 "are_bits" [] f_are_bits) : ∀ (E : XK) (w0 : Wd) (H0 : Hp) (X : Cx), OkC g E 2 X → PassesOwn (model X.prog X.w) X.A X.env X.xe → L2N.Takes X (fun cls d _ H => E cls d H) → X.N = n_are_words → X.env.scope = defScope (t_are_words) → X.fn = (fun _ => true) → SndB g E w0 H0 X (defBody (t_are_words)) m_are_words := by
  intro E w0 H0 X c po tk hN hs hf
  obtain ⟨prog, w', K, mg, base, A, N, s_0, H_0, ⟨e1, e2, e3, e4, e5, e6, e7, e8, e9⟩, outer, stack, ex, fn, calm, pn, xe⟩ := X
  simp only at hN hs hf
  subst hN hs hf
  have nd : (n_are_words).Nodup := by decide +kernel
  exact (b_cons (z_if (t_w (w_or (t_not (t_chain c_le c_le (s_glob c.toOk G_FEWEST_VALUES) (q_len c.toOk (s_var (i := 0))) (s_glob c.toOk G_MOST_VALUES))) (w_or1 (t_not (t_val c.toOk (q_all c.toOk (f_val (f_lc (own := [("word", 1)]) c.toOk nd (i_seq c.toOk (s_var (i := 0))) (by first | exact L2.blkOk_by (by decide +kernel) | exact L2.blkOk_by (by kernel_rfl)) (by decide) (fun _ _ _ _ _ => (g_name (i := 1) nd)) (fun _ _ _ _ _ => ts_nil) (fun _ _ _ _ _ => (fun (cb : OkC g E0 2 _) => (s_call cb d_are_bits (by decide) (a_cons (s_var (i := 1)) a_nil))) (c.blk _ _ _ _ _)))))))))) (b_one (z_ret s_bool)) b_nil)
  (b_cons (z_if (t_w (w_or (t_not (t_chain c_le c_le s_int (q_len c.toOk (s_ix c.toOk (s_var (i := 0)) s_int)) (s_glob c.toOk G_MOST_BITS))) (w_or1 (t_not (t_val c.toOk (q_all c.toOk (f_val (f_lc (own := [("word", 1)]) c.toOk nd (i_seq c.toOk (s_var (i := 0))) (by first | exact L2.blkOk_by (by decide +kernel) | exact L2.blkOk_by (by kernel_rfl)) (by decide) (fun _ _ _ _ _ => (g_name (i := 1) nd)) (fun _ _ _ _ _ => ts_nil) (fun _ _ _ _ _ => (fun (cb : OkC g E0 2 _) => (s_cmp (c_eq cb.toOk) (q_len cb.toOk (s_var (i := 1))) (q_len cb.toOk (s_ix cb.toOk (s_var (i := 0)) s_int)))) (c.blk _ _ _ _ _)))))))))) (b_one (z_ret s_bool)) b_nil)
  (b_one (z_ret (s_cmp (c_eq c.toOk) (s_lenSet c.toOk (s_var (i := 0))) (q_len c.toOk (s_var (i := 0))))))))
/-! ### Code.__init__ -/
abbrev t_CodeX_initX : Stmt := inClass (top 17) 0
abbrev n_CodeX_initX : List Str := ["self", "words", "value", "word"]
def m_CodeX_initX : Ms := (mSeq (mIf (mNotT (mT (mCall f_are_words [] (mCons (mVar 1) mNil)))) mBad mSkip)
  (mSeq (mFldJ 0 0 (mVar 1))
  (mFldJ 0 1 (mDc [2, 3] (gT (gsC (gN 2) (gsC (gN 3) gs0))) (mEnum (mVar 1)) mYes (mVar 3) (mVar 2)))))
def f_CodeX_initX : Fn := mkIniS 0 4 m_CodeX_initX
theorem b_CodeX_initX {g : Gs}  (d_are_words : Def g 3 "are_words" [] f_are_words) : ∀ (E : XK) (w0 : Wd) (H0 : Hp) (X : Cx), OkC g E 3 X → PassesOwn (model X.prog X.w) X.A X.env X.xe → L2N.Takes X (fun cls d _ H => E cls d H) → X.N = n_CodeX_initX → X.env.scope = defScope (t_CodeX_initX) → X.fn = (fun _ => true) → SndB g E w0 H0 X (defBody (t_CodeX_initX)) m_CodeX_initX := by
  intro E w0 H0 X c po tk hN hs hf
  obtain ⟨prog, w', K, mg, base, A, N, s_0, H_0, ⟨e1, e2, e3, e4, e5, e6, e7, e8, e9⟩, outer, stack, ex, fn, calm, pn, xe⟩ := X
  simp only at hN hs hf
  subst hN hs hf
  have nd : (n_CodeX_initX).Nodup := by decide +kernel
  exact (b_cons (z_if (t_not (t_val c.toOk (s_call c d_are_words (by decide) (a_cons (s_var (i := 1)) a_nil)))) (b_one z_bad) b_nil)
  (b_cons (z_fldSet (c := 0) (j := 0) c.toOk rfl (s_var (i := 1)))
  (b_one (z_fldSet (c := 0) (j := 1) c.toOk rfl (s_dc (own := [("value", 2), ("word", 3)]) c.toOk nd (i_enum c.toOk (s_var (i := 1))) (by first | exact L2.blkOk_by (by decide +kernel) | exact L2.blkOk_by (by kernel_rfl)) (by decide) (fun _ _ _ _ _ => (fun (cb : OkC g E0 3 _) => (g_tup cb.toOk (gs_cons (g_name (i := 2) nd) (gs_cons (g_name (i := 3) nd) gs_nil)) (n_cons (n_cons n_nil)))) (c.blk _ _ _ _ _)) (fun _ _ _ _ _ => ts_nil) (fun _ _ _ _ _ => (s_var (i := 3))) (fun _ _ _ _ _ => (s_var (i := 2))))))))
/-! ### first_ring -/
abbrev t_first_ring : Stmt := top 29
abbrev n_first_ring : List Str := ["values", "bits", "fits", "rows", "words", "later", "word", "row"]
def m_first_ring : Ms := (mSeq (mSetO 3 (mLst (mCons (mLst (mCons (mBin fMul (mTup (mCons (mC (.int 0)) mNil)) (mVar 1)) mNil)) mNil)))
  (mSeq (whileL (mCmpT fNe (mBor 3) (mLst mNil)) (mSeq (mPopO 4 3)
  (mIf (mCmpT fEq (m1 fLen (mVar 4)) (mVar 0)) (mIf (mAndT (mCmpT (fInD fun b => b) (mBin fIx (mVar 4) (mC (.int 0))) (mCall f_next_words [] (mCons (mBin fIx (mVar 4) (mNeg (mC (.int 1)))) mNil))) (mT (mFit FL 2 (mCons (mVar 4) (mCons (mC (.bool true)) mNil))))) (mRet (mMakeS f_CodeX_initX (mVar 4))) mSkip) (mSeq (mSet 5 (mLc [6] (gN 6) (mItems (mCall f_next_words [] (mCons (mBin fIx (mVar 4) (mNeg (mC (.int 1)))) mNil))) (mCmpT (fInD fun b => !b) (mVar 6) (mVar 4)) (mLst (mStar (mVar 4) (mCons (mVar 6) mNil)))))
  (mExt 3 (mLc [7] (gN 7) (mItems (m1 fRev (mVar 5))) (mAndT (mT (mCall f_can_close [] (mCons (mVar 7) (mCons (mVar 0) mNil)))) (mT (mFit FL 2 (mCons (mVar 7) (mCons (mC (.bool false)) mNil))))) (mVar 7)))))) 4000)
  (mRet (mC .none))))
def f_first_ring : Fn := mkFn 3 8 m_first_ring
theorem b_first_ring {g : Gs} (C_Code : ClsN g 0 "Code") (d_next_words : Def g 2 "next_words" [] f_next_words) (d_CodeX_initX : Ini g 4 0 f_CodeX_initX) (d_can_close : Def g 1 "can_close" [] f_can_close) (lamsF : LamsF g 0 FL) : ∀ (E : XK) (w0 : Wd) (H0 : Hp) (X : Cx), OkC g E 5 X → PassesOwn (model X.prog X.w) X.A X.env X.xe → L2N.Takes X (fun cls d _ H => E cls d H) → X.N = n_first_ring → X.env.scope = defScope (t_first_ring) → X.fn = (fun _ => true) → SndB g E w0 H0 X (defBody (t_first_ring)) m_first_ring := by
  intro E w0 H0 X c po tk hN hs hf
  obtain ⟨prog, w', K, mg, base, A, N, s_0, H_0, ⟨e1, e2, e3, e4, e5, e6, e7, e8, e9⟩, outer, stack, ex, fn, calm, pn, xe⟩ := X
  simp only at hN hs hf
  subst hN hs hf
  have nd : (n_first_ring).Nodup := by decide +kernel
  exact (b_cons (z_setO (i := 3) nd (f_lst (a_cons (f_val (f_lst (a_cons (s_mul c.toOk (s_tup (a_cons s_int a_nil)) (s_var (i := 1))) a_nil))) a_nil)))
  (b_cons (z_while 4000 po (t_cmp (c_ne c.toOk) (s_bor (i := 3)) (f_val (f_lst a_nil))) (b_cons (z_popO (i := 4) (j := 3) nd)
  (b_one (z_if (t_cmp (c_eq c.toOk) (q_len c.toOk (s_var (i := 4))) (s_var (i := 0))) (b_one (z_if (t_w (w_and (t_cmp (c_inA c.toOk) (s_ix c.toOk (s_var (i := 4)) s_int) (s_call c d_next_words (by decide) (a_cons (s_ix c.toOk (s_var (i := 4)) (s_neg s_int)) a_nil))) (w_and1 (t_val c.toOk (s_callF (i := 2) (lv := 0) (c.mono (by decide)) lamsF (a_cons (s_var (i := 4)) (a_cons s_bool a_nil))))))) (b_one (z_ret (s_makeS c d_CodeX_initX C_Code (by decide) (s_var (i := 4))))) b_nil)) (b_cons (z_setLc (i := 5) (own := [("word", 6)]) c.toOk nd rfl rfl (sw_true rfl rfl rfl (by decide +kernel)) (i_seq c.toOk (s_call c d_next_words (by decide) (a_cons (s_ix c.toOk (s_var (i := 4)) (s_neg s_int)) a_nil))) (by first | exact L2.blkOk_by (by decide +kernel) | exact L2.blkOk_by (by kernel_rfl)) (by decide) (fun _ _ _ _ _ => (g_name (i := 6) nd)) (fun _ _ _ _ _ => (fun (cb : OkC g E0 5 _) => (ts_one (t_cmp (c_notinA cb.toOk) (s_var (i := 6)) (s_var (i := 4))))) (c.blk _ _ _ _ _)) (fun _ _ _ _ _ => (fun (cb : OkC g E0 5 _) => (f_val (f_lst (a_star cb.toOk (s_var (i := 4)) (a_cons (s_var (i := 6)) a_nil))))) (c.blk _ _ _ _ _)))
  (b_one (z_ext (i := 3) (f_val (f_lc (own := [("row", 7)]) c.toOk nd (i_seq c.toOk (s_rev c.toOk (s_var (i := 5)))) (by first | exact L2.blkOk_by (by decide +kernel) | exact L2.blkOk_by (by kernel_rfl)) (by decide) (fun _ _ _ _ _ => (g_name (i := 7) nd)) (fun _ _ _ _ _ => (fun (cb : OkC g E0 5 _) => (ts_one (t_w (w_and (t_val cb.toOk (s_call cb d_can_close (by decide) (a_cons (s_var (i := 7)) (a_cons (s_var (i := 0)) a_nil)))) (w_and1 (t_val cb.toOk (s_callF (i := 2) (lv := 0) (cb.mono (by decide)) lamsF (a_cons (s_var (i := 7)) (a_cons s_bool a_nil))))))))) (c.blk _ _ _ _ _)) (fun _ _ _ _ _ => (s_var (i := 7))))))))))))
  (b_one (z_ret s_none))))
/-! ### made_single -/
abbrev t_made_single : Stmt := top 30
abbrev n_made_single : List Str := ["values", "bits"]
def m_made_single : Ms := (mSeq (mIf (mOrT (mCmpT fEq (mBin fMod (mVar 0) (mC (.int 2))) (mC (.int 1))) (mCmpT fGt (mVar 0) (mBin fIx (mC (.tup [(.int (1)), (.int (2)), (.int (4)), (.int (8)), (.int (16))])) (mVar 1)))) (mRet (mC .none)) mSkip)
  (mRet (mCall f_first_ring [] (mCons (mVar 0) (mCons (mVar 1) (mCons (mC (.fnT 0)) mNil))))))
def f_made_single : Fn := mkFn 2 2 m_made_single
abbrev le_0 : Expr := argE 2 (retE ((defBody t_made_single).getD 1 (.Pass ⟨0, 0, 0, 0⟩)))
abbrev ls_0 : Scope := defScope t_made_single
abbrev li_0 : LamI := ⟨(("made_single" : Str) ++ ".<locals>.") ++ "<lambda>", lmP le_0, lmB le_0, lmS ls_0 le_0⟩
theorem lp0 : LamP (li_0).sc ["words", "whole"] := ⟨⟨rfl, rfl, rfl, by decide +kernel, rfl, by decide +kernel, by decide +kernel⟩, by decide +kernel⟩
theorem bL_0 {g : Gs} : ∀ (E : XK) (H0 : Hp) (X : Cx), OkC g E 0 X → X.N = (["words", "whole"] : List Str) → X.env.scope = (li_0).sc → Snd g E H0 X false (li_0).bd mL_0 := by
  intro E H0 X c hN hs
  obtain ⟨prog, w', K, mg, base, A, N, s_0, H_0, ⟨e1, e2, e3, e4, e5, e6, e7, e8, e9⟩, outer, stack, ex, fn, calm, pn, xe⟩ := X
  simp only at hN hs
  subst hN hs
  exact s_bool
theorem b_made_single {g : Gs} {k0 P : Addr} (G_MANY_WORDS : GlobC g "MANY_WORDS" (.tup [(.int (1)), (.int (2)), (.int (4)), (.int (8)), (.int (16))])) (d_first_ring : Def g 6 "first_ring" [] f_first_ring) (hl0 : g.lam 0 = li_0) (hm0 : (P, (("made_single" : Str) ++ ".<locals>.") ++ "<lambda>") ∈ g.tabs) : ∀ (E : XK) (w0 : Wd) (H0 : Hp) (X : Cx), OkC g E 6 X → LamK g X k0 P → PassesOwn (model X.prog X.w) X.A X.env X.xe → L2N.Takes X (fun cls d _ H => E cls d H) → X.N = n_made_single → X.env.scope = defScope (t_made_single) → X.fn = (fun _ => true) → SndB g E w0 H0 X (defBody (t_made_single)) m_made_single := by
  intro E w0 H0 X c lk po tk hN hs hf
  obtain ⟨prog, w', K, mg, base, A, N, s_0, H_0, ⟨e1, e2, e3, e4, e5, e6, e7, e8, e9⟩, outer, stack, ex, fn, calm, pn, xe⟩ := X
  simp only at hN hs hf
  subst hN hs hf
  have nd : (n_made_single).Nodup := by decide +kernel
  exact (b_cons (z_if (t_w (w_or (t_cmp (c_eq c.toOk) (s_mod (s_var (i := 0)) s_int) s_int) (w_or1 (t_cmp c_gt (s_var (i := 0)) (s_ix c.toOk (s_glob c.toOk G_MANY_WORDS) (s_var (i := 1))))))) (b_one (z_ret s_none)) b_nil)
  (b_one (z_ret (s_call c d_first_ring (by decide) (a_cons (s_var (i := 0)) (a_cons (s_var (i := 1)) (a_cons (s_lam c.toOk lk (hl0.trans (congrArg (fun z => LamI.mk z _ _ _) (lk.uni _ hm0 rfl))) lp0) a_nil)))))))
/-! ### single -/
abbrev t_single : Stmt := top 31
abbrev n_single : List Str := ["values", "bits"]
def m_single : Ms := (mSeq (mDo (mCall f_need_sizes [] (mCons (mVar 0) (mCons (mVar 1) mNil))))
  (mRet (mCall f_made_single [] (mCons (mVar 0) (mCons (mVar 1) mNil)))))
def f_single : Fn := mkFn 2 2 m_single
theorem b_single {g : Gs}  (d_need_sizes : Def g 3 "need_sizes" [] f_need_sizes) (d_made_single : Def g 7 "made_single" [] f_made_single) : ∀ (E : XK) (w0 : Wd) (H0 : Hp) (X : Cx), OkC g E 7 X → PassesOwn (model X.prog X.w) X.A X.env X.xe → L2N.Takes X (fun cls d _ H => E cls d H) → X.N = n_single → X.env.scope = defScope (t_single) → X.fn = (fun _ => true) → SndB g E w0 H0 X (defBody (t_single)) m_single := by
  intro E w0 H0 X c po tk hN hs hf
  obtain ⟨prog, w', K, mg, base, A, N, s_0, H_0, ⟨e1, e2, e3, e4, e5, e6, e7, e8, e9⟩, outer, stack, ex, fn, calm, pn, xe⟩ := X
  simp only at hN hs hf
  subst hN hs hf
  have nd : (n_single).Nodup := by decide +kernel
  exact (b_cons (z_expr (s_call c d_need_sizes (by decide) (a_cons (s_var (i := 0)) (a_cons (s_var (i := 1)) a_nil))))
  (b_one (z_ret (s_call c d_made_single (by decide) (a_cons (s_var (i := 0)) (a_cons (s_var (i := 1)) a_nil))))))
/-! ### Code.words -/
abbrev t_Code_words : Stmt := inClass (top 17) 1
abbrev n_Code_words : List Str := ["self"]
def m_Code_words : Ms := (mRet (mFld 0 0 (mVar 0)))
def f_Code_words : Fn := mkFn 1 1 m_Code_words
theorem b_Code_words {g : Gs}  : ∀ (E : XK) (w0 : Wd) (H0 : Hp) (X : Cx), OkC g E 0 X → PassesOwn (model X.prog X.w) X.A X.env X.xe → L2N.Takes X (fun cls d _ H => E cls d H) → X.N = n_Code_words → X.env.scope = defScope (t_Code_words) → X.fn = (fun _ => true) → SndB g E w0 H0 X (defBody (t_Code_words)) m_Code_words := by
  intro E w0 H0 X c po tk hN hs hf
  obtain ⟨prog, w', K, mg, base, A, N, s_0, H_0, ⟨e1, e2, e3, e4, e5, e6, e7, e8, e9⟩, outer, stack, ex, fn, calm, pn, xe⟩ := X
  simp only at hN hs hf
  subst hN hs hf
  have nd : (n_Code_words).Nodup := by decide +kernel
  exact (b_one (z_ret (s_fld (c := 0) (j := 0) c.toOk rfl (s_var (i := 0)))))
/-! ### law -/
abbrev t_law : Stmt := top 42
abbrev n_law : List Str := ["_law_script", "_law_k", "_law_pen_here", "_law_wide", "_law_many", "_law_due_here", "_law_turn", "_law_told"]
def m_law : Ms := (mSeq (mFor (gN 1) (mRng1 (mBin fMax2 (mC (.int 1)) (mBin fMin2 (m1 fLen (mVar 0)) (mC (.int 3))))) (mSeq (mSet 2 (mCall f__law_pen [] (mCons (mCall f__law_cell_at [] (mCons (mVar 0) (mCons (mVar 1) mNil))) mNil)))
  (mFor (gN 3) (mRng2 (mC (.int 1)) (mC (.int 5))) (mFor (gN 4) (mItems (mBin fAdd (mSl01 (mCall f__law_mixed [] (mCons (mVar 2) (mCons (mBin (fRg2 D.lst) (mC (.int 2)) (mC (.int 17))) mNil))) (mC (.int 5))) (mLst (mCons (m1 fLen (mCall f__law_all [] (mCons (mVar 3) mNil))) (mCons (mBin fAdd (m1 fLen (mCall f__law_all [] (mCons (mVar 3) mNil))) (mC (.int 2))) mNil))))) (mSeq (mSet 5 (mIte (mCmpT fLt (mVar 4) (mC (.int 17))) (mCall f__law_due [] (mCons (mVar 4) (mCons (mVar 3) mNil))) (mC .none)))
  (mFor (gN 6) (mRng1 (mBin fMul (mC (.int 2)) (m1 fInt (mBin fLt (mVar 4) (mC (.int 17)))))) (mSeq (mSet 7 (mCall f_single [] (mCons (mVar 4) (mCons (mVar 3) mNil))))
  (mIf (mOrT (mCmpT fNe (mBin fIs (mVar 7) (mC .none)) (mBin fIs (mVar 5) (mC .none))) (mAndT (mCmpT fIsNot (mVar 7) (mC .none)) (mCmpT fNe (mPrp 0 f_Code_words (mVar 7)) (mVar 5)))) (mRet (mC (.bool false))) mSkip))))))))
  (mRet (mC (.bool true))))
def f_law : Fn := mkFn 1 8 m_law
theorem b_law {g : Gs}  (d__law_pen : Def g 1 "_law_pen" [] f__law_pen) (d__law_cell_at : Def g 1 "_law_cell_at" [] f__law_cell_at) (d__law_mixed : Def g 2 "_law_mixed" [] f__law_mixed) (d__law_all : Def g 1 "_law_all" [] f__law_all) (d__law_due : Def g 3 "_law_due" [] f__law_due) (d_single : Def g 8 "single" [] f_single) (d_Code_words : Prp g 1 0 "words" f_Code_words) : ∀ (E : XK) (w0 : Wd) (H0 : Hp) (X : Cx), OkC g E 8 X → PassesOwn (model X.prog X.w) X.A X.env X.xe → L2N.Takes X (fun cls d _ H => E cls d H) → X.N = n_law → X.env.scope = defScope (t_law) → X.fn = (fun _ => true) → SndB g E w0 H0 X (defBody (t_law)) m_law := by
  intro E w0 H0 X c po tk hN hs hf
  obtain ⟨prog, w', K, mg, base, A, N, s_0, H_0, ⟨e1, e2, e3, e4, e5, e6, e7, e8, e9⟩, outer, stack, ex, fn, calm, pn, xe⟩ := X
  simp only at hN hs hf
  subst hN hs hf
  have nd : (n_law).Nodup := by decide +kernel
  exact (b_cons (z_for c.toOk po (i_rng1 c.toOk (nbg c.toOk "range") (q_max2 c.toOk s_int (q_min2 c.toOk (q_len c.toOk (s_var (i := 0))) s_int))) (g_name (i := 1) nd) (b_cons (z_set (i := 2) nd (s_call c d__law_pen (by decide) (a_cons (s_call c d__law_cell_at (by decide) (a_cons (s_var (i := 0)) (a_cons (s_var (i := 1)) a_nil))) a_nil)))
  (b_one (z_for c.toOk po (i_rng2 c.toOk (nbg c.toOk "range") s_int s_int) (g_name (i := 3) nd) (b_one (z_for c.toOk po (i_seq c.toOk (s_add c.toOk (s_sl01 c.toOk (s_call c d__law_mixed (by decide) (a_cons (s_var (i := 2)) (a_cons (f_val (f_lstRg2 c.toOk s_int s_int)) a_nil))) s_int) (f_val (f_lst (a_cons (q_len c.toOk (s_call c d__law_all (by decide) (a_cons (s_var (i := 3)) a_nil))) (a_cons (s_add c.toOk (q_len c.toOk (s_call c d__law_all (by decide) (a_cons (s_var (i := 3)) a_nil))) s_int) a_nil)))))) (g_name (i := 4) nd) (b_cons (z_set (i := 5) nd (s_ite (t_cmp c_lt (s_var (i := 4)) s_int) (s_call c d__law_due (by decide) (a_cons (s_var (i := 4)) (a_cons (s_var (i := 3)) a_nil))) s_none))
  (b_one (z_for c.toOk po (i_rng1 c.toOk (nbg c.toOk "range") (s_mul c.toOk s_int (q_int c.toOk (s_cmp c_lt (s_var (i := 4)) s_int)))) (g_name (i := 6) nd) (b_cons (z_set (i := 7) nd (s_call c d_single (by decide) (a_cons (s_var (i := 4)) (a_cons (s_var (i := 3)) a_nil))))
  (b_one (z_if (t_w (w_or (t_cmp (c_ne c.toOk) (s_cmp c_is (s_var (i := 7)) s_none) (s_cmp c_is (s_var (i := 5)) s_none)) (w_or1 (t_w (w_and (t_cmp c_isnot (s_var (i := 7)) s_none) (w_and1 (t_cmp (c_ne c.toOk) (s_prp c d_Code_words (by decide) (s_var (i := 7))) (s_var (i := 5))))))))) (b_one (z_ret s_bool)) b_nil))))))))))))
  (b_one (z_ret s_bool)))
set_option maxHeartbeats 0 in
theorem all_mk {l : PySem.W.OpenLaw} {w : World} {K : PySem.W.Frag} {h : Heap} {mg : Str → Option Value} {fa : Addr} {C0 : Addr} {uG_MOST_MADE_BITS : Tok} {uG_FEWEST : Tok} {uG_MOST_VALUES : Tok} {uG_FEWEST_VALUES : Tok} {uG_MOST_BITS : Tok} {ad_MANY_WORDS : Addr} {u0_MANY_WORDS : Tok} {u1_MANY_WORDS : Tok} {u2_MANY_WORDS : Tok} {u3_MANY_WORDS : Tok} {u4_MANY_WORDS : Tok} {ep_MANY_WORDS : Nat} {sl_MANY_WORDS : Array (Option Value)} {f__law_pen_ : Addr} {od_law_pen an_law_pen : Option Addr} {sl_law_pen : Array (Option Value)} {oc_law_pen kV_law_pen dc_law_pen pm_law_pen cd_law_pen ct_law_pen : Value} {f__law_cell_at_ : Addr} {od_law_cell_at an_law_cell_at : Option Addr} {sl_law_cell_at : Array (Option Value)} {oc_law_cell_at kV_law_cell_at dc_law_cell_at pm_law_cell_at cd_law_cell_at ct_law_cell_at : Value} {f__law_draw_ : Addr} {od_law_draw an_law_draw : Option Addr} {sl_law_draw : Array (Option Value)} {oc_law_draw kV_law_draw dc_law_draw pm_law_draw cd_law_draw ct_law_draw : Value} {f__law_mixed_ : Addr} {od_law_mixed an_law_mixed : Option Addr} {sl_law_mixed : Array (Option Value)} {oc_law_mixed kV_law_mixed dc_law_mixed pm_law_mixed cd_law_mixed ct_law_mixed : Value} {f__law_near_ : Addr} {od_law_near an_law_near : Option Addr} {sl_law_near : Array (Option Value)} {oc_law_near kV_law_near dc_law_near pm_law_near cd_law_near ct_law_near : Value} {f__law_apart_ : Addr} {od_law_apart an_law_apart : Option Addr} {sl_law_apart : Array (Option Value)} {oc_law_apart kV_law_apart dc_law_apart pm_law_apart cd_law_apart ct_law_apart : Value} {f__law_rings_ : Addr} {od_law_rings an_law_rings : Option Addr} {sl_law_rings : Array (Option Value)} {oc_law_rings kV_law_rings dc_law_rings pm_law_rings cd_law_rings ct_law_rings : Value} {f__law_all_ : Addr} {od_law_all an_law_all : Option Addr} {sl_law_all : Array (Option Value)} {oc_law_all kV_law_all dc_law_all pm_law_all cd_law_all ct_law_all : Value} {f__law_due_ : Addr} {od_law_due an_law_due : Option Addr} {sl_law_due : Array (Option Value)} {oc_law_due kV_law_due dc_law_due pm_law_due cd_law_due ct_law_due : Value} {f_is_between_ : Addr} {odis_between anis_between : Option Addr} {slis_between : Array (Option Value)} {ocis_between kVis_between dcis_between pmis_between cdis_between ctis_between : Value} {f_need_bits_ : Addr} {odneed_bits anneed_bits : Option Addr} {slneed_bits : Array (Option Value)} {ocneed_bits kVneed_bits dcneed_bits pmneed_bits cdneed_bits ctneed_bits : Value} {f_need_sizes_ : Addr} {odneed_sizes anneed_sizes : Option Addr} {slneed_sizes : Array (Option Value)} {ocneed_sizes kVneed_sizes dcneed_sizes pmneed_sizes cdneed_sizes ctneed_sizes : Value} {f_changed_ : Addr} {odchanged anchanged : Option Addr} {slchanged : Array (Option Value)} {occhanged kVchanged dcchanged pmchanged cdchanged ctchanged : Value} {f_next_words_ : Addr} {odnext_words annext_words : Option Addr} {slnext_words : Array (Option Value)} {ocnext_words kVnext_words dcnext_words pmnext_words cdnext_words ctnext_words : Value} {f_can_close_ : Addr} {odcan_close ancan_close : Option Addr} {slcan_close : Array (Option Value)} {occan_close kVcan_close dccan_close pmcan_close cdcan_close ctcan_close : Value} {f_are_bits_ : Addr} {odare_bits anare_bits : Option Addr} {slare_bits : Array (Option Value)} {ocare_bits kVare_bits dcare_bits pmare_bits cdare_bits ctare_bits : Value} {f_are_words_ : Addr} {odare_words anare_words : Option Addr} {slare_words : Array (Option Value)} {ocare_words kVare_words dcare_words pmare_words cdare_words ctare_words : Value} {f_CodeX_initX_ : Addr} {odCodeX_initX anCodeX_initX : Option Addr} {slCodeX_initX : Array (Option Value)} {ocCodeX_initX kVCodeX_initX dcCodeX_initX pmCodeX_initX cdCodeX_initX ctCodeX_initX : Value} {f_first_ring_ : Addr} {odfirst_ring anfirst_ring : Option Addr} {slfirst_ring : Array (Option Value)} {ocfirst_ring kVfirst_ring dcfirst_ring pmfirst_ring cdfirst_ring ctfirst_ring : Value} {f_made_single_ : Addr} {odmade_single anmade_single : Option Addr} {slmade_single : Array (Option Value)} {ocmade_single kVmade_single dcmade_single pmmade_single cdmade_single ctmade_single : Value} {f_single_ : Addr} {odsingle ansingle : Option Addr} {slsingle : Array (Option Value)} {ocsingle kVsingle dcsingle pmsingle cdsingle ctsingle : Value} {f_Code_words_ : Addr} {odCode_words anCode_words : Option Addr} {slCode_words : Array (Option Value)} {ocCode_words kVCode_words dcCode_words pmCode_words cdCode_words ctCode_words : Value} {pCode_words : Addr} {rsCode_words : List Value} {f_law_ : Addr} {odlaw anlaw : Option Addr} {sllaw : Array (Option Value)} {oclaw kVlaw dclaw pmlaw cdlaw ctlaw : Value} {k0made_single Pmade_single : Addr} {ydmade_single : Option Addr} {yvmade_single : Array Value} {yslmade_single : Array (Option Value)} {yfmade_single : Str} {ytmade_single ygmade_single yxmade_single : Tok} {ylmade_single yemade_single : Int} {ybmade_single : Bool} (X : K.In h) (G : h.Ns mainGlobals mg) (hfa : mg "law" = some (.ref fa)) (own : ∀ y ∈ (["made_single"] : List Str), ∀ fy, mg y = some (.ref fy) → LamX.OwnTab K fy h)
    (aC0 : PySem.W.nsIn K mainGlobals "Code" = some (some (.ref C0)))
    (pgC0 : PySem.W.plainGet K C0 Str.empty = true)
    (hdC0 : PySem.W.hasDictIn K C0 = true)
    (poC0 : PySem.W.plainOver K C0 = true)
    (saC0 : PySem.W.findIn K (.ref C0) "__setattr__" = some (some (.builtin "object.__setattr__")))
    (mkC0 : PySem.W.makesIn K C0 = true)
    (kcC0 : PySem.W.keepIn K (.ref C0) = true)
    (n0C0 : PySem.W.findIn K (.ref C0) "row" = some none)
    (n1C0 : PySem.W.findIn K (.ref C0) "known" = some none)
    (dcC0 : PySem.W.findIn K (.ref C0) "__class__" = some (some (.builtin "object.__class__")))
    (moC0 : PySem.W.mroIn K C0 (.type "object") = some true)
    (bintC0 : PySem.W.mroIn K C0 (.type "int") = some false)
    (bboolC0 : PySem.W.mroIn K C0 (.type "bool") = some false)
    (btupleC0 : PySem.W.mroIn K C0 (.type "tuple") = some false)
    (bstrC0 : PySem.W.mroIn K C0 (.type "str") = some false)
    (blistC0 : PySem.W.mroIn K C0 (.type "list") = some false)
    (icC0 : PySem.W.isClsIn K C0 = true)
    (tyC0 : PySem.W.typeIn K (.ref C0) = some (.type "type"))
    (hn : PySem.W.specialIn K (.builtin "object.__class__") "__get__" = some (some (.builtin "getset_descriptor.__get__")))
    (htk : PySem.W.takesIn K (.builtin "object.__class__") = some true)
    (zlen : PySem.W.nsIn K mainGlobals "len" = some none)
    (zrange : PySem.W.nsIn K mainGlobals "range" = some none)
    (zisinstance : PySem.W.nsIn K mainGlobals "isinstance" = some none)
    (ztuple : PySem.W.nsIn K mainGlobals "tuple" = some none)
    (zlist : PySem.W.nsIn K mainGlobals "list" = some none)
    (zall : PySem.W.nsIn K mainGlobals "all" = some none)
    (zany : PySem.W.nsIn K mainGlobals "any" = some none)
    (zmax : PySem.W.nsIn K mainGlobals "max" = some none)
    (zmin : PySem.W.nsIn K mainGlobals "min" = some none)
    (zset : PySem.W.nsIn K mainGlobals "set" = some none)
    (zsorted : PySem.W.nsIn K mainGlobals "sorted" = some none)
    (zenumerate : PySem.W.nsIn K mainGlobals "enumerate" = some none)
    (zzip : PySem.W.nsIn K mainGlobals "zip" = some none)
    (zrepr : PySem.W.nsIn K mainGlobals "repr" = some none)
    (zstr : PySem.W.nsIn K mainGlobals "str" = some none)
    (zint : PySem.W.nsIn K mainGlobals "int" = some none)
    (zsum : PySem.W.nsIn K mainGlobals "sum" = some none)
    (zdict : PySem.W.nsIn K mainGlobals "dict" = some none)
    (zbool : PySem.W.nsIn K mainGlobals "bool" = some none)
    (vG_MOST_MADE_BITS : PySem.W.nsIn K mainGlobals "MOST_MADE_BITS" = some (some (.int (4) uG_MOST_MADE_BITS)))
    (vG_FEWEST : PySem.W.nsIn K mainGlobals "FEWEST" = some (some (.int (2) uG_FEWEST)))
    (vG_MOST_VALUES : PySem.W.nsIn K mainGlobals "MOST_VALUES" = some (some (.int (16) uG_MOST_VALUES)))
    (vG_FEWEST_VALUES : PySem.W.nsIn K mainGlobals "FEWEST_VALUES" = some (some (.int (2) uG_FEWEST_VALUES)))
    (vG_MOST_BITS : PySem.W.nsIn K mainGlobals "MOST_BITS" = some (some (.int (5) uG_MOST_BITS)))
    (v_MANY_WORDS : PySem.W.nsIn K mainGlobals "MANY_WORDS" = some (some (.ref ad_MANY_WORDS)))
    (w_MANY_WORDS : K.lookup ad_MANY_WORDS = some ⟨.type "tuple", none, .seq #[.int (1) u0_MANY_WORDS, .int (2) u1_MANY_WORDS, .int (4) u2_MANY_WORDS, .int (8) u3_MANY_WORDS, .int (16) u4_MANY_WORDS] ep_MANY_WORDS, sl_MANY_WORDS⟩)
    (a_law_pen : PySem.W.nsIn K mainGlobals "_law_pen" = some (some (.ref f__law_pen_)))
    (l_law_pen : K.lookup f__law_pen_ = some ⟨oc_law_pen, od_law_pen, .func (PySem.W.fnOf "_law_pen" "_law_pen" (defArgs t__law_pen) (defBody t__law_pen) (defScope t__law_pen) .none kV_law_pen dc_law_pen pm_law_pen an_law_pen cd_law_pen ct_law_pen), sl_law_pen⟩)
    (c_law_pen : PySem.W.codeIn K cd_law_pen "_law_pen" = true)
    (k_law_pen : PySem.W.keepIn K (.ref f__law_pen_) = true)
    (a_law_cell_at : PySem.W.nsIn K mainGlobals "_law_cell_at" = some (some (.ref f__law_cell_at_)))
    (l_law_cell_at : K.lookup f__law_cell_at_ = some ⟨oc_law_cell_at, od_law_cell_at, .func (PySem.W.fnOf "_law_cell_at" "_law_cell_at" (defArgs t__law_cell_at) (defBody t__law_cell_at) (defScope t__law_cell_at) .none kV_law_cell_at dc_law_cell_at pm_law_cell_at an_law_cell_at cd_law_cell_at ct_law_cell_at), sl_law_cell_at⟩)
    (c_law_cell_at : PySem.W.codeIn K cd_law_cell_at "_law_cell_at" = true)
    (k_law_cell_at : PySem.W.keepIn K (.ref f__law_cell_at_) = true)
    (a_law_draw : PySem.W.nsIn K mainGlobals "_law_draw" = some (some (.ref f__law_draw_)))
    (l_law_draw : K.lookup f__law_draw_ = some ⟨oc_law_draw, od_law_draw, .func (PySem.W.fnOf "_law_draw" "_law_draw" (defArgs t__law_draw) (defBody t__law_draw) (defScope t__law_draw) .none kV_law_draw dc_law_draw pm_law_draw an_law_draw cd_law_draw ct_law_draw), sl_law_draw⟩)
    (c_law_draw : PySem.W.codeIn K cd_law_draw "_law_draw" = true)
    (k_law_draw : PySem.W.keepIn K (.ref f__law_draw_) = true)
    (a_law_mixed : PySem.W.nsIn K mainGlobals "_law_mixed" = some (some (.ref f__law_mixed_)))
    (l_law_mixed : K.lookup f__law_mixed_ = some ⟨oc_law_mixed, od_law_mixed, .func (PySem.W.fnOf "_law_mixed" "_law_mixed" (defArgs t__law_mixed) (defBody t__law_mixed) (defScope t__law_mixed) .none kV_law_mixed dc_law_mixed pm_law_mixed an_law_mixed cd_law_mixed ct_law_mixed), sl_law_mixed⟩)
    (c_law_mixed : PySem.W.codeIn K cd_law_mixed "_law_mixed" = true)
    (k_law_mixed : PySem.W.keepIn K (.ref f__law_mixed_) = true)
    (a_law_near : PySem.W.nsIn K mainGlobals "_law_near" = some (some (.ref f__law_near_)))
    (l_law_near : K.lookup f__law_near_ = some ⟨oc_law_near, od_law_near, .func (PySem.W.fnOf "_law_near" "_law_near" (defArgs t__law_near) (defBody t__law_near) (defScope t__law_near) .none kV_law_near dc_law_near pm_law_near an_law_near cd_law_near ct_law_near), sl_law_near⟩)
    (c_law_near : PySem.W.codeIn K cd_law_near "_law_near" = true)
    (k_law_near : PySem.W.keepIn K (.ref f__law_near_) = true)
    (a_law_apart : PySem.W.nsIn K mainGlobals "_law_apart" = some (some (.ref f__law_apart_)))
    (l_law_apart : K.lookup f__law_apart_ = some ⟨oc_law_apart, od_law_apart, .func (PySem.W.fnOf "_law_apart" "_law_apart" (defArgs t__law_apart) (defBody t__law_apart) (defScope t__law_apart) .none kV_law_apart dc_law_apart pm_law_apart an_law_apart cd_law_apart ct_law_apart), sl_law_apart⟩)
    (c_law_apart : PySem.W.codeIn K cd_law_apart "_law_apart" = true)
    (k_law_apart : PySem.W.keepIn K (.ref f__law_apart_) = true)
    (a_law_rings : PySem.W.nsIn K mainGlobals "_law_rings" = some (some (.ref f__law_rings_)))
    (l_law_rings : K.lookup f__law_rings_ = some ⟨oc_law_rings, od_law_rings, .func (PySem.W.fnOf "_law_rings" "_law_rings" (defArgs t__law_rings) (defBody t__law_rings) (defScope t__law_rings) .none kV_law_rings dc_law_rings pm_law_rings an_law_rings cd_law_rings ct_law_rings), sl_law_rings⟩)
    (c_law_rings : PySem.W.codeIn K cd_law_rings "_law_rings" = true)
    (k_law_rings : PySem.W.keepIn K (.ref f__law_rings_) = true)
    (a_law_all : PySem.W.nsIn K mainGlobals "_law_all" = some (some (.ref f__law_all_)))
    (l_law_all : K.lookup f__law_all_ = some ⟨oc_law_all, od_law_all, .func (PySem.W.fnOf "_law_all" "_law_all" (defArgs t__law_all) (defBody t__law_all) (defScope t__law_all) .none kV_law_all dc_law_all pm_law_all an_law_all cd_law_all ct_law_all), sl_law_all⟩)
    (c_law_all : PySem.W.codeIn K cd_law_all "_law_all" = true)
    (k_law_all : PySem.W.keepIn K (.ref f__law_all_) = true)
    (a_law_due : PySem.W.nsIn K mainGlobals "_law_due" = some (some (.ref f__law_due_)))
    (l_law_due : K.lookup f__law_due_ = some ⟨oc_law_due, od_law_due, .func (PySem.W.fnOf "_law_due" "_law_due" (defArgs t__law_due) (defBody t__law_due) (defScope t__law_due) .none kV_law_due dc_law_due pm_law_due an_law_due cd_law_due ct_law_due), sl_law_due⟩)
    (c_law_due : PySem.W.codeIn K cd_law_due "_law_due" = true)
    (k_law_due : PySem.W.keepIn K (.ref f__law_due_) = true)
    (ais_between : PySem.W.nsIn K mainGlobals "is_between" = some (some (.ref f_is_between_)))
    (lis_between : K.lookup f_is_between_ = some ⟨ocis_between, odis_between, .func (PySem.W.fnOf "is_between" "is_between" (defArgs t_is_between) (defBody t_is_between) (defScope t_is_between) .none kVis_between dcis_between pmis_between anis_between cdis_between ctis_between), slis_between⟩)
    (cis_between : PySem.W.codeIn K cdis_between "is_between" = true)
    (kis_between : PySem.W.keepIn K (.ref f_is_between_) = true)
    (aneed_bits : PySem.W.nsIn K mainGlobals "need_bits" = some (some (.ref f_need_bits_)))
    (lneed_bits : K.lookup f_need_bits_ = some ⟨ocneed_bits, odneed_bits, .func (PySem.W.fnOf "need_bits" "need_bits" (defArgs t_need_bits) (defBody t_need_bits) (defScope t_need_bits) .none kVneed_bits dcneed_bits pmneed_bits anneed_bits cdneed_bits ctneed_bits), slneed_bits⟩)
    (cneed_bits : PySem.W.codeIn K cdneed_bits "need_bits" = true)
    (kneed_bits : PySem.W.keepIn K (.ref f_need_bits_) = true)
    (aneed_sizes : PySem.W.nsIn K mainGlobals "need_sizes" = some (some (.ref f_need_sizes_)))
    (lneed_sizes : K.lookup f_need_sizes_ = some ⟨ocneed_sizes, odneed_sizes, .func (PySem.W.fnOf "need_sizes" "need_sizes" (defArgs t_need_sizes) (defBody t_need_sizes) (defScope t_need_sizes) .none kVneed_sizes dcneed_sizes pmneed_sizes anneed_sizes cdneed_sizes ctneed_sizes), slneed_sizes⟩)
    (cneed_sizes : PySem.W.codeIn K cdneed_sizes "need_sizes" = true)
    (kneed_sizes : PySem.W.keepIn K (.ref f_need_sizes_) = true)
    (achanged : PySem.W.nsIn K mainGlobals "changed" = some (some (.ref f_changed_)))
    (lchanged : K.lookup f_changed_ = some ⟨occhanged, odchanged, .func (PySem.W.fnOf "changed" "changed" (defArgs t_changed) (defBody t_changed) (defScope t_changed) .none kVchanged dcchanged pmchanged anchanged cdchanged ctchanged), slchanged⟩)
    (cchanged : PySem.W.codeIn K cdchanged "changed" = true)
    (kchanged : PySem.W.keepIn K (.ref f_changed_) = true)
    (anext_words : PySem.W.nsIn K mainGlobals "next_words" = some (some (.ref f_next_words_)))
    (lnext_words : K.lookup f_next_words_ = some ⟨ocnext_words, odnext_words, .func (PySem.W.fnOf "next_words" "next_words" (defArgs t_next_words) (defBody t_next_words) (defScope t_next_words) .none kVnext_words dcnext_words pmnext_words annext_words cdnext_words ctnext_words), slnext_words⟩)
    (cnext_words : PySem.W.codeIn K cdnext_words "next_words" = true)
    (knext_words : PySem.W.keepIn K (.ref f_next_words_) = true)
    (acan_close : PySem.W.nsIn K mainGlobals "can_close" = some (some (.ref f_can_close_)))
    (lcan_close : K.lookup f_can_close_ = some ⟨occan_close, odcan_close, .func (PySem.W.fnOf "can_close" "can_close" (defArgs t_can_close) (defBody t_can_close) (defScope t_can_close) .none kVcan_close dccan_close pmcan_close ancan_close cdcan_close ctcan_close), slcan_close⟩)
    (ccan_close : PySem.W.codeIn K cdcan_close "can_close" = true)
    (kcan_close : PySem.W.keepIn K (.ref f_can_close_) = true)
    (aare_bits : PySem.W.nsIn K mainGlobals "are_bits" = some (some (.ref f_are_bits_)))
    (lare_bits : K.lookup f_are_bits_ = some ⟨ocare_bits, odare_bits, .func (PySem.W.fnOf "are_bits" "are_bits" (defArgs t_are_bits) (defBody t_are_bits) (defScope t_are_bits) .none kVare_bits dcare_bits pmare_bits anare_bits cdare_bits ctare_bits), slare_bits⟩)
    (care_bits : PySem.W.codeIn K cdare_bits "are_bits" = true)
    (kare_bits : PySem.W.keepIn K (.ref f_are_bits_) = true)
    (aare_words : PySem.W.nsIn K mainGlobals "are_words" = some (some (.ref f_are_words_)))
    (lare_words : K.lookup f_are_words_ = some ⟨ocare_words, odare_words, .func (PySem.W.fnOf "are_words" "are_words" (defArgs t_are_words) (defBody t_are_words) (defScope t_are_words) .none kVare_words dcare_words pmare_words anare_words cdare_words ctare_words), slare_words⟩)
    (care_words : PySem.W.codeIn K cdare_words "are_words" = true)
    (kare_words : PySem.W.keepIn K (.ref f_are_words_) = true)
    (aCodeX_initX : PySem.W.findIn K (.ref C0) "__init__" = some (some (.ref f_CodeX_initX_)))
    (iCodeX_initX : PySem.W.isFn K (.ref f_CodeX_initX_) = true)
    (lCodeX_initX : K.lookup f_CodeX_initX_ = some ⟨ocCodeX_initX, odCodeX_initX, .func (PySem.W.fnOf "__init__" "Code.__init__" (defArgs t_CodeX_initX) (defBody t_CodeX_initX) (defScope t_CodeX_initX) .none kVCodeX_initX dcCodeX_initX pmCodeX_initX anCodeX_initX cdCodeX_initX ctCodeX_initX), slCodeX_initX⟩)
    (cCodeX_initX : PySem.W.codeIn K cdCodeX_initX "Code.__init__" = true)
    (kCodeX_initX : PySem.W.keepIn K (.ref f_CodeX_initX_) = true)
    (afirst_ring : PySem.W.nsIn K mainGlobals "first_ring" = some (some (.ref f_first_ring_)))
    (lfirst_ring : K.lookup f_first_ring_ = some ⟨ocfirst_ring, odfirst_ring, .func (PySem.W.fnOf "first_ring" "first_ring" (defArgs t_first_ring) (defBody t_first_ring) (defScope t_first_ring) .none kVfirst_ring dcfirst_ring pmfirst_ring anfirst_ring cdfirst_ring ctfirst_ring), slfirst_ring⟩)
    (cfirst_ring : PySem.W.codeIn K cdfirst_ring "first_ring" = true)
    (kfirst_ring : PySem.W.keepIn K (.ref f_first_ring_) = true)
    (amade_single : PySem.W.nsIn K mainGlobals "made_single" = some (some (.ref f_made_single_)))
    (lmade_single : K.lookup f_made_single_ = some ⟨ocmade_single, odmade_single, .func (PySem.W.fnOf "made_single" "made_single" (defArgs t_made_single) (defBody t_made_single) (defScope t_made_single) .none kVmade_single dcmade_single pmmade_single anmade_single cdmade_single ctmade_single), slmade_single⟩)
    (cmade_single : PySem.W.codeIn K cdmade_single "made_single" = true)
    (kmade_single : PySem.W.keepIn K (.ref f_made_single_) = true)
    (asingle : PySem.W.nsIn K mainGlobals "single" = some (some (.ref f_single_)))
    (lsingle : K.lookup f_single_ = some ⟨ocsingle, odsingle, .func (PySem.W.fnOf "single" "single" (defArgs t_single) (defBody t_single) (defScope t_single) .none kVsingle dcsingle pmsingle ansingle cdsingle ctsingle), slsingle⟩)
    (csingle : PySem.W.codeIn K cdsingle "single" = true)
    (ksingle : PySem.W.keepIn K (.ref f_single_) = true)
    (aCode_words : PySem.W.findIn K (.ref C0) "words" = some (some (.ref pCode_words)))
    (gCode_words : PySem.W.specialIn K (.ref pCode_words) "__get__" = some (some (.builtin "property.__get__")))
    (tCode_words : PySem.W.takesIn K (.ref pCode_words) = some true)
    (rCode_words : PySem.W.recIn K pCode_words "property" = some (.ref f_Code_words_ :: rsCode_words))
    (lCode_words : K.lookup f_Code_words_ = some ⟨ocCode_words, odCode_words, .func (PySem.W.fnOf "words" "Code.words" (defArgs t_Code_words) (defBody t_Code_words) (defScope t_Code_words) .none kVCode_words dcCode_words pmCode_words anCode_words cdCode_words ctCode_words), slCode_words⟩)
    (cCode_words : PySem.W.codeIn K cdCode_words "Code.words" = true)
    (kCode_words : PySem.W.keepIn K (.ref f_Code_words_) = true)
    (alaw : PySem.W.nsIn K mainGlobals "law" = some (some (.ref f_law_)))
    (llaw : K.lookup f_law_ = some ⟨oclaw, odlaw, .func (PySem.W.fnOf "law" "law" (defArgs t_law) (defBody t_law) (defScope t_law) .none kVlaw dclaw pmlaw anlaw cdlaw ctlaw), sllaw⟩)
    (claw : PySem.W.codeIn K cdlaw "law" = true)
    (klaw : PySem.W.keepIn K (.ref f_law_) = true)
    (emade_single : cdmade_single = .ref k0made_single)
    (ymade_single : K.lookup k0made_single = some ⟨.type "code", ydmade_single, .fields yvmade_single, yslmade_single⟩)
    (ypmade_single : yvmade_single[11]? = some (.ref Pmade_single))
    (yqmade_single : yvmade_single.getD 11 .none = .ref Pmade_single)
    (yrmade_single : yvmade_single.getD 18 .none = .str yfmade_single ytmade_single)
    (ysmade_single : yvmade_single.getD 7 .none = .int ylmade_single ygmade_single)
    (yumade_single : yvmade_single.getD 9 .none = .bool ybmade_single)
    (ywmade_single : yvmade_single.getD 10 .none = .int yemade_single yxmade_single)
    (ynmade_single : k0made_single ≠ Pmade_single)
    (ykmade_single : K.lookup Pmade_single = none)
    : ∃ (fd : FuncData) (cs : List (Addr × Addr)), (∀ p ∈ cs, h.get? p.2 = some { cls := .none, data := .fields #[] }) ∧ (∀ p ∈ cs, K.lookup p.2 = Option.none) ∧ (∀ p ∈ cs, PySem.W.CodeHd h p.1 p.2) ∧ (∀ (s : Shared) (v : Value), BindsTo s fd ⟨[v], []⟩ [("_law_script", v)]) ∧ ∀ base : Heap, K.In base → base.Ns mainGlobals mg → (∀ p ∈ cs, LamX.TabB base mg p.1 p.2) → ∃ g : Gs, g.K = K ∧ (∀ p ∈ g.tabs, p.1 ∈ cs.map (·.2)) ∧ FnG l.prog w K mg base (L2N.CX l.prog w) 9 fa fd ["_law_script"] (spF g f_law) := by
  have e := hfa.symm.trans (PySem.W.mg_of X G alaw)
  cases e
  have F__law_pen := fun_mk (st := t__law_pen) l_law_pen c_law_pen k_law_pen
  have F__law_cell_at := fun_mk (st := t__law_cell_at) l_law_cell_at c_law_cell_at k_law_cell_at
  have F__law_draw := fun_mk (st := t__law_draw) l_law_draw c_law_draw k_law_draw
  have F__law_mixed := fun_mk (st := t__law_mixed) l_law_mixed c_law_mixed k_law_mixed
  have F__law_near := fun_mk (st := t__law_near) l_law_near c_law_near k_law_near
  have F__law_apart := fun_mk (st := t__law_apart) l_law_apart c_law_apart k_law_apart
  have F__law_rings := fun_mk (st := t__law_rings) l_law_rings c_law_rings k_law_rings
  have F__law_all := fun_mk (st := t__law_all) l_law_all c_law_all k_law_all
  have F__law_due := fun_mk (st := t__law_due) l_law_due c_law_due k_law_due
  have F_is_between := fun_mk (st := t_is_between) lis_between cis_between kis_between
  have F_need_bits := fun_mk (st := t_need_bits) lneed_bits cneed_bits kneed_bits
  have F_need_sizes := fun_mk (st := t_need_sizes) lneed_sizes cneed_sizes kneed_sizes
  have F_changed := fun_mk (st := t_changed) lchanged cchanged kchanged
  have F_next_words := fun_mk (st := t_next_words) lnext_words cnext_words knext_words
  have F_can_close := fun_mk (st := t_can_close) lcan_close ccan_close kcan_close
  have F_are_bits := fun_mk (st := t_are_bits) lare_bits care_bits kare_bits
  have F_are_words := fun_mk (st := t_are_words) lare_words care_words kare_words
  have F_CodeX_initX := fun_mk (st := t_CodeX_initX) lCodeX_initX cCodeX_initX kCodeX_initX
  have F_first_ring := fun_mk (st := t_first_ring) lfirst_ring cfirst_ring kfirst_ring
  have F_made_single := fun_mk (st := t_made_single) lmade_single cmade_single kmade_single
  have F_single := fun_mk (st := t_single) lsingle csingle ksingle
  have F_Code_words := fun_mk (st := t_Code_words) lCode_words cCode_words kCode_words
  have F_law := fun_mk (st := t_law) llaw claw klaw
  have owmade_single : h.get? Pmade_single = some { cls := .none, data := .fields #[] } := own "made_single" (by simp) _ (PySem.W.mg_of X G amade_single) k0made_single Pmade_single _ _ _ _ _ _ lmade_single rfl emade_single ymade_single ypmade_single
  have cwmade_single : PySem.W.CodeHd h k0made_single Pmade_single := ⟨_, _, _, _, _, _, _, _, _, X _ _ ymade_single, rfl, rfl, ypmade_single, yqmade_single, yrmade_single, ysmade_single, yumade_single, ywmade_single, ynmade_single⟩
  refine ⟨PySem.W.fnOf "law" "law" (defArgs t_law) (defBody t_law) (defScope t_law) .none kVlaw dclaw pmlaw anlaw cdlaw ctlaw, [(k0made_single, Pmade_single)], fun p hp => by
    simp only [List.mem_cons, List.not_mem_nil, or_false] at hp
    rcases hp with rfl
    · exact owmade_single
    , fun p hp => by
    simp only [List.mem_cons, List.not_mem_nil, or_false] at hp
    rcases hp with rfl
    · exact ykmade_single
    , fun p hp => by
    simp only [List.mem_cons, List.not_mem_nil, or_false] at hp
    rcases hp with rfl
    · exact cwmade_single
    , fun s v => .of_eq rfl, fun base _ _ TB => ?_⟩
  let g : Gs := { prog := l.prog, w := w, base := base, K := K, mg := mg, cl := fun n => if n = 0 then C0 else 0, has := fun n => n == 0, tabs := [(Pmade_single, (("made_single" : Str) ++ ".<locals>.") ++ "<lambda>")], lam := fun n => if n = 0 then li_0 else ⟨"", ⟨[], [], Option.none, [], [], Option.none, []⟩, noE, defScope t_law⟩ }
  refine ⟨g, rfl, fun p hp => ?_, ?_⟩
  · have hp : p ∈ g.tabs := hp
    simp only [g, List.mem_cons, List.not_mem_nil, or_false] at hp
    rcases hp with rfl <;> simp
  have cC0 : ClsC g 0 := ⟨⟨pgC0, hdC0, poC0, saC0⟩, fun f hf => by
    have hf : f ∈ [("row" : Str), ("known" : Str)] := hf
    simp only [List.mem_cons, List.not_mem_nil, or_false] at hf
    rcases hf with rfl | rfl
    · exact n0C0
    · exact n1C0
    , by decide, dcC0, moC0, fun T => by
      cases T
      · exact kit_obj bintC0
      · exact kit_obj bboolC0
      · exact kit_obj btupleC0
      · exact kit_obj bstrC0
      · exact kit_obj blistC0
    , fun n hn => kit_own hn icC0 tyC0
    ⟩
  have hz : ∀ c, g.has c = true → c = 0 := fun c hc => by simpa [g] using hc
  have fx : Fx g := ⟨fun c hc => by rw [hz c hc]; exact cC0, fun c d hc hd => by rw [hz c hc, hz d hd]; exact kit_self, hn, htk, fun x hx => by
    simp only [List.mem_cons, List.not_mem_nil, or_false] at hx
    rcases hx with rfl | rfl | rfl | rfl | rfl | rfl | rfl | rfl | rfl | rfl | rfl | rfl | rfl | rfl | rfl | rfl | rfl | rfl | rfl
    · exact PySem.W.mg_none_of X G zlen
    · exact PySem.W.mg_none_of X G zrange
    · exact PySem.W.mg_none_of X G zisinstance
    · exact PySem.W.mg_none_of X G ztuple
    · exact PySem.W.mg_none_of X G zlist
    · exact PySem.W.mg_none_of X G zall
    · exact PySem.W.mg_none_of X G zany
    · exact PySem.W.mg_none_of X G zmax
    · exact PySem.W.mg_none_of X G zmin
    · exact PySem.W.mg_none_of X G zset
    · exact PySem.W.mg_none_of X G zsorted
    · exact PySem.W.mg_none_of X G zenumerate
    · exact PySem.W.mg_none_of X G zzip
    · exact PySem.W.mg_none_of X G zrepr
    · exact PySem.W.mg_none_of X G zstr
    · exact PySem.W.mg_none_of X G zint
    · exact PySem.W.mg_none_of X G zsum
    · exact PySem.W.mg_none_of X G zdict
    · exact PySem.W.mg_none_of X G zbool
    ⟩
  have memmade_single : (Pmade_single, (("made_single" : Str) ++ ".<locals>.") ++ "<lambda>") ∈ g.tabs := .head _
  have unimade_single : ∀ p ∈ g.tabs, p.1 = Pmade_single → p.2 = (("made_single" : Str) ++ ".<locals>.") ++ "<lambda>" := fun p hp e => by
    simp only [g, List.mem_cons, List.not_mem_nil, or_false] at hp
    rcases hp with rfl
    · rfl
  have tbmade_single : LamX.TabB g.base g.mg k0made_single Pmade_single := TB (k0made_single, Pmade_single) (.head _)
  have lamsF : LamsF g 0 FL := fun k => match k with
    | 0 => .inr ⟨["words", "whole"], mL_0, lp0, fun pm cv ct us hl => (match us, hl with | [_, _], _ => rfl), rfl, fun E H0 X c hN hs => bL_0 E H0 X c hN hs⟩
    | _ + 1 => .inl rfl
  have C_Code : ClsN g 0 "Code" := ⟨rfl, PySem.W.mg_of X G aC0⟩
  have G_MOST_MADE_BITS : GlobC g "MOST_MADE_BITS" (.int (4)) := ⟨.int (4), _, PySem.W.mg_of X G vG_MOST_MADE_BITS, ⟨_, rfl⟩, fun w => by simp only [Rep]⟩
  have G_FEWEST : GlobC g "FEWEST" (.int (2)) := ⟨.int (2), _, PySem.W.mg_of X G vG_FEWEST, ⟨_, rfl⟩, fun w => by simp only [Rep]⟩
  have G_MOST_VALUES : GlobC g "MOST_VALUES" (.int (16)) := ⟨.int (16), _, PySem.W.mg_of X G vG_MOST_VALUES, ⟨_, rfl⟩, fun w => by simp only [Rep]⟩
  have G_FEWEST_VALUES : GlobC g "FEWEST_VALUES" (.int (2)) := ⟨.int (2), _, PySem.W.mg_of X G vG_FEWEST_VALUES, ⟨_, rfl⟩, fun w => by simp only [Rep]⟩
  have G_MOST_BITS : GlobC g "MOST_BITS" (.int (5)) := ⟨.int (5), _, PySem.W.mg_of X G vG_MOST_BITS, ⟨_, rfl⟩, fun w => by simp only [Rep]⟩
  have G_MANY_WORDS : GlobC g "MANY_WORDS" (.tup [(.int (1)), (.int (2)), (.int (4)), (.int (8)), (.int (16))]) := ⟨.ref ad_MANY_WORDS, _, PySem.W.mg_of X G v_MANY_WORDS, rfl, fun w => by simp only [Rep, Reps]; exact ⟨ad_MANY_WORDS, [.int (1), .int (2), .int (4), .int (8), .int (16)], rfl, .inr ⟨_, _, _, w_MANY_WORDS, rfl, rfl, rfl, by show 5 ≤ sizeLine; decide, .cons ⟨_, rfl⟩ (.cons ⟨_, rfl⟩ (.cons ⟨_, rfl⟩ (.cons ⟨_, rfl⟩ (.cons ⟨_, rfl⟩ (.nil)))))⟩, ⟨_, _, rfl, rfl, ⟨_, _, rfl, rfl, ⟨_, _, rfl, rfl, ⟨_, _, rfl, rfl, ⟨_, _, rfl, rfl, rfl⟩⟩⟩⟩⟩⟩⟩
  have S__law_pen : FnScope n__law_pen ["_law_cell"] (defScope t__law_pen) := ⟨rfl, rfl, rfl, by decide +kernel, rfl, by decide +kernel, by decide +kernel⟩
  have bi__law_pen := F__law_pen.binds (ps := ["_law_cell"]) fun _ _ _ _ _ _ us hl => match us, hl with | [_], _ => rfl
  have h__law_pen := def_ok (g := g) (n := 1) F__law_pen S__law_pen rfl (by decide) fx (b__law_pen (g := g) )
  have d__law_pen : Def g 1 "_law_pen" [] f__law_pen := ⟨_, _, _, [], [], h__law_pen, PySem.W.mg_of X G a_law_pen, k_law_pen, bi__law_pen, .nil, fun w => by simp only [Reps]⟩
  have S__law_cell_at : FnScope n__law_cell_at ["_law_script", "_law_k"] (defScope t__law_cell_at) := ⟨rfl, rfl, rfl, by decide +kernel, rfl, by decide +kernel, by decide +kernel⟩
  have bi__law_cell_at := F__law_cell_at.binds (ps := ["_law_script", "_law_k"]) fun _ _ _ _ _ _ us hl => match us, hl with | [_, _], _ => rfl
  have h__law_cell_at := def_ok (g := g) (n := 2) F__law_cell_at S__law_cell_at rfl (by decide) fx (b__law_cell_at (g := g) )
  have d__law_cell_at : Def g 1 "_law_cell_at" [] f__law_cell_at := ⟨_, _, _, [], [], h__law_cell_at, PySem.W.mg_of X G a_law_cell_at, k_law_cell_at, bi__law_cell_at, .nil, fun w => by simp only [Reps]⟩
  have S__law_draw : FnScope n__law_draw ["_law_pen_here", "_law_many"] (defScope t__law_draw) := ⟨rfl, rfl, rfl, by decide +kernel, rfl, by decide +kernel, by decide +kernel⟩
  have bi__law_draw := F__law_draw.binds (ps := ["_law_pen_here", "_law_many"]) fun _ _ _ _ _ _ us hl => match us, hl with | [_, _], _ => rfl
  have h__law_draw := def_ok (g := g) (n := 2) F__law_draw S__law_draw rfl (by decide) fx (b__law_draw (g := g) )
  have d__law_draw : Def g 1 "_law_draw" [] f__law_draw := ⟨_, _, _, [], [], h__law_draw, PySem.W.mg_of X G a_law_draw, k_law_draw, bi__law_draw, .nil, fun w => by simp only [Reps]⟩
  have S__law_mixed : FnScope n__law_mixed ["_law_pen_here", "_law_some"] (defScope t__law_mixed) := ⟨rfl, rfl, rfl, by decide +kernel, rfl, by decide +kernel, by decide +kernel⟩
  have bi__law_mixed := F__law_mixed.binds (ps := ["_law_pen_here", "_law_some"]) fun _ _ _ _ _ _ us hl => match us, hl with | [_, _], _ => rfl
  have h__law_mixed := def_ok (g := g) (n := 2) F__law_mixed S__law_mixed rfl (by decide) fx (b__law_mixed (g := g)  d__law_draw)
  have d__law_mixed : Def g 2 "_law_mixed" [] f__law_mixed := ⟨_, _, _, [], [], h__law_mixed, PySem.W.mg_of X G a_law_mixed, k_law_mixed, bi__law_mixed, .nil, fun w => by simp only [Reps]⟩
  have S__law_near : FnScope n__law_near ["_law_row"] (defScope t__law_near) := ⟨rfl, rfl, rfl, by decide +kernel, rfl, by decide +kernel, by decide +kernel⟩
  have bi__law_near := F__law_near.binds (ps := ["_law_row"]) fun _ _ _ _ _ _ us hl => match us, hl with | [_], _ => rfl
  have h__law_near := def_ok (g := g) (n := 1) F__law_near S__law_near rfl (by decide) fx (b__law_near (g := g) )
  have d__law_near : Def g 1 "_law_near" [] f__law_near := ⟨_, _, _, [], [], h__law_near, PySem.W.mg_of X G a_law_near, k_law_near, bi__law_near, .nil, fun w => by simp only [Reps]⟩
  have S__law_apart : FnScope n__law_apart ["_law_row", "_law_other"] (defScope t__law_apart) := ⟨rfl, rfl, rfl, by decide +kernel, rfl, by decide +kernel, by decide +kernel⟩
  have bi__law_apart := F__law_apart.binds (ps := ["_law_row", "_law_other"]) fun _ _ _ _ _ _ us hl => match us, hl with | [_, _], _ => rfl
  have h__law_apart := def_ok (g := g) (n := 2) F__law_apart S__law_apart rfl (by decide) fx (b__law_apart (g := g) )
  have d__law_apart : Def g 1 "_law_apart" [] f__law_apart := ⟨_, _, _, [], [], h__law_apart, PySem.W.mg_of X G a_law_apart, k_law_apart, bi__law_apart, .nil, fun w => by simp only [Reps]⟩
  have S__law_rings : FnScope n__law_rings ["_law_many", "_law_wide", "_law_limit"] (defScope t__law_rings) := ⟨rfl, rfl, rfl, by decide +kernel, rfl, by decide +kernel, by decide +kernel⟩
  have bi__law_rings := F__law_rings.binds (ps := ["_law_many", "_law_wide", "_law_limit"]) fun _ _ _ _ _ _ us hl => match us, hl with | [_, _, _], _ => rfl
  have h__law_rings := def_ok (g := g) (n := 3) F__law_rings S__law_rings rfl (by decide) fx (b__law_rings (g := g)  d__law_near d__law_apart)
  have d__law_rings : Def g 2 "_law_rings" [] f__law_rings := ⟨_, _, _, [], [], h__law_rings, PySem.W.mg_of X G a_law_rings, k_law_rings, bi__law_rings, .nil, fun w => by simp only [Reps]⟩
  have S__law_all : FnScope n__law_all ["_law_many"] (defScope t__law_all) := ⟨rfl, rfl, rfl, by decide +kernel, rfl, by decide +kernel, by decide +kernel⟩
  have bi__law_all := F__law_all.binds (ps := ["_law_many"]) fun _ _ _ _ _ _ us hl => match us, hl with | [_], _ => rfl
  have h__law_all := def_ok (g := g) (n := 1) F__law_all S__law_all rfl (by decide) fx (b__law_all (g := g) )
  have d__law_all : Def g 1 "_law_all" [] f__law_all := ⟨_, _, _, [], [], h__law_all, PySem.W.mg_of X G a_law_all, k_law_all, bi__law_all, .nil, fun w => by simp only [Reps]⟩
  have S__law_due : FnScope n__law_due ["_law_many", "_law_wide"] (defScope t__law_due) := ⟨rfl, rfl, rfl, by decide +kernel, rfl, by decide +kernel, by decide +kernel⟩
  have bi__law_due := F__law_due.binds (ps := ["_law_many", "_law_wide"]) fun _ _ _ _ _ _ us hl => match us, hl with | [_, _], _ => rfl
  have h__law_due := def_ok (g := g) (n := 2) F__law_due S__law_due rfl (by decide) fx (b__law_due (g := g)  d__law_all d__law_rings)
  have d__law_due : Def g 3 "_law_due" [] f__law_due := ⟨_, _, _, [], [], h__law_due, PySem.W.mg_of X G a_law_due, k_law_due, bi__law_due, .nil, fun w => by simp only [Reps]⟩
  have S_is_between : FnScope n_is_between ["thing", "low", "high"] (defScope t_is_between) := ⟨rfl, rfl, rfl, by decide +kernel, rfl, by decide +kernel, by decide +kernel⟩
  have bi_is_between := F_is_between.binds (ps := ["thing", "low", "high"]) fun _ _ _ _ _ _ us hl => match us, hl with | [_, _, _], _ => rfl
  have h_is_between := def_ok (g := g) (n := 3) F_is_between S_is_between rfl (by decide) fx (b_is_between (g := g) )
  have d_is_between : Def g 1 "is_between" [] f_is_between := ⟨_, _, _, [], [], h_is_between, PySem.W.mg_of X G ais_between, kis_between, bi_is_between, .nil, fun w => by simp only [Reps]⟩
  have S_need_bits : FnScope n_need_bits ["bits"] (defScope t_need_bits) := ⟨rfl, rfl, rfl, by decide +kernel, rfl, by decide +kernel, by decide +kernel⟩
  have bi_need_bits := F_need_bits.binds (ps := ["bits"]) fun _ _ _ _ _ _ us hl => match us, hl with | [_], _ => rfl
  have h_need_bits := def_ok (g := g) (n := 1) F_need_bits S_need_bits rfl (by decide) fx (b_need_bits (g := g) G_MOST_MADE_BITS d_is_between)
  have d_need_bits : Def g 2 "need_bits" [] f_need_bits := ⟨_, _, _, [], [], h_need_bits, PySem.W.mg_of X G aneed_bits, kneed_bits, bi_need_bits, .nil, fun w => by simp only [Reps]⟩
  have S_need_sizes : FnScope n_need_sizes ["values", "bits"] (defScope t_need_sizes) := ⟨rfl, rfl, rfl, by decide +kernel, rfl, by decide +kernel, by decide +kernel⟩
  have bi_need_sizes := F_need_sizes.binds (ps := ["values", "bits"]) fun _ _ _ _ _ _ us hl => match us, hl with | [_, _], _ => rfl
  have h_need_sizes := def_ok (g := g) (n := 2) F_need_sizes S_need_sizes rfl (by decide) fx (b_need_sizes (g := g) G_FEWEST G_MOST_VALUES d_is_between d_need_bits)
  have d_need_sizes : Def g 3 "need_sizes" [] f_need_sizes := ⟨_, _, _, [], [], h_need_sizes, PySem.W.mg_of X G aneed_sizes, kneed_sizes, bi_need_sizes, .nil, fun w => by simp only [Reps]⟩
  have S_changed : FnScope n_changed ["word", "place"] (defScope t_changed) := ⟨rfl, rfl, rfl, by decide +kernel, rfl, by decide +kernel, by decide +kernel⟩
  have bi_changed := F_changed.binds (ps := ["word", "place"]) fun _ _ _ _ _ _ us hl => match us, hl with | [_, _], _ => rfl
  have h_changed := def_ok (g := g) (n := 2) F_changed S_changed rfl (by decide) fx (b_changed (g := g) )
  have d_changed : Def g 1 "changed" [] f_changed := ⟨_, _, _, [], [], h_changed, PySem.W.mg_of X G achanged, kchanged, bi_changed, .nil, fun w => by simp only [Reps]⟩
  have S_next_words : FnScope n_next_words ["word"] (defScope t_next_words) := ⟨rfl, rfl, rfl, by decide +kernel, rfl, by decide +kernel, by decide +kernel⟩
  have bi_next_words := F_next_words.binds (ps := ["word"]) fun _ _ _ _ _ _ us hl => match us, hl with | [_], _ => rfl
  have h_next_words := def_ok (g := g) (n := 1) F_next_words S_next_words rfl (by decide) fx (b_next_words (g := g)  d_changed)
  have d_next_words : Def g 2 "next_words" [] f_next_words := ⟨_, _, _, [], [], h_next_words, PySem.W.mg_of X G anext_words, knext_words, bi_next_words, .nil, fun w => by simp only [Reps]⟩
  have S_can_close : FnScope n_can_close ["words", "values"] (defScope t_can_close) := ⟨rfl, rfl, rfl, by decide +kernel, rfl, by decide +kernel, by decide +kernel⟩
  have bi_can_close := F_can_close.binds (ps := ["words", "values"]) fun _ _ _ _ _ _ us hl => match us, hl with | [_, _], _ => rfl
  have h_can_close := def_ok (g := g) (n := 2) F_can_close S_can_close rfl (by decide) fx (b_can_close (g := g) )
  have d_can_close : Def g 1 "can_close" [] f_can_close := ⟨_, _, _, [], [], h_can_close, PySem.W.mg_of X G acan_close, kcan_close, bi_can_close, .nil, fun w => by simp only [Reps]⟩
  have S_are_bits : FnScope n_are_bits ["thing"] (defScope t_are_bits) := ⟨rfl, rfl, rfl, by decide +kernel, rfl, by decide +kernel, by decide +kernel⟩
  have bi_are_bits := F_are_bits.binds (ps := ["thing"]) fun _ _ _ _ _ _ us hl => match us, hl with | [_], _ => rfl
  have h_are_bits := def_ok (g := g) (n := 1) F_are_bits S_are_bits rfl (by decide) fx (b_are_bits (g := g)  d_is_between)
  have d_are_bits : Def g 2 "are_bits" [] f_are_bits := ⟨_, _, _, [], [], h_are_bits, PySem.W.mg_of X G aare_bits, kare_bits, bi_are_bits, .nil, fun w => by simp only [Reps]⟩
  have S_are_words : FnScope n_are_words ["thing"] (defScope t_are_words) := ⟨rfl, rfl, rfl, by decide +kernel, rfl, by decide +kernel, by decide +kernel⟩
  have bi_are_words := F_are_words.binds (ps := ["thing"]) fun _ _ _ _ _ _ us hl => match us, hl with | [_], _ => rfl
  have h_are_words := def_ok (g := g) (n := 1) F_are_words S_are_words rfl (by decide) fx (b_are_words (g := g) G_FEWEST_VALUES G_MOST_VALUES G_MOST_BITS d_are_bits)
  have d_are_words : Def g 3 "are_words" [] f_are_words := ⟨_, _, _, [], [], h_are_words, PySem.W.mg_of X G aare_words, kare_words, bi_are_words, .nil, fun w => by simp only [Reps]⟩
  have S_CodeX_initX : FnScope n_CodeX_initX ["self", "words"] (defScope t_CodeX_initX) := ⟨rfl, rfl, rfl, by decide +kernel, rfl, by decide +kernel, by decide +kernel⟩
  have d_CodeX_initX : Ini g 4 0 f_CodeX_initX := ⟨f_CodeX_initX_, ⟨mkC0, aCodeX_initX, iCodeX_initX, kcC0⟩, init_star (g := g) (c := 0) F_CodeX_initX S_CodeX_initX (by decide) rfl (fun _ _ _ _ _ _ us rest hl => match us, rest, hl with | [_], [], _ => rfl | [_], _ :: _, _ => rfl) fx (b_CodeX_initX (g := g)  d_are_words), rfl⟩
  have S_first_ring : FnScope n_first_ring ["values", "bits", "fits"] (defScope t_first_ring) := ⟨rfl, rfl, rfl, by decide +kernel, rfl, by decide +kernel, by decide +kernel⟩
  have bi_first_ring := F_first_ring.binds (ps := ["values", "bits", "fits"]) fun _ _ _ _ _ _ us hl => match us, hl with | [_, _, _], _ => rfl
  have h_first_ring := def_ok (g := g) (n := 3) F_first_ring S_first_ring rfl (by decide) fx (b_first_ring (g := g) C_Code d_next_words d_CodeX_initX d_can_close lamsF)
  have d_first_ring : Def g 6 "first_ring" [] f_first_ring := ⟨_, _, _, [], [], h_first_ring, PySem.W.mg_of X G afirst_ring, kfirst_ring, bi_first_ring, .nil, fun w => by simp only [Reps]⟩
  have S_made_single : FnScope n_made_single ["values", "bits"] (defScope t_made_single) := ⟨rfl, rfl, rfl, by decide +kernel, rfl, by decide +kernel, by decide +kernel⟩
  have bi_made_single := F_made_single.binds (ps := ["values", "bits"]) fun _ _ _ _ _ _ us hl => match us, hl with | [_, _], _ => rfl
  have h_made_single := def_okLC (g := g) (n := 2) F_made_single S_made_single rfl (by decide) fx emade_single tbmade_single memmade_single unimade_single (b_made_single (g := g) G_MANY_WORDS d_first_ring rfl memmade_single)
  have d_made_single : Def g 7 "made_single" [] f_made_single := ⟨_, _, _, [], [], h_made_single, PySem.W.mg_of X G amade_single, kmade_single, bi_made_single, .nil, fun w => by simp only [Reps]⟩
  have S_single : FnScope n_single ["values", "bits"] (defScope t_single) := ⟨rfl, rfl, rfl, by decide +kernel, rfl, by decide +kernel, by decide +kernel⟩
  have bi_single := F_single.binds (ps := ["values", "bits"]) fun _ _ _ _ _ _ us hl => match us, hl with | [_, _], _ => rfl
  have h_single := def_ok (g := g) (n := 2) F_single S_single rfl (by decide) fx (b_single (g := g)  d_need_sizes d_made_single)
  have d_single : Def g 8 "single" [] f_single := ⟨_, _, _, [], [], h_single, PySem.W.mg_of X G asingle, ksingle, bi_single, .nil, fun w => by simp only [Reps]⟩
  have S_Code_words : FnScope n_Code_words ["self"] (defScope t_Code_words) := ⟨rfl, rfl, rfl, by decide +kernel, rfl, by decide +kernel, by decide +kernel⟩
  have bi_Code_words := F_Code_words.binds (ps := ["self"]) fun _ _ _ _ _ _ us hl => match us, hl with | [_], _ => rfl
  have h_Code_words := def_ok (g := g) (n := 1) F_Code_words S_Code_words rfl (by decide) fx (b_Code_words (g := g) )
  have d_Code_words : Prp g 1 0 "words" f_Code_words := ⟨pCode_words, _, _, _, h_Code_words, ⟨aCode_words, gCode_words, tCode_words, ⟨_, rCode_words⟩⟩, bi_Code_words, rfl⟩
  have S_law : FnScope n_law ["_law_script"] (defScope t_law) := ⟨rfl, rfl, rfl, by decide +kernel, rfl, by decide +kernel, by decide +kernel⟩
  have bi_law := F_law.binds (ps := ["_law_script"]) fun _ _ _ _ _ _ us hl => match us, hl with | [_], _ => rfl
  have h_law := def_ok (g := g) (n := 1) F_law S_law rfl (by decide) fx (b_law (g := g)  d__law_pen d__law_cell_at d__law_mixed d__law_all d__law_due d_single d_Code_words)
  exact h_law.toG

theorem walk {l : PySem.W.OpenLaw} {q : Program} {loose : List Str} {XP : (Str → Option Value) → Heap → Prop} {YP : World → Heap → Prop} {d : DefRec} {K : Params → PySem.W.Frag} (hn : l.most = some 63) (hdf : d.params.defaults = []) (hrec : ∀ y ∈ (["made_single"] : List Str), ((recsOf q).any fun e => e.name == y) = true)
    (hY : ∀ (w : World) (h : Heap), YP w h → (K w.params).In h)
    (F : ∀ (w : World) (mg : Str → Option Value) (fa : Addr) (h : Heap), (K w.params).In h → h.Ns mainGlobals mg → mg d.name = some (.ref fa) → (∀ y ∈ (["made_single"] : List Str), ∀ fy, mg y = some (.ref fy) → LamX.OwnTab (K w.params) fy h) →
      ∃ (fd : FuncData) (cs : List (Addr × Addr)), (∀ p ∈ cs, h.get? p.2 = some { cls := .none, data := .fields #[] }) ∧ (∀ p ∈ cs, (K w.params).lookup p.2 = Option.none) ∧ (∀ p ∈ cs, PySem.W.CodeHd h p.1 p.2) ∧ (∀ (s : Shared) (u : Value), BindsTo s fd ⟨[u], []⟩ [("_law_script", u)]) ∧
        ∀ base : Heap, (K w.params).In base → base.Ns mainGlobals mg → (∀ p ∈ cs, LamX.TabB base mg p.1 p.2) → ∃ g : Gs, g.K = K w.params ∧ (∀ p ∈ g.tabs, p.1 ∈ cs.map (·.2)) ∧ FnG l.prog w (K w.params) mg base (L2N.CX l.prog w) 9 fa fd ["_law_script"] (spF g f_law))
    (law_true : ∀ ns : List Int, ns.length ≤ 63 → ∃ B, f_law [.scr (ns.map D.int)] [] = .ok (.bool true) B) : PySem.W.WalkO q loose XP YP l.row.toRowW d [] (fun f vs => PySem.call f vs) := by
  refine Hf.walkT (k := 9) (x := "_law_script") (CX := fun w => L2N.CX l.prog w) ["made_single"] hn hdf ⟨rfl, by decide, by decide⟩ hrec hY (fun w mg fa h a1 a2 a3 a4 => ?_) ?_
  · obtain ⟨fd, cs, t1, t2, t3, b1, b2⟩ := F w mg fa h a1 a2 a3 a4
    refine ⟨fd, cs, t1, t2, t3, b1, fun base c1 c2 c3 => ?_⟩
    obtain ⟨g, hg, ht, hF⟩ := b2 base c1 c2 c3
    exact ⟨g, hg, top_promiseT ht hF law_true⟩
  · rintro w H s e s' ⟨_, _, _, _, _, _, _, _, _, _, _, _, z⟩
    exact z.elim

end Hk

set_option Elab.async false
set_option linter.all false
set_option maxRecDepth 100000
namespace Hk
open PySem PySem.Spec PyProof.Rows L2 Hf

/-! ### the pen -/
structure PenOk (B : Bs) (n : Nat) : Prop where
  at_ : ∃ a b c : Int, B[n]? = some (.lst [.int a, .int b, .int c]) ∧ 0 ≤ b ∧ b < 2 ^ 31
structure PenStep (n : Nat) (B B' : Bs) : Prop where
  ok : PenOk B' n
  len : B'.length = B.length
  oth : ∀ m, m ≠ n → B'[m]? = B[m]?
theorem pen_set {B : Bs} {n : Nat} {a b c : Int} {d : D} (h : B[n]? = some d) (h0 : 0 ≤ b) (h1 : b < 2 ^ 31) : PenStep n B (B.set n (.lst [.int a, .int b, .int c])) := by
  have hn : n < B.length := (List.getElem?_eq_some_iff.mp h).1
  refine ⟨⟨a, b, c, by simp [hn], h0, h1⟩, by simp, fun m hm => ?_⟩
  rw [List.getElem?_set_ne (by omega)]
theorem law_draw_ok {B : Bs} {n : Nat} {k : Int} (P : PenOk B n) (h0 : 0 < k) (h1 : k < 1073741824) :
    ∃ (v : Int) (B' : Bs), f__law_draw [.box n, .int k] B = .ok (.int v) B' ∧ 0 ≤ v ∧ v < k ∧ PenStep n B B' := by
  obtain ⟨⟨a, b, c, hB, hb0, hb1⟩⟩ := P
  have hn : n < B.length := (List.getElem?_eq_some_iff.mp hB).1
  by_cases ha : 0 < a
  · refine ⟨a % k, _, ?_, Int.emod_nonneg _ (by omega), Int.emod_lt_of_pos _ h0, pen_set (a := a / k) (b := b) (c := c) hB hb0 hb1⟩
    simp [f__law_draw, m__law_draw, fIx, hB, atI, ha, z_fMod _ _ _ h0, z_fDiv _ _ _ h0 h1, mSetIx, ixN]
  · have e1 : ∀ x : Int, 0 ≤ x % 2147483647 ∧ x % 2147483647 < 2147483647 := fun x => ⟨Int.emod_nonneg _ (by decide), Int.emod_lt_of_pos _ (by decide)⟩
    have e2 : ∀ x : Int, 0 ≤ x % 2147483629 ∧ x % 2147483629 < 2147483629 := fun x => ⟨Int.emod_nonneg _ (by decide), Int.emod_lt_of_pos _ (by decide)⟩
    have w1 : wideB b = true := wide_of (by omega) (by omega)
    have w2 : ∀ x : Int, wideB (x % 2147483647) = true := fun x => wide_of (by have := e1 x; omega) (by have := e1 x; omega)
    have w3 : ∀ x : Int, wideB (x % 2147483629) = true := fun x => wide_of (by have := e2 x; omega) (by have := e2 x; omega)
    have w4 : wideB 1009 = true := by decide
    have w5 : wideB 69621 = true := by decide
    have w6 : wideB 40014 = true := by decide
    obtain ⟨r, hr⟩ : ∃ r, r = (b * 48271 + 1009 * (c + 1) + 7) % 2147483647 := ⟨_, rfl⟩
    obtain ⟨p, hp⟩ : ∃ p, p = (r * r + 69621 * r + 11) % 2147483629 := ⟨_, rfl⟩
    have wr : wideB r = true := hr ▸ w2 _
    have wp : wideB p = true := hp ▸ w3 _
    refine ⟨(p * p + 40014 * p) % 2147483587 / 16 % k, B.set n (.lst [.int a, .int r, .int (c + 1)]), ?_, Int.emod_nonneg _ (by omega), Int.emod_lt_of_pos _ h0, pen_set hB (hr ▸ (e1 _).1) (by have := e1 (b * 48271 + 1009 * (c + 1) + 7); omega)⟩
    have hs : ∀ x, (B.set n x)[n]? = some x := fun x => by simp [hn]
    clear hn
    simp [f__law_draw, m__law_draw, fIx, hB, atI, ha, mSetIx, ixN, hs, z_fMulI, w1, w4, w5, w6, ← hr, wr, ← hp, wp, z_fMod, z_fDiv, h0]
theorem pick_perm {α : Type} : (l : List α) → (i : Nat) → (h : i < l.length) → (l[i] :: l.eraseIdx i).Perm l
  | x :: l, 0, _ => by simp
  | x :: l, i + 1, h => by
    simp only [List.getElem_cons_succ, List.eraseIdx_cons_succ]
    exact (List.Perm.swap _ _ _).trans ((pick_perm l i (by simpa using h)).cons x)
/-- what a run keeps that only draws and makes new boxes -/
structure PenKeep (n : Nat) (B B' : Bs) : Prop where
  ok : PenOk B' n
  len : B.length ≤ B'.length
theorem pen_lt {B : Bs} {n : Nat} (P : PenOk B n) : n < B.length := by
  obtain ⟨⟨a, b, c, h, _⟩⟩ := P
  exact (List.getElem?_eq_some_iff.mp h).1
theorem law_mixed_ok {B : Bs} {n : Nat} {ds : List D} (P : PenOk B n) (hl : ds.length ≤ 1000000) :
    ∃ es B', f__law_mixed [.box n, .lst ds] B = .ok (.lst es) B' ∧ es.Perm ds ∧ PenOk B' n := by
  have hn := pen_lt P
  obtain ⟨m, hm⟩ : ∃ m, m = B.length := ⟨_, rfl⟩
  have hP : PenOk (B ++ [.lst ds]) n := by
    obtain ⟨⟨a, b, c, h, h1⟩⟩ := P
    exact ⟨⟨a, b, c, by rw [List.getElem?_append_left hn]; exact h, h1⟩⟩
  obtain ⟨es, B', h1, ⟨h2, rest, h3, h4⟩, h5⟩ := mLc_inv (vs := [3]) (i := 3) (mi := mItems (mVar 1)) (me := mPopB 2 (mCall f__law_draw [] (mCons (mVar 0) (mCons (m1 fLen (mVar 2)) mNil))))
    (σ := [some (false, .box n), some (false, .lst ds), some (false, .box m), none]) (B := B ++ [.lst ds]) (ds := ds) (fun B acc => PenOk B n ∧ ∃ rest, B[m]? = some (.lst rest) ∧ (acc ++ rest).Perm ds)
    (by simp) (Nat.le_trans hl size_big) ⟨hP, ds, by simp [hm], by simp⟩ (by
      rintro d hd B acc hlt ⟨P, rest, hr, hp⟩
      have hle := hp.length_eq
      simp at hle
      obtain ⟨v, B1, e1, h0, h1, S⟩ := law_draw_ok (k := (rest.length : Int)) P (by omega) (by omega)
      have hr1 : B1[m]? = some (.lst rest) := by rw [S.oth m (by omega)]; exact hr
      have hv : v.toNat < rest.length := by omega
      refine ⟨rest[v.toNat], B1.set m (.lst (rest.eraseIdx v.toNat)), ?_, ?_, rest.eraseIdx v.toNat, ?_, ?_⟩
      · simp [mPopB, wipeI, hr, fLen, e1, hr1, h0, hv]
        omega
      · obtain ⟨⟨a, b, c, h, h1⟩⟩ := S.ok
        exact ⟨⟨a, b, c, by rw [List.getElem?_set_ne (by omega)]; exact h, h1⟩⟩
      · simp [(List.getElem?_eq_some_iff.mp hr1).1]
      · refine List.Perm.trans ?_ hp
        simp only [List.append_assoc]
        exact List.Perm.append_left _ (pick_perm rest _ hv))
  have h6 : rest = [] := by
    have := h4.length_eq
    simp [h5] at this
    exact this
  subst h6
  refine ⟨es, B', ?_, by simpa using h4, h2⟩
  simp [f__law_mixed, m__law_mixed, mBox, fLstO, ← hm, h1]

/-! ### words -/
abbrev wD (w : List Int) : D := .tup (w.map D.int)
abbrev wsD (ws : List (List Int)) : D := .tup (ws.map wD)
structure OkW (m : Nat) (ws : List (List Int)) : Prop where
  n2 : 2 ≤ ws.length
  n16 : ws.length ≤ 16
  m1 : 1 ≤ m
  m5 : m ≤ 5
  wid : ∀ w ∈ ws, w.length = m
  bits : ∀ w ∈ ws, ∀ b ∈ w, b = 0 ∨ b = 1
  nd : ws.Nodup
theorem shp_int (i : Int) : shp (.int i) = true := by simp [shp, SeqAt.shaped, toPy, PyData.canLay0, PyData.depth]
@[simp] theorem fEq_int (i j : Int) (B : Bs) : fEq (.int i) (.int j) B = .ok (.bool (i == j)) B := by simp [fEq, shp_int, eqD, toPy, PyData.eqv]
theorem shp_str {x : Str} (h : PyData.strOk x = true) : shp (.str x) = true := by simp [shp, SeqAt.shaped, toPy, PyData.canLay0, PyData.depth, h]
theorem fNe_str {x y : Str} (hx : PyData.strOk x = true) (hy : PyData.strOk y = true) (B : Bs) : fNe (.str x) (.str y) B = .ok (.bool (!(x == y))) B := by simp [fNe, shp_str hx, shp_str hy, eqD, toPy, PyData.eqv]
theorem fEq_str {x y : Str} (hx : PyData.strOk x = true) (hy : PyData.strOk y = true) (B : Bs) : fEq (.str x) (.str y) B = .ok (.bool (x == y)) B := by simp [fEq, shp_str hx, shp_str hy, eqD, toPy, PyData.eqv]
theorem is_between_ok (v lo hi : Int) (B : Bs) : f_is_between [.int v, .int lo, .int hi] B = .ok (.bool (decide (lo ≤ v) && decide (v ≤ hi))) B := by
  by_cases h : lo ≤ v <;> simp [f_is_between, m_is_between, h]
theorem boolsA_map (bs : List Bool) : boolsA (bs.map D.bool) = some bs := by
  induction bs with
  | nil => rfl
  | cons b bs ih => simp [boolsA, boolA, ih]
theorem intsA_map (bs : List Int) : intsA (bs.map D.int) = some bs := by
  induction bs with
  | nil => rfl
  | cons b bs ih => simp [intsA, intA, ih]
theorem tupsA_map (bs : List (List Int)) : tupsA (bs.map wD) = some bs := by
  induction bs with
  | nil => rfl
  | cons b bs ih => simp [tupsA, tupA, ih, intsA_map]
theorem fAll_true {α : Type} (xs : List α) (B : Bs) : fAll (.lst (xs.map fun _ => D.bool true)) B = .ok (.bool true) B := by
  have e : (xs.map fun _ => D.bool true) = (xs.map fun _ => true).map D.bool := by simp
  rw [fAll, e, boolsA_map]; simp
theorem are_bits_ok {w : List Int} (h : ∀ b ∈ w, b = 0 ∨ b = 1) (hl : w.length ≤ 1000000) (B : Bs) : f_are_bits [wD w] B = .ok (.bool true) B := by
  have := mLc_map (vs := [1]) (i := 1) (mi := mItems (mVar 0)) (me := mCall f_is_between [] (mCons (mVar 1) (mCons (mC (.int 0)) (mCons (mC (.int 1)) mNil)))) (σ := [some (false, wD w), none]) (B := B) (ds := w.map D.int) D.int (fun _ => D.bool true) w
    (by simp) rfl (Nat.le_trans hl size_big) (fun b hb => by
      have : (decide (0 ≤ b) && decide (b ≤ 1)) = true := by rcases h b hb with rfl | rfl <;> decide
      simp [wipeI, is_between_ok, this])
  simp [f_are_bits, m_are_bits, this, fAll_true]
theorem dd_nodup {α : Type} [DecidableEq α] : {l : List α} → l.Nodup → dd l = l
  | [], _ => rfl
  | x :: l, h => by
    have h' := List.nodup_cons.mp h
    simp [dd, h'.1, dd_nodup h'.2]
theorem are_words_ok {m : Nat} {ws : List (List Int)} (W : OkW m ws) (B : Bs) : f_are_words [wsD ws] B = .ok (.bool true) B := by
  have hne : ∃ w r, ws = w :: r := by cases ws with
    | nil => have := W.n2; simp at this
    | cons w r => exact ⟨w, r, rfl⟩
  obtain ⟨w0, r, hw⟩ := hne
  have e0 : w0.length = m := W.wid w0 (by simp [hw])
  have hsz : ws.length ≤ sizeLine := Nat.le_trans (Nat.le_trans W.n16 (by decide)) size_big
  have a1 := mLc_map (vs := [1]) (i := 1) (mi := mItems (mVar 0)) (me := mCall f_are_bits [] (mCons (mVar 1) mNil)) (σ := [some (false, wsD ws), none]) (B := B) (ds := ws.map wD) wD (fun _ => D.bool true) ws
    (by simp) rfl hsz (fun w h => by
      simp [wipeI, are_bits_ok (W.bits w h) (by have := W.wid w h; have := W.m5; omega)])
  have hix : ∀ B, fIx (wsD ws) (.int 0) B = .ok (wD w0) B := fun B => by simp [fIx, atI, ixN, hw]
  have a2 := mLc_map (vs := [1]) (i := 1) (mi := mItems (mVar 0)) (me := mBin fEq (m1 fLen (mVar 1)) (m1 fLen (mBin fIx (mVar 0) (mC (.int 0))))) (σ := [some (false, wsD ws), none]) (B := B) (ds := ws.map wD) wD (fun _ => D.bool true) ws
    (by simp) rfl hsz (fun w h => by
      simp [wipeI, hix, W.wid w h, e0])
  have h2 := W.n2; have h16 := W.n16; have h1 := W.m1; have h5 := W.m5
  have g1 : (2 : Int) ≤ (ws.length : Int) := by omega
  have g2 : (ws.length : Int) ≤ 16 := by omega
  have g3 : (1 : Int) ≤ (m : Int) := by omega
  have g4 : (m : Int) ≤ 5 := by omega
  have g5 : ws.length < 64 := by omega
  simp [f_are_words, m_are_words, a1, a2, fAll_true, hix, e0, g1, g2, g3, g4, fLenSet, tupsA_map, dd_nodup W.nd, g5]
end Hk

set_option Elab.async false
set_option linter.all false
set_option maxRecDepth 100000
namespace Hk
open PySem PySem.Spec PyProof.Rows L2 Hf

@[simp] theorem sz0 : 0 ≤ sizeLine := by decide
@[simp] theorem sz1 : 1 ≤ sizeLine := by decide
@[simp] theorem sz2 : 2 ≤ sizeLine := by decide
@[simp] theorem sz3 : 3 ≤ sizeLine := by decide
@[simp] theorem sz4 : 4 ≤ sizeLine := by decide
/-! ### what is the same of all laws: cells, a pen for each -/
theorem pen_made_ok (c : Int) (B : Bs) : ∃ B', f__law_pen [.int c] B = .ok (.box B.length) B' ∧ PenOk B' B.length := by
  have h0 := Int.emod_nonneg c (show (2147483629 : Int) ≠ 0 by decide)
  have h1 := Int.emod_lt_of_pos c (show (0 : Int) < 2147483629 by decide)
  refine ⟨B ++ [.lst [.int (if c - 10 ^ 18 > 0 then c - 10 ^ 18 else 0), .int (c % 2147483629 + 1), .int 0]], ?_, ⟨(if c - 10 ^ 18 > 0 then c - 10 ^ 18 else 0), c % 2147483629 + 1, 0, by simp, by omega, by omega⟩⟩
  have e : fPow (.int 10) (.int 18) B = .ok (.int (10 ^ 18)) B := rfl
  simp [f__law_pen, m__law_pen, e, mBox, szL, z_fMod]
theorem cell_at_ok (ns : List Int) (k : Nat) (B : Bs) : ∃ c, f__law_cell_at [.scr (ns.map D.int), .int k] B = .ok (.int c) B := by
  by_cases h : k < ns.length
  · refine ⟨ns[k], ?_⟩
    have : (k : Int) < (ns.length : Int) := by omega
    simp [f__law_cell_at, m__law_cell_at, fIx, atI, ixN, h]
  · refine ⟨0, ?_⟩
    have : ¬ (k : Int) < (ns.length : Int) := by omega
    simp [f__law_cell_at, m__law_cell_at, h]
theorem law_outer (inner : Ms) (c N : Nat) (hc : 1 ≤ c ∧ c ≤ 100) (ns : List Int)
    (h : ∀ (n k : Nat) (B : Bs) (r : Sl), r.length = N → PenOk B n → ∃ r' B', r'.length = N ∧ inner (some (false, .scr (ns.map D.int)) :: some (false, .int k) :: some (false, .box n) :: r) B = .next (some (false, .scr (ns.map D.int)) :: some (false, .int k) :: some (false, .box n) :: r') B') (r : Sl) (hr : r.length = N) (B : Bs) :
    ∃ B', (mSeq (mFor (gN 1) (mRng1 (mBin fMax2 (mC (.int 1)) (mBin fMin2 (m1 fLen (mVar 0)) (mC (.int c))))) (mSeq (mSet 2 (mCall f__law_pen [] (mCons (mCall f__law_cell_at [] (mCons (mVar 0) (mCons (mVar 1) mNil))) mNil))) inner)) (mRet (mC (.bool true)))
      (some (false, .scr (ns.map D.int)) :: none :: none :: r) B) = .ret (.bool true) B' := by
  obtain ⟨K, hK⟩ : ∃ K : Nat, (if (if (c : Int) < (ns.length : Int) then (c : Int) else (ns.length : Int)) > 1 then (if (c : Int) < (ns.length : Int) then (c : Int) else (ns.length : Int)) else 1) = (K : Int) ∧ K ≤ 100 :=
    ⟨(if (if (c : Int) < (ns.length : Int) then (c : Int) else (ns.length : Int)) > 1 then (if (c : Int) < (ns.length : Int) then (c : Int) else (ns.length : Int)) else 1).toNat, by split <;> split <;> omega, by split <;> split <;> omega⟩
  obtain ⟨σ', B', e, a, b, r', _, rfl⟩ := forL_inv (t := gN 1) (b := mSeq (mSet 2 (mCall f__law_pen [] (mCons (mCall f__law_cell_at [] (mCons (mVar 0) (mCons (mVar 1) mNil))) mNil))) inner)
    (fun _ σ _ => ∃ a b r, r.length = N ∧ σ = some (false, .scr (ns.map D.int)) :: a :: b :: r) (rngD 0 K) 0 (some (false, .scr (ns.map D.int)) :: none :: none :: r) B (by
      rintro i d σ B hd ⟨a, b, r, hr, rfl⟩
      obtain ⟨rfl, _⟩ := rngD_get hd
      obtain ⟨x, e1⟩ := cell_at_ok ns i B
      obtain ⟨B1, e2, P1⟩ := pen_made_ok x B
      obtain ⟨r', B2, hr', e3⟩ := h B.length i B1 r hr P1
      refine ⟨_, rfl, some (false, .scr (ns.map D.int)) :: some (false, .int i) :: some (false, .box B.length) :: r', B2, ?_, _, _, r', hr', rfl⟩
      simp [e1, e2]
      exact e3) ⟨none, none, r, hr, rfl⟩
  have r4 : rngB (K : Int) = true := by simp [rngB]; omega
  refine ⟨B', ?_⟩
  have s1 : mRng1 (mBin fMax2 (mC (.int 1)) (mBin fMin2 (m1 fLen (mVar 0)) (mC (.int c)))) (some (false, .scr (ns.map D.int)) :: none :: none :: r) B = .ok (rngD 0 K) B := by
    have l : ((ns.map D.int).length : Int) = (ns.length : Int) := by simp
    simp only [z_mRng1, z_mBin, z_mC, z_m1, z_mVar, List.getElem?_cons_zero, z_bind_ok, z_lenS, z_fMin2, z_fMax2, z_asI, l, hK.1, r4, if_true, Int.toNat_natCast]
  simp only [z_mSeq, mFor, s1, z_st_ok, e, z_seq_next, z_mRet, z_mC]
end Hk

set_option Elab.async false
set_option linter.all false
set_option maxRecDepth 100000
namespace Hk
open PySem PySem.Spec PyProof.Rows L2 Hf
/-! ### each number of values and of bits: what is told, what is due (written by gen30.py) -/
def valR : Rs D → D
  | .ok a _ => a
  | _ => .none
def tst : Et := (mOrT (mCmpT fNe (mBin fIs (mVar 7) (mC .none)) (mBin fIs (mVar 5) (mC .none))) (mAndT (mCmpT fIsNot (mVar 7) (mC .none)) (mCmpT fNe (mPrp 0 f_Code_words (mVar 7)) (mVar 5))))
/-- what is told is what is due -/
structure PairOk (m w : Int) : Prop where
  p : ∀ B, f_single [.int m, .int w] B = .ok (valR (f_single [.int m, .int w] [])) B
  d : ∀ B, f__law_due [.int m, .int w] B = .ok (valR (f__law_due [.int m, .int w] [])) B
  t : ∀ a0 a1 a2 a3 a4 a6 B, tst [a0, a1, a2, a3, a4, some (false, valR (f__law_due [.int m, .int w] [])), a6, some (false, valR (f_single [.int m, .int w] []))] B = .ok false B
theorem pr_2_1 : PairOk 2 1 := ⟨fun B => by kernel_rfl, fun B => by kernel_rfl, fun a0 a1 a2 a3 a4 a6 B => by kernel_rfl⟩
theorem pr_3_1 : PairOk 3 1 := ⟨fun B => by kernel_rfl, fun B => by kernel_rfl, fun a0 a1 a2 a3 a4 a6 B => by kernel_rfl⟩
theorem pr_4_1 : PairOk 4 1 := ⟨fun B => by kernel_rfl, fun B => by kernel_rfl, fun a0 a1 a2 a3 a4 a6 B => by kernel_rfl⟩
theorem pr_5_1 : PairOk 5 1 := ⟨fun B => by kernel_rfl, fun B => by kernel_rfl, fun a0 a1 a2 a3 a4 a6 B => by kernel_rfl⟩
theorem pr_6_1 : PairOk 6 1 := ⟨fun B => by kernel_rfl, fun B => by kernel_rfl, fun a0 a1 a2 a3 a4 a6 B => by kernel_rfl⟩
theorem pr_7_1 : PairOk 7 1 := ⟨fun B => by kernel_rfl, fun B => by kernel_rfl, fun a0 a1 a2 a3 a4 a6 B => by kernel_rfl⟩
theorem pr_8_1 : PairOk 8 1 := ⟨fun B => by kernel_rfl, fun B => by kernel_rfl, fun a0 a1 a2 a3 a4 a6 B => by kernel_rfl⟩
theorem pr_9_1 : PairOk 9 1 := ⟨fun B => by kernel_rfl, fun B => by kernel_rfl, fun a0 a1 a2 a3 a4 a6 B => by kernel_rfl⟩
theorem pr_10_1 : PairOk 10 1 := ⟨fun B => by kernel_rfl, fun B => by kernel_rfl, fun a0 a1 a2 a3 a4 a6 B => by kernel_rfl⟩
theorem pr_11_1 : PairOk 11 1 := ⟨fun B => by kernel_rfl, fun B => by kernel_rfl, fun a0 a1 a2 a3 a4 a6 B => by kernel_rfl⟩
theorem pr_12_1 : PairOk 12 1 := ⟨fun B => by kernel_rfl, fun B => by kernel_rfl, fun a0 a1 a2 a3 a4 a6 B => by kernel_rfl⟩
theorem pr_13_1 : PairOk 13 1 := ⟨fun B => by kernel_rfl, fun B => by kernel_rfl, fun a0 a1 a2 a3 a4 a6 B => by kernel_rfl⟩
theorem pr_14_1 : PairOk 14 1 := ⟨fun B => by kernel_rfl, fun B => by kernel_rfl, fun a0 a1 a2 a3 a4 a6 B => by kernel_rfl⟩
theorem pr_15_1 : PairOk 15 1 := ⟨fun B => by kernel_rfl, fun B => by kernel_rfl, fun a0 a1 a2 a3 a4 a6 B => by kernel_rfl⟩
theorem pr_16_1 : PairOk 16 1 := ⟨fun B => by kernel_rfl, fun B => by kernel_rfl, fun a0 a1 a2 a3 a4 a6 B => by kernel_rfl⟩
theorem pr_2_2 : PairOk 2 2 := ⟨fun B => by kernel_rfl, fun B => by kernel_rfl, fun a0 a1 a2 a3 a4 a6 B => by kernel_rfl⟩
theorem pr_3_2 : PairOk 3 2 := ⟨fun B => by kernel_rfl, fun B => by kernel_rfl, fun a0 a1 a2 a3 a4 a6 B => by kernel_rfl⟩
theorem pr_4_2 : PairOk 4 2 := ⟨fun B => by kernel_rfl, fun B => by kernel_rfl, fun a0 a1 a2 a3 a4 a6 B => by kernel_rfl⟩
theorem pr_5_2 : PairOk 5 2 := ⟨fun B => by kernel_rfl, fun B => by kernel_rfl, fun a0 a1 a2 a3 a4 a6 B => by kernel_rfl⟩
theorem pr_6_2 : PairOk 6 2 := ⟨fun B => by kernel_rfl, fun B => by kernel_rfl, fun a0 a1 a2 a3 a4 a6 B => by kernel_rfl⟩
theorem pr_7_2 : PairOk 7 2 := ⟨fun B => by kernel_rfl, fun B => by kernel_rfl, fun a0 a1 a2 a3 a4 a6 B => by kernel_rfl⟩
theorem pr_8_2 : PairOk 8 2 := ⟨fun B => by kernel_rfl, fun B => by kernel_rfl, fun a0 a1 a2 a3 a4 a6 B => by kernel_rfl⟩
theorem pr_9_2 : PairOk 9 2 := ⟨fun B => by kernel_rfl, fun B => by kernel_rfl, fun a0 a1 a2 a3 a4 a6 B => by kernel_rfl⟩
theorem pr_10_2 : PairOk 10 2 := ⟨fun B => by kernel_rfl, fun B => by kernel_rfl, fun a0 a1 a2 a3 a4 a6 B => by kernel_rfl⟩
theorem pr_11_2 : PairOk 11 2 := ⟨fun B => by kernel_rfl, fun B => by kernel_rfl, fun a0 a1 a2 a3 a4 a6 B => by kernel_rfl⟩
theorem pr_12_2 : PairOk 12 2 := ⟨fun B => by kernel_rfl, fun B => by kernel_rfl, fun a0 a1 a2 a3 a4 a6 B => by kernel_rfl⟩
theorem pr_13_2 : PairOk 13 2 := ⟨fun B => by kernel_rfl, fun B => by kernel_rfl, fun a0 a1 a2 a3 a4 a6 B => by kernel_rfl⟩
theorem pr_14_2 : PairOk 14 2 := ⟨fun B => by kernel_rfl, fun B => by kernel_rfl, fun a0 a1 a2 a3 a4 a6 B => by kernel_rfl⟩
theorem pr_15_2 : PairOk 15 2 := ⟨fun B => by kernel_rfl, fun B => by kernel_rfl, fun a0 a1 a2 a3 a4 a6 B => by kernel_rfl⟩
theorem pr_16_2 : PairOk 16 2 := ⟨fun B => by kernel_rfl, fun B => by kernel_rfl, fun a0 a1 a2 a3 a4 a6 B => by kernel_rfl⟩
theorem pr_2_3 : PairOk 2 3 := ⟨fun B => by kernel_rfl, fun B => by kernel_rfl, fun a0 a1 a2 a3 a4 a6 B => by kernel_rfl⟩
theorem pr_3_3 : PairOk 3 3 := ⟨fun B => by kernel_rfl, fun B => by kernel_rfl, fun a0 a1 a2 a3 a4 a6 B => by kernel_rfl⟩
theorem pr_4_3 : PairOk 4 3 := ⟨fun B => by kernel_rfl, fun B => by kernel_rfl, fun a0 a1 a2 a3 a4 a6 B => by kernel_rfl⟩
theorem pr_5_3 : PairOk 5 3 := ⟨fun B => by kernel_rfl, fun B => by kernel_rfl, fun a0 a1 a2 a3 a4 a6 B => by kernel_rfl⟩
theorem pr_6_3 : PairOk 6 3 := ⟨fun B => by kernel_rfl, fun B => by kernel_rfl, fun a0 a1 a2 a3 a4 a6 B => by kernel_rfl⟩
theorem pr_7_3 : PairOk 7 3 := ⟨fun B => by kernel_rfl, fun B => by kernel_rfl, fun a0 a1 a2 a3 a4 a6 B => by kernel_rfl⟩
theorem pr_8_3 : PairOk 8 3 := ⟨fun B => by kernel_rfl, fun B => by kernel_rfl, fun a0 a1 a2 a3 a4 a6 B => by kernel_rfl⟩
theorem pr_9_3 : PairOk 9 3 := ⟨fun B => by kernel_rfl, fun B => by kernel_rfl, fun a0 a1 a2 a3 a4 a6 B => by kernel_rfl⟩
theorem pr_10_3 : PairOk 10 3 := ⟨fun B => by kernel_rfl, fun B => by kernel_rfl, fun a0 a1 a2 a3 a4 a6 B => by kernel_rfl⟩
theorem pr_11_3 : PairOk 11 3 := ⟨fun B => by kernel_rfl, fun B => by kernel_rfl, fun a0 a1 a2 a3 a4 a6 B => by kernel_rfl⟩
theorem pr_12_3 : PairOk 12 3 := ⟨fun B => by kernel_rfl, fun B => by kernel_rfl, fun a0 a1 a2 a3 a4 a6 B => by kernel_rfl⟩
theorem pr_13_3 : PairOk 13 3 := ⟨fun B => by kernel_rfl, fun B => by kernel_rfl, fun a0 a1 a2 a3 a4 a6 B => by kernel_rfl⟩
theorem pr_14_3 : PairOk 14 3 := ⟨fun B => by kernel_rfl, fun B => by kernel_rfl, fun a0 a1 a2 a3 a4 a6 B => by kernel_rfl⟩
theorem pr_15_3 : PairOk 15 3 := ⟨fun B => by kernel_rfl, fun B => by kernel_rfl, fun a0 a1 a2 a3 a4 a6 B => by kernel_rfl⟩
theorem pr_16_3 : PairOk 16 3 := ⟨fun B => by kernel_rfl, fun B => by kernel_rfl, fun a0 a1 a2 a3 a4 a6 B => by kernel_rfl⟩
theorem pr_2_4 : PairOk 2 4 := ⟨fun B => by kernel_rfl, fun B => by kernel_rfl, fun a0 a1 a2 a3 a4 a6 B => by kernel_rfl⟩
theorem pr_3_4 : PairOk 3 4 := ⟨fun B => by kernel_rfl, fun B => by kernel_rfl, fun a0 a1 a2 a3 a4 a6 B => by kernel_rfl⟩
theorem pr_4_4 : PairOk 4 4 := ⟨fun B => by kernel_rfl, fun B => by kernel_rfl, fun a0 a1 a2 a3 a4 a6 B => by kernel_rfl⟩
theorem pr_5_4 : PairOk 5 4 := ⟨fun B => by kernel_rfl, fun B => by kernel_rfl, fun a0 a1 a2 a3 a4 a6 B => by kernel_rfl⟩
theorem pr_6_4 : PairOk 6 4 := ⟨fun B => by kernel_rfl, fun B => by kernel_rfl, fun a0 a1 a2 a3 a4 a6 B => by kernel_rfl⟩
theorem pr_7_4 : PairOk 7 4 := ⟨fun B => by kernel_rfl, fun B => by kernel_rfl, fun a0 a1 a2 a3 a4 a6 B => by kernel_rfl⟩
theorem pr_8_4 : PairOk 8 4 := ⟨fun B => by kernel_rfl, fun B => by kernel_rfl, fun a0 a1 a2 a3 a4 a6 B => by kernel_rfl⟩
theorem pr_9_4 : PairOk 9 4 := ⟨fun B => by kernel_rfl, fun B => by kernel_rfl, fun a0 a1 a2 a3 a4 a6 B => by kernel_rfl⟩
theorem pr_10_4 : PairOk 10 4 := ⟨fun B => by kernel_rfl, fun B => by kernel_rfl, fun a0 a1 a2 a3 a4 a6 B => by kernel_rfl⟩
theorem pr_11_4 : PairOk 11 4 := ⟨fun B => by kernel_rfl, fun B => by kernel_rfl, fun a0 a1 a2 a3 a4 a6 B => by kernel_rfl⟩
theorem pr_12_4 : PairOk 12 4 := ⟨fun B => by kernel_rfl, fun B => by kernel_rfl, fun a0 a1 a2 a3 a4 a6 B => by kernel_rfl⟩
theorem pr_13_4 : PairOk 13 4 := ⟨fun B => by kernel_rfl, fun B => by kernel_rfl, fun a0 a1 a2 a3 a4 a6 B => by kernel_rfl⟩
theorem pr_14_4 : PairOk 14 4 := ⟨fun B => by kernel_rfl, fun B => by kernel_rfl, fun a0 a1 a2 a3 a4 a6 B => by kernel_rfl⟩
theorem pr_15_4 : PairOk 15 4 := ⟨fun B => by kernel_rfl, fun B => by kernel_rfl, fun a0 a1 a2 a3 a4 a6 B => by kernel_rfl⟩
theorem pr_16_4 : PairOk 16 4 := ⟨fun B => by kernel_rfl, fun B => by kernel_rfl, fun a0 a1 a2 a3 a4 a6 B => by kernel_rfl⟩
theorem al_1 : ∀ B, (f__law_all [.int 1] B).bind fLen = .ok (.int 2) B := fun B => by kernel_rfl
theorem al_2 : ∀ B, (f__law_all [.int 2] B).bind fLen = .ok (.int 4) B := fun B => by kernel_rfl
theorem al_3 : ∀ B, (f__law_all [.int 3] B).bind fLen = .ok (.int 8) B := fun B => by kernel_rfl
theorem al_4 : ∀ B, (f__law_all [.int 4] B).bind fLen = .ok (.int 16) B := fun B => by kernel_rfl
theorem all_pairs {m w : Int} (h1 : 2 ≤ m) (h2 : m ≤ 16) (h3 : 1 ≤ w) (h4 : w ≤ 4) : PairOk m w := by
  have hw : w = 1 ∨ w = 2 ∨ w = 3 ∨ w = 4 := by omega
  have hm : m = 2 ∨ m = 3 ∨ m = 4 ∨ m = 5 ∨ m = 6 ∨ m = 7 ∨ m = 8 ∨ m = 9 ∨ m = 10 ∨ m = 11 ∨ m = 12 ∨ m = 13 ∨ m = 14 ∨ m = 15 ∨ m = 16 := by omega
  rcases hw with rfl | rfl | rfl | rfl
  · rcases hm with rfl | rfl | rfl | rfl | rfl | rfl | rfl | rfl | rfl | rfl | rfl | rfl | rfl | rfl | rfl
    · exact pr_2_1
    · exact pr_3_1
    · exact pr_4_1
    · exact pr_5_1
    · exact pr_6_1
    · exact pr_7_1
    · exact pr_8_1
    · exact pr_9_1
    · exact pr_10_1
    · exact pr_11_1
    · exact pr_12_1
    · exact pr_13_1
    · exact pr_14_1
    · exact pr_15_1
    · exact pr_16_1
  · rcases hm with rfl | rfl | rfl | rfl | rfl | rfl | rfl | rfl | rfl | rfl | rfl | rfl | rfl | rfl | rfl
    · exact pr_2_2
    · exact pr_3_2
    · exact pr_4_2
    · exact pr_5_2
    · exact pr_6_2
    · exact pr_7_2
    · exact pr_8_2
    · exact pr_9_2
    · exact pr_10_2
    · exact pr_11_2
    · exact pr_12_2
    · exact pr_13_2
    · exact pr_14_2
    · exact pr_15_2
    · exact pr_16_2
  · rcases hm with rfl | rfl | rfl | rfl | rfl | rfl | rfl | rfl | rfl | rfl | rfl | rfl | rfl | rfl | rfl
    · exact pr_2_3
    · exact pr_3_3
    · exact pr_4_3
    · exact pr_5_3
    · exact pr_6_3
    · exact pr_7_3
    · exact pr_8_3
    · exact pr_9_3
    · exact pr_10_3
    · exact pr_11_3
    · exact pr_12_3
    · exact pr_13_3
    · exact pr_14_3
    · exact pr_15_3
    · exact pr_16_3
  · rcases hm with rfl | rfl | rfl | rfl | rfl | rfl | rfl | rfl | rfl | rfl | rfl | rfl | rfl | rfl | rfl
    · exact pr_2_4
    · exact pr_3_4
    · exact pr_4_4
    · exact pr_5_4
    · exact pr_6_4
    · exact pr_7_4
    · exact pr_8_4
    · exact pr_9_4
    · exact pr_10_4
    · exact pr_11_4
    · exact pr_12_4
    · exact pr_13_4
    · exact pr_14_4
    · exact pr_15_4
    · exact pr_16_4
end Hk

set_option Elab.async false
set_option linter.all false
set_option maxRecDepth 100000
namespace Hk
open PySem PySem.Spec PyProof.Rows L2 Hf

theorem add_lst3 {a b : List D} (h : a.length + b.length ≤ 1000000) (B : Bs) : fAdd (.lst a) (.lst b) B = .ok (.lst (a ++ b)) B := by
  have := size_big
  rw [fAdd, if_pos (by omega)]
def mTurn : Ms := mSeq (mSet 7 (mCall f_single [] (mCons (mVar 4) (mCons (mVar 3) mNil)))) (mIf tst (mRet (mC (.bool false))) mSkip)
def mMany : Ms := mSeq (mSet 5 (mIte (mCmpT fLt (mVar 4) (mC (.int 17))) (mCall f__law_due [] (mCons (mVar 4) (mCons (mVar 3) mNil))) (mC .none)))
  (mFor (gN 6) (mRng1 (mBin fMul (mC (.int 2)) (m1 fInt (mBin fLt (mVar 4) (mC (.int 17)))))) mTurn)
def iMany : Ei := mItems (mBin fAdd (mSl01 (mCall f__law_mixed [] (mCons (mVar 2) (mCons (mBin (fRg2 D.lst) (mC (.int 2)) (mC (.int 17))) mNil))) (mC (.int 5))) (mLst (mCons (m1 fLen (mCall f__law_all [] (mCons (mVar 3) mNil))) (mCons (mBin fAdd (m1 fLen (mCall f__law_all [] (mCons (mVar 3) mNil))) (mC (.int 2))) mNil))))
theorem law30_eq : m_law = mSeq (mFor (gN 1) (mRng1 (mBin fMax2 (mC (.int 1)) (mBin fMin2 (m1 fLen (mVar 0)) (mC (.int 3))))) (mSeq (mSet 2 (mCall f__law_pen [] (mCons (mCall f__law_cell_at [] (mCons (mVar 0) (mCons (mVar 1) mNil))) mNil)))
  (mFor (gN 3) (mRng2 (mC (.int 1)) (mC (.int 5))) (mFor (gN 4) iMany mMany)))) (mRet (mC (.bool true))) := rfl
theorem turn30_ok {m w : Int} (P : PairOk m w) (a0 a1 a2 a6 a7 : Option (Bool × D)) (B : Bs) :
    mTurn [a0, a1, a2, some (false, .int w), some (false, .int m), some (false, valR (f__law_due [.int m, .int w] [])), a6, a7] B = .next [a0, a1, a2, some (false, .int w), some (false, .int m), some (false, valR (f__law_due [.int m, .int w] [])), a6, some (false, valR (f_single [.int m, .int w] []))] B := by
  have p := P.p B
  have t := P.t a0 a1 a2 (some (false, .int w)) (some (false, .int m)) a6 B
  unfold mTurn
  generalize valR (f_single [.int m, .int w] []) = S at p t ⊢
  generalize valR (f__law_due [.int m, .int w] []) = U at t ⊢
  generalize tst = T at t ⊢
  simp [p, t]
theorem many30_ok {m w : Int} (h1 : 2 ≤ m) (h2 : m ≤ 16 ∨ 17 ≤ m) (h3 : 1 ≤ w) (h4 : w ≤ 4) (a0 a1 a2 a5 a6 a7 : Option (Bool × D)) (B : Bs) :
    ∃ b5 b6 b7, mMany [a0, a1, a2, some (false, .int w), some (false, .int m), a5, a6, a7] B = .next [a0, a1, a2, some (false, .int w), some (false, .int m), b5, b6, b7] B := by
  rcases h2 with h2 | h2
  · have P := all_pairs h1 h2 h3 h4
    have lt : (m : Int) < 17 := by omega
    have d := P.d B
    obtain ⟨σ', B', e, ⟨b6, b7, rfl⟩, hB⟩ := forL_inv (t := gN 6) (b := mTurn) (fun _ σ B' => (∃ a6 a7, σ = [a0, a1, a2, some (false, .int w), some (false, .int m), some (false, valR (f__law_due [.int m, .int w] [])), a6, a7]) ∧ B' = B) (rngD 0 2) 0
      [a0, a1, a2, some (false, .int w), some (false, .int m), some (false, valR (f__law_due [.int m, .int w] [])), a6, a7] B (by
        rintro i x σ B' hd ⟨⟨a6, a7, rfl⟩, rfl⟩
        exact ⟨_, rfl, _, B', turn30_ok P a0 a1 a2 (some (false, x)) a7 B', ⟨_, _, rfl⟩, rfl⟩) ⟨⟨_, _, rfl⟩, rfl⟩
    rw [hB] at e
    refine ⟨some (false, valR (f__law_due [.int m, .int w] [])), b6, b7, ?_⟩
    unfold mMany
    generalize valR (f__law_due [.int m, .int w] []) = U at d e ⊢
    generalize mTurn = T at e ⊢
    have r2 : rngB 2 = true := by decide
    simp [lt, d, mFor, fInt, r2]
    exact e
  · have lt : ¬ (m : Int) < 17 := by omega
    refine ⟨some (false, .none), a6, a7, ?_⟩
    unfold mMany
    generalize mTurn = T
    have r0 : rngB 0 = true := by decide
    simp [lt, mFor, fInt, r0]
    rfl
theorem len_all {w : Int} (h3 : 1 ≤ w) (h4 : w ≤ 4) : ∃ n : Int, 2 ≤ n ∧ n ≤ 16 ∧ ∀ B, (f__law_all [.int w] B).bind fLen = .ok (.int n) B := by
  have hw : w = 1 ∨ w = 2 ∨ w = 3 ∨ w = 4 := by omega
  rcases hw with rfl | rfl | rfl | rfl
  · exact ⟨2, by omega, by omega, al_1⟩
  · exact ⟨4, by omega, by omega, al_2⟩
  · exact ⟨8, by omega, by omega, al_3⟩
  · exact ⟨16, by omega, by omega, al_4⟩
theorem wide30_ok {w : Int} {n : Nat} (h3 : 1 ≤ w) (h4 : w ≤ 4) {B : Bs} (P : PenOk B n) (a0 a1 a4 a5 a6 a7 : Option (Bool × D)) :
    ∃ b4 b5 b6 b7 B', (mFor (gN 4) iMany mMany) [a0, a1, some (false, .box n), some (false, .int w), a4, a5, a6, a7] B = .next [a0, a1, some (false, .box n), some (false, .int w), b4, b5, b6, b7] B' ∧ PenOk B' n := by
  obtain ⟨l, l2, l16, al⟩ := len_all h3 h4
  obtain ⟨es, B1, e1, pm, P1⟩ := law_mixed_ok (ds := rngD 2 15) P (by simp [rngD])
  have rg : ∀ B, fRg2 D.lst (.int 2) (.int 17) B = .ok (.lst (rngD 2 15)) B := fun B => by
    have : rgOk 2 17 = true := by decide
    simp [fRg2, this]
  have hes : ∀ d ∈ es, ∃ m : Int, d = .int m ∧ 2 ≤ m ∧ m ≤ 16 := fun d hd => by
    have := pm.mem_iff.mp hd
    obtain ⟨i, hi⟩ := List.getElem?_of_mem this
    obtain ⟨q1, q2⟩ := rngD_get hi
    exact ⟨2 + (i : Nat), q1, by omega, by omega⟩
  have hlen : es.length = 15 := by rw [pm.length_eq]; simp [rngD]
  have it : iMany [a0, a1, some (false, .box n), some (false, .int w), a4, a5, a6, a7] B = .ok (es.take 5 ++ [.int l, .int (l + 2)]) B1 := by
    have c : cut es none (some (5 : Int)) = es.take 5 := by
      unfold cut
      have : HT.sIx es.length es.length (some (5 : Int)) = 5 := by rw [hlen]; decide
      simp only [HT.sIx_none, this]; simp
    have ad := add_lst3 (a := es.take 5) (b := [.int l, .int (l + 2)]) (by simp; omega) B1
    have al1 : ∀ B, ((m1 fLen (mCall f__law_all [] (mCons (mVar 3) mNil))) [a0, a1, some (false, .box n), some (false, .int w), a4, a5, a6, a7] B) = .ok (.int l) B := fun B => by
      have z := al B
      simp
      exact z
    unfold iMany
    generalize (m1 fLen (mCall f__law_all [] (mCons (mVar 3) mNil))) = M at al1 ⊢
    generalize f__law_mixed = F at e1 ⊢
    simp [rg, e1, fSl, c, al1, szL, ad]
  obtain ⟨σ', B', e, ⟨b4, b5, b6, b7, rfl⟩, hB⟩ := forL_inv (t := gN 4) (b := mMany) (fun _ σ B' => (∃ a4 a5 a6 a7, σ = [a0, a1, some (false, .box n), some (false, .int w), a4, a5, a6, a7]) ∧ B' = B1) (es.take 5 ++ [.int l, .int (l + 2)]) 0
    [a0, a1, some (false, .box n), some (false, .int w), a4, a5, a6, a7] B1 (by
      rintro i d σ B' hd ⟨⟨a4, a5, a6, a7, rfl⟩, rfl⟩
      have hm : ∃ m : Int, d = .int m ∧ 2 ≤ m ∧ (m ≤ 16 ∨ 17 ≤ m) := by
        rcases List.mem_append.mp (List.mem_of_getElem? hd) with h | h
        · obtain ⟨m, e, h1, h2⟩ := hes d (List.mem_of_mem_take h)
          exact ⟨m, e, h1, .inl h2⟩
        · simp only [List.mem_cons, List.not_mem_nil, or_false] at h
          rcases h with rfl | rfl
          · exact ⟨l, rfl, l2, .inl l16⟩
          · exact ⟨l + 2, rfl, by omega, by omega⟩
      obtain ⟨m, rfl, h1, h2⟩ := hm
      obtain ⟨b5, b6, b7, e⟩ := many30_ok h1 h2 h3 h4 a0 a1 (some (false, .box n)) a5 a6 a7 B'
      exact ⟨_, rfl, _, B', e, ⟨_, _, _, _, rfl⟩, rfl⟩) ⟨⟨_, _, _, _, rfl⟩, rfl⟩
  rw [hB] at e
  refine ⟨b4, b5, b6, b7, B1, ?_, P1⟩
  unfold mFor
  rw [it, z_st_ok]
  exact e
theorem law_true (ns : List Int) (hl : ns.length ≤ 63) : ∃ B, f_law [.scr (ns.map D.int)] [] = .ok (.bool true) B := by
  obtain ⟨B', e⟩ := law_outer (c := 3) (N := 5) (hc := by decide) (ns := ns) (inner := mFor (gN 3) (mRng2 (mC (.int 1)) (mC (.int 5))) (mFor (gN 4) iMany mMany)) (h := fun n k B r hr P => by
    obtain ⟨σ', B', e, P', r', hr', rfl⟩ := forL_inv (t := gN 3) (b := mFor (gN 4) iMany mMany) (fun _ σ B' => PenOk B' n ∧ ∃ r, r.length = 5 ∧ σ = some (false, .scr (ns.map D.int)) :: some (false, .int k) :: some (false, .box n) :: r) (rngD 1 4) 0 (some (false, .scr (ns.map D.int)) :: some (false, .int k) :: some (false, .box n) :: r) B (by
      rintro i x σ B hd ⟨P, r, hr, rfl⟩
      obtain ⟨q1, q2⟩ := rngD_get hd
      subst q1
      match r, hr with
      | [a3, a4, a5, a6, a7], _ =>
        obtain ⟨b4, b5, b6, b7, B', e, P'⟩ := wide30_ok (w := 1 + (i : Nat)) (by omega) (by omega) P (some (false, .scr (ns.map D.int))) (some (false, .int k)) a4 a5 a6 a7
        exact ⟨_, rfl, _, B', e, P', _, rfl, rfl⟩) ⟨P, r, hr, rfl⟩
    refine ⟨r', B', hr', ?_⟩
    have q : (rngB 1 && rngB 5) = true := by decide
    generalize mFor (gN 4) iMany mMany = M at e ⊢
    simp only [mFor, z_mRng2, z_mC, z_bind_ok, z_asI, q, if_true, z_st_ok]
    exact e) (r := [none, none, none, none, none]) (hr := rfl) (B := [])
  exact ⟨B', by
    have : f_law [.scr (ns.map D.int)] [] = (m_law [some (false, .scr (ns.map D.int)), none, none, none, none, none, none, none] []).fin := rfl
    have e3 : ((3 : Nat) : Int) = (3 : Int) := rfl
    rw [e3] at e
    rw [this, law30_eq, e]; rfl⟩
end Hk

open PySem PySem.W PyProof.Rows
set_option maxRecDepth 100000 in
set_option maxHeartbeats 0 in
theorem PySem.Challenge.cw_halfread_k30_single_codes_made_holds : PySem.Challenge.rw_halfread_k30_single_codes_made.Holds := by
  w_on; o_law; k_head; (case hw => w_witness2)
  k_fill
  refine Hk.walk (l := PySem.Challenge.rw_halfread_k30_single_codes_made) rfl rfl ?hrec (fun w h Y => PySem.W.km_in_of Y) ?F Hk.law_true
  case hrec => decide +kernel
  case F =>
    intro w mg fa h KX G hmg own
    refine' Hk.all_mk KX G hmg own ?aC0 ?pgC0 ?hdC0 ?poC0 ?saC0 ?mkC0 ?kcC0 ?n0C0 ?n1C0 ?dcC0 ?moC0 ?bintC0 ?bboolC0 ?btupleC0 ?bstrC0 ?blistC0 ?icC0 ?tyC0 ?hn ?htk ?zlen ?zrange ?zisinstance ?ztuple ?zlist ?zall ?zany ?zmax ?zmin ?zset ?zsorted ?zenumerate ?zzip ?zrepr ?zstr ?zint ?zsum ?zdict ?zbool ?vG_MOST_MADE_BITS ?vG_FEWEST ?vG_MOST_VALUES ?vG_FEWEST_VALUES ?vG_MOST_BITS ?v_MANY_WORDS ?w_MANY_WORDS ?a_law_pen ?l_law_pen ?c_law_pen ?k_law_pen ?a_law_cell_at ?l_law_cell_at ?c_law_cell_at ?k_law_cell_at ?a_law_draw ?l_law_draw ?c_law_draw ?k_law_draw ?a_law_mixed ?l_law_mixed ?c_law_mixed ?k_law_mixed ?a_law_near ?l_law_near ?c_law_near ?k_law_near ?a_law_apart ?l_law_apart ?c_law_apart ?k_law_apart ?a_law_rings ?l_law_rings ?c_law_rings ?k_law_rings ?a_law_all ?l_law_all ?c_law_all ?k_law_all ?a_law_due ?l_law_due ?c_law_due ?k_law_due ?ais_between ?lis_between ?cis_between ?kis_between ?aneed_bits ?lneed_bits ?cneed_bits ?kneed_bits ?aneed_sizes ?lneed_sizes ?cneed_sizes ?kneed_sizes ?achanged ?lchanged ?cchanged ?kchanged ?anext_words ?lnext_words ?cnext_words ?knext_words ?acan_close ?lcan_close ?ccan_close ?kcan_close ?aare_bits ?lare_bits ?care_bits ?kare_bits ?aare_words ?lare_words ?care_words ?kare_words ?aCodeX_initX ?iCodeX_initX ?lCodeX_initX ?cCodeX_initX ?kCodeX_initX ?afirst_ring ?lfirst_ring ?cfirst_ring ?kfirst_ring ?amade_single ?lmade_single ?cmade_single ?kmade_single ?asingle ?lsingle ?csingle ?ksingle ?aCode_words ?gCode_words ?tCode_words ?rCode_words ?lCode_words ?cCode_words ?kCode_words ?alaw ?llaw ?claw ?klaw ?emade_single ?ymade_single ?ypmade_single ?yqmade_single ?yrmade_single ?ysmade_single ?yumade_single ?ywmade_single ?ynmade_single ?ykmade_single
    (case aC0 => k_is)
    (case pgC0 => k_is)
    (case hdC0 => k_is)
    (case poC0 => k_is)
    (case saC0 => k_is)
    (case mkC0 => k_is)
    (case kcC0 => k_is)
    (case n0C0 => k_is)
    (case n1C0 => k_is)
    (case dcC0 => k_is)
    (case moC0 => k_is)
    (case bintC0 => k_is)
    (case bboolC0 => k_is)
    (case btupleC0 => k_is)
    (case bstrC0 => k_is)
    (case blistC0 => k_is)
    (case icC0 => k_is)
    (case tyC0 => k_is)
    (case hn => k_is)
    (case htk => k_is)
    (case zlen => k_is)
    (case zrange => k_is)
    (case zisinstance => k_is)
    (case ztuple => k_is)
    (case zlist => k_is)
    (case zall => k_is)
    (case zany => k_is)
    (case zmax => k_is)
    (case zmin => k_is)
    (case zset => k_is)
    (case zsorted => k_is)
    (case zenumerate => k_is)
    (case zzip => k_is)
    (case zrepr => k_is)
    (case zstr => k_is)
    (case zint => k_is)
    (case zsum => k_is)
    (case zdict => k_is)
    (case zbool => k_is)
    (case vG_MOST_MADE_BITS => k_is)
    (case vG_FEWEST => k_is)
    (case vG_MOST_VALUES => k_is)
    (case vG_FEWEST_VALUES => k_is)
    (case vG_MOST_BITS => k_is)
    (case v_MANY_WORDS => k_is)
    (case w_MANY_WORDS => k_is)
    (case a_law_pen => k_is)
    (case l_law_pen => k_is)
    (case c_law_pen => k_is)
    (case k_law_pen => k_is)
    (case a_law_cell_at => k_is)
    (case l_law_cell_at => k_is)
    (case c_law_cell_at => k_is)
    (case k_law_cell_at => k_is)
    (case a_law_draw => k_is)
    (case l_law_draw => k_is)
    (case c_law_draw => k_is)
    (case k_law_draw => k_is)
    (case a_law_mixed => k_is)
    (case l_law_mixed => k_is)
    (case c_law_mixed => k_is)
    (case k_law_mixed => k_is)
    (case a_law_near => k_is)
    (case l_law_near => k_is)
    (case c_law_near => k_is)
    (case k_law_near => k_is)
    (case a_law_apart => k_is)
    (case l_law_apart => k_is)
    (case c_law_apart => k_is)
    (case k_law_apart => k_is)
    (case a_law_rings => k_is)
    (case l_law_rings => k_is)
    (case c_law_rings => k_is)
    (case k_law_rings => k_is)
    (case a_law_all => k_is)
    (case l_law_all => k_is)
    (case c_law_all => k_is)
    (case k_law_all => k_is)
    (case a_law_due => k_is)
    (case l_law_due => k_is)
    (case c_law_due => k_is)
    (case k_law_due => k_is)
    (case ais_between => k_is)
    (case lis_between => k_is)
    (case cis_between => k_is)
    (case kis_between => k_is)
    (case aneed_bits => k_is)
    (case lneed_bits => k_is)
    (case cneed_bits => k_is)
    (case kneed_bits => k_is)
    (case aneed_sizes => k_is)
    (case lneed_sizes => k_is)
    (case cneed_sizes => k_is)
    (case kneed_sizes => k_is)
    (case achanged => k_is)
    (case lchanged => k_is)
    (case cchanged => k_is)
    (case kchanged => k_is)
    (case anext_words => k_is)
    (case lnext_words => k_is)
    (case cnext_words => k_is)
    (case knext_words => k_is)
    (case acan_close => k_is)
    (case lcan_close => k_is)
    (case ccan_close => k_is)
    (case kcan_close => k_is)
    (case aare_bits => k_is)
    (case lare_bits => k_is)
    (case care_bits => k_is)
    (case kare_bits => k_is)
    (case aare_words => k_is)
    (case lare_words => k_is)
    (case care_words => k_is)
    (case kare_words => k_is)
    (case aCodeX_initX => k_is)
    (case iCodeX_initX => k_is)
    (case lCodeX_initX => k_is)
    (case cCodeX_initX => k_is)
    (case kCodeX_initX => k_is)
    (case afirst_ring => k_is)
    (case lfirst_ring => k_is)
    (case cfirst_ring => k_is)
    (case kfirst_ring => k_is)
    (case amade_single => k_is)
    (case lmade_single => k_is)
    (case cmade_single => k_is)
    (case kmade_single => k_is)
    (case asingle => k_is)
    (case lsingle => k_is)
    (case csingle => k_is)
    (case ksingle => k_is)
    (case aCode_words => k_is)
    (case gCode_words => k_is)
    (case tCode_words => k_is)
    (case rCode_words => k_is)
    (case lCode_words => k_is)
    (case cCode_words => k_is)
    (case kCode_words => k_is)
    (case alaw => k_is)
    (case llaw => k_is)
    (case claw => k_is)
    (case klaw => k_is)
    (case emade_single => rfl)
    (case ymade_single => k_is)
    (case ypmade_single => rfl)
    (case yqmade_single => rfl)
    (case yrmade_single => rfl)
    (case ysmade_single => rfl)
    (case yumade_single => rfl)
    (case ywmade_single => rfl)
    (case ynmade_single => decide)
    (case ykmade_single => first | rfl | kernel_rfl | decide +kernel)

