import PyProof.Rows.All
import KE.KDictKeyed
import HandS.ForMost
import HandS.WordsExc
import HandS.TupAny
import HandS.TupMul
import HandS.Deep
import HandS.Flow
import HandS.IsInst
import HandS.Star
import KE.GoesNew
import HandS.Property
import HandS.ClsMeth
import HandS.TupSets
import PyProof.WalksMore
import PyProof.TupleIter
import HandS.SortInts
import HandS.Text
import HandS.Strs
import HandS.Conv
import HandS.Style
import PyProof.TupleOfSeq
import HandS.DictComp
import KE.KOpsOwn
import OpenK.KMeth
import PyProof.ReprRoads
import HandS.EndBits
import HandS.Defaults
import HandS.MakeKwOnly
import HandS.MakeKw
import KE.SortData
import KE.KTupSum
import PySem.Challenge.RW_halfread_k56_words_that_are_none
set_option Elab.async false
set_option linter.all false
set_option maxRecDepth 100000
set_option maxHeartbeats 4000000
namespace Hf
open PySem L2

/-- pure data -/
inductive D where
  | none | bool (b : Bool) | int (i : Int) | str (s : Str)
  | tup (ds : List D) | lst (ds : List D) | scr (ds : List D) | prs (ds : List D) | dct (ks vs : List D) | inst (c : Nat) (ds : List D) | box (n : Nat) | cls (c : Nat)
  deriving Inhabited

abbrev Sl := List (Option (Bool × D))
abbrev Bs := List D

inductive Rs (α : Type) where
  | ok (a : α) (B : Bs) | exc (c : Nat) (x : Option D) (B : Bs) | bad
def Rs.bind {α β : Type} (m : Rs α) (f : α → Bs → Rs β) : Rs β := match m with
  | .ok a B => f a B
  | .exc c x B => .exc c x B
  | .bad => .bad
abbrev Ev := Sl → Bs → Rs D
abbrev Evs := Sl → Bs → Rs (List D)
abbrev Fn := List D → Bs → Rs D

/-- the names of the fields of the classes -/
def fldN : Nat → List Str
  | 0 => ["row", "known"]
  | 1 => ["own", "seen"]
  | 2 => ["own_bridge", "past"]
  | 3 => ["own_bridge", "past", "limit"]
  | 4 => ["own_bridge", "past"]
  | 5 => ["own_bridge", "past", "limit"]
  | _ => []
/-- the name of the one field of an exception -/
def excF : Nat → Str
  | 27 => "limit"
  | _ => "kind"

structure Gs where
  prog : Program
  w : World
  base : Heap
  K : PySem.W.Frag
  mg : Str → Option Value
  cl : Nat → Addr
  has : Nat → Bool
structure Wd where
  P : Hp
  io : Nat → Option Addr
  /-- in an __init__: where the instance stands that is being made -/
  me : Option Addr := Option.none

/-! data as a key -/
mutual
def nkD : D → Option NestedKey
  | .none => some .none
  | .bool b => some (.num (if b = true then 1 else 0))
  | .int i => some (.num i)
  | .str x => some (.text x)
  | .tup ds => (nksD ds).map .tup
  | _ => Option.none
def nksD : List D → Option (List NestedKey)
  | [] => some []
  | d :: ds => match nkD d, nksD ds with
    | some k, some ks => some (k :: ks)
    | _, _ => Option.none
end
/-- a dict's object: its keys with their addresses and values -/
def dctO (g : Gs) (a : Addr) (xs : List (NestedKey × Addr × V)) : HO := .ext fun h => (a == sysModules) = false ∧ xs.length ≤ sizeLine ∧ (∀ p ∈ xs, p.1.depth ≤ 8) ∧ (xs.map (·.1)).Nodup ∧
  ∃ ys : List (NestedKey × Addr × Value), Paired (fun p q => p.1 = q.1 ∧ p.2.1 = q.2.1 ∧ RelV p.2.2 q.2.2) xs ys ∧ ∃ o es ep, h.get? a = some o ∧ o.ExactDict ∧ o.data = .dict es ep ∧ es.toList = ys.map (entryOfKey (nestedKind g.prog g.w))

/-- a tuple of which no dict is known to hang -/
def SqN (K : PySem.W.Frag) (H : Hp) (a : Addr) (xs : List V) : Prop :=
  (∃ o : Obj, H a = some (.frz o (.tup xs)) ∧ o.dict = Option.none) ∨
    ∃ (o : Obj) (us : Array Value) (j : Nat), K.lookup a = some o ∧ o.cls = .type "tuple" ∧ o.dict = Option.none ∧ o.data = .seq us j ∧ us.size ≤ sizeLine ∧ Vals xs us.toList
theorem SqN.T {K : PySem.W.Frag} {H : Hp} {a : Addr} {xs : List V} (h : SqN K H a xs) : SqT K H a xs := by
  rcases h with ⟨o, h, _⟩ | ⟨o, us, j, h1, h2, _, h4⟩
  · exact .inl (.inr ⟨o, h⟩)
  · exact .inr ⟨o, us, j, h1, h2, h4⟩
mutual
def Rep (g : Gs) (w : Wd) : D → V → Prop
  | .none, v => v = .non
  | .bool b, v => v = .bl b
  | .int i, v => v = .int i
  | .str s, v => v = .str s
  | .tup ds, v => ∃ a vs, v = .ref a ∧ SqN g.K w.P a vs ∧ Reps g w ds vs
  | .prs ds, v => ∃ a vs, v = .ref a ∧ SqT g.K w.P a vs ∧ Reps g w ds vs
  | .lst ds, v => ∃ a vs, v = .ref a ∧ w.P a = some (.lst vs) ∧ Reps g w ds vs
  | .scr ds, v => ∃ a vs, v = .ref a ∧ SqL g.K w.P a vs ∧ Reps g w ds vs
  | .dct ks ds, v => ∃ a xs, v = .ref a ∧ w.P a = some (dctO g a xs) ∧ ks.map nkD = xs.map (fun p => some p.1) ∧ Reps g w ks (xs.map fun p => V.ref p.2.1) ∧ Reps g w ds (xs.map fun p => p.2.2)
  | .inst c ds, v => ∃ a dx vs, v = .ref a ∧ w.P a = some (.ins (g.cl c) dx ((fldN c).zip vs)) ∧ ds.length = (fldN c).length ∧ g.has c = true ∧ Reps g w ds vs
  | .box n, v => ∃ a, v = .ref a ∧ w.io n = some a
  | .cls c, v => v = .ref (g.cl c) ∧ g.has c = true
def Reps (g : Gs) (w : Wd) : List D → List V → Prop
  | [], vs => vs = []
  | d :: ds, vs => ∃ v us, vs = v :: us ∧ Rep g w d v ∧ Reps g w ds us
end

/-- what stands at the address of a container -/
def Cont (g : Gs) (w : Wd) : D → Addr → HO → Prop
  | .lst ds, _, o => ∃ vs, o = .lst vs ∧ Reps g w ds vs
  | .dct ks ds, a, o => ∃ xs, o = dctO g a xs ∧ ks.map nkD = xs.map (fun p => some p.1) ∧ Reps g w ks (xs.map fun p => V.ref p.2.1) ∧ Reps g w ds (xs.map fun p => p.2.2)
  | .inst c ds, _, o => ∃ dx vs, o = .ins (g.cl c) dx ((fldN c).zip vs) ∧ ds.length ≤ (fldN c).length ∧ g.has c = true ∧ Reps g w ds vs
  | _, _, _ => False

structure Le (w w' : Wd) : Prop where
  P : Same w.P w'.P
  io : ∀ n a, w.io n = some a → w'.io n = some a
theorem Le.refl (w : Wd) : Le w w := ⟨Same.refl _, fun _ _ h => h⟩
theorem Le.trans {a b c : Wd} (x : Le a b) (y : Le b c) : Le a c := ⟨x.P.trans y.P, fun n p h => y.io n p (x.io n p h)⟩

theorem sqT_mono {K : PySem.W.Frag} {H H' : Hp} {a : Addr} {vs : List V} (e : Same H H') (h : SqT K H a vs) : SqT K H' a vs := by
  rcases h with (h | ⟨o, h⟩) | h
  · exact .inl (.inl (e _ _ h))
  · exact .inl (.inr ⟨o, e _ _ h⟩)
  · exact .inr h

theorem sqN_mono {K : PySem.W.Frag} {H H' : Hp} {a : Addr} {vs : List V} (e : Same H H') (h : SqN K H a vs) : SqN K H' a vs := by
  rcases h with ⟨o, h, hd⟩ | h
  · exact .inl ⟨o, e _ _ h, hd⟩
  · exact .inr h
mutual
theorem Rep.mono {g : Gs} {w w' : Wd} (l : Le w w') : ∀ (d : D) (v : V), Rep g w d v → Rep g w' d v
  | .none, v, h => by simpa only [Rep] using h
  | .bool b, v, h => by simpa only [Rep] using h
  | .int b, v, h => by simpa only [Rep] using h
  | .str b, v, h => by simpa only [Rep] using h
  | .tup ds, v, h => by
    simp only [Rep] at h ⊢
    obtain ⟨a, vs, e, q, r⟩ := h
    exact ⟨a, vs, e, sqN_mono l.P q, Reps.mono l ds vs r⟩
  | .prs ds, v, h => by
    simp only [Rep] at h ⊢
    obtain ⟨a, vs, e, q, r⟩ := h
    exact ⟨a, vs, e, sqT_mono l.P q, Reps.mono l ds vs r⟩
  | .lst ds, v, h => by
    simp only [Rep] at h ⊢
    obtain ⟨a, vs, e, q, r⟩ := h
    exact ⟨a, vs, e, l.P _ _ q, Reps.mono l ds vs r⟩
  | .scr ds, v, h => by
    simp only [Rep] at h ⊢
    obtain ⟨a, vs, e, q, r⟩ := h
    exact ⟨a, vs, e, l.P.seq q, Reps.mono l ds vs r⟩
  | .dct ks ds, v, h => by
    simp only [Rep] at h ⊢
    obtain ⟨a, xs, e, q, q2, r1, r⟩ := h
    exact ⟨a, xs, e, l.P _ _ q, q2, Reps.mono l ks _ r1, Reps.mono l ds _ r⟩
  | .inst c ds, v, h => by
    simp only [Rep] at h ⊢
    obtain ⟨a, dx, vs, e, q, q1, q2, r⟩ := h
    exact ⟨a, dx, vs, e, l.P _ _ q, q1, q2, Reps.mono l ds vs r⟩
  | .box n, v, h => by
    simp only [Rep] at h ⊢
    obtain ⟨a, e, q⟩ := h
    exact ⟨a, e, l.io _ _ q⟩
  | .cls c, v, h => by simpa only [Rep] using h
theorem Reps.mono {g : Gs} {w w' : Wd} (l : Le w w') : ∀ (ds : List D) (vs : List V), Reps g w ds vs → Reps g w' ds vs
  | [], vs, h => by simpa only [Reps] using h
  | d :: ds, vs, h => by
    simp only [Reps] at h ⊢
    obtain ⟨v, us, e, r, rs⟩ := h
    exact ⟨v, us, e, Rep.mono l d v r, Reps.mono l ds us rs⟩
end
theorem Cont.mono {g : Gs} {w w' : Wd} (l : Le w w') : ∀ {d : D} {a : Addr} {o : HO}, Cont g w d a o → Cont g w' d a o := by
  intro d a o h
  cases d <;> simp only [Cont] at h ⊢
  · obtain ⟨vs, e, r⟩ := h; exact ⟨vs, e, Reps.mono l _ _ r⟩
  · obtain ⟨xs, e, q2, r1, r⟩ := h; exact ⟨xs, e, q2, Reps.mono l _ _ r1, Reps.mono l _ _ r⟩
  · obtain ⟨dx, vs, e, q, q2, r⟩ := h; exact ⟨dx, vs, e, q, q2, Reps.mono l _ _ r⟩

structure RB (g : Gs) (w : Wd) (B : Bs) (H : Hp) : Prop where
  sub : Same w.P H
  get : ∀ n b, B[n]? = some b → ∃ a o, w.io n = some a ∧ H a = some o ∧ Cont g w b a o
  inj : ∀ n m a, w.io n = some a → w.io m = some a → n = m
  np : ∀ n a, w.io n = some a → w.P a = Option.none
  dom : ∀ n a, w.io n = some a → n < B.length
structure Ext (w : Wd) (H : Hp) (w' : Wd) (H' : Hp) : Prop where
  le : Le w w'
  keep : ∀ b o, H b = some o → (∀ n, w.io n ≠ some b) → H' b = some o
  pf : ∀ b o, w'.P b = some o → w.P b = some o ∨ H b = Option.none
  iof : ∀ n a, w'.io n = some a → w.io n = some a ∨ H a = Option.none
  there : ∀ b, H b ≠ Option.none → H' b ≠ Option.none
  me : w'.me = w.me
theorem Ext.refl (w : Wd) (H : Hp) : Ext w H w H := ⟨Le.refl _, fun _ _ h _ => h, fun _ _ h => .inl h, fun _ _ h => .inl h, fun _ h => h, rfl⟩
theorem Ext.trans {a b c : Wd} {H H1 H2 : Hp} (x : Ext a H b H1) (y : Ext b H1 c H2) : Ext a H c H2 where
  le := x.le.trans y.le
  keep := fun p o h hn => y.keep p o (x.keep p o h hn) fun n e => by
    rcases x.iof n p e with z | z
    · exact hn n z
    · rw [h] at z; cases z
  pf := fun p o h => by
    rcases y.pf p o h with z | z
    · exact x.pf p o z
    · refine .inr (Classical.byContradiction fun q => x.there p q z)
  iof := fun n p h => by
    rcases y.iof n p h with z | z
    · exact x.iof n p z
    · refine .inr (Classical.byContradiction fun q => x.there p q z)
  there := fun p h => y.there p (x.there p h)
  me := y.me.trans x.me

structure S0 (g : Gs) (H0 : Hp) (w : Wd) (σI : Sl) (B : Bs) (σ : L2.St) (H : Hp) : Prop where
  rb : RB g w B H
  len : σI.length = σ.length
  sl : ∀ (i : Nat) (d : D), σI[i]? = some (some (false, d)) → ∃ v, σ[i]? = some (some v) ∧ Rep g w d v
  ow : ∀ (i : Nat) (d : D), σI[i]? = some (some (true, d)) → ∃ a o, σ[i]? = some (some (.ref a)) ∧ H a = some o ∧ Cont g w d a o ∧ w.P a = Option.none ∧ (∀ n, w.io n ≠ some a) ∧ H0 a = Option.none
  oi : ∀ (i j : Nat) (d e : D) (a : Addr), σI[i]? = some (some (true, d)) → σI[j]? = some (some (true, e)) → σ[i]? = some (some (.ref a)) → σ[j]? = some (some (.ref a)) → i = j
  me : ∀ (i c : Nat) (ds : List D) (a : Addr), σI[i]? = some (some (true, .inst c ds)) → σ[i]? = some (some (.ref a)) → w.me = some a
theorem S0.step {g : Gs} {H0 : Hp} {w w' : Wd} {σI : Sl} {B B' : Bs} {σ : L2.St} {H H' : Hp} (s : S0 g H0 w σI B σ H) (x : Ext w H w' H') (rb : RB g w' B' H') : S0 g H0 w' σI B' σ H' where
  rb := rb
  len := s.len
  sl := fun (i : Nat) d h => by
    obtain ⟨v, e, r⟩ := s.sl i d h
    exact ⟨v, e, Rep.mono x.le d v r⟩
  ow := fun (i : Nat) d h => by
    obtain ⟨a, o, e, ha, c, np, nb, n0⟩ := s.ow i d h
    refine ⟨a, o, e, x.keep a o ha nb, Cont.mono x.le c, ?_, fun n z => ?_, n0⟩
    · cases q : w'.P a with
      | none => rfl
      | some u =>
        rcases x.pf a u q with z | z
        · rw [np] at z; cases z
        · rw [ha] at z; cases z
    · rcases x.iof n a z with z | z
      · exact nb n z
      · rw [ha] at z; cases z
  oi := s.oi
  me := fun i c ds a h1 h2 => x.me.trans (s.me i c ds a h1 h2)

def RepO (g : Gs) (w : Wd) (σI : Sl) (σ : L2.St) (d : D) (v : V) : Prop := Rep g w d v ∨ ∃ i : Nat, σI[i]? = some (some (true, d)) ∧ σ[i]? = some (some v)
theorem RepO.mono {g : Gs} {w w' : Wd} {σI : Sl} {σ : L2.St} {d : D} {v : V} (l : Le w w') (h : RepO g w σI σ d v) : RepO g w' σI σ d v := by
  rcases h with h | h
  · exact .inl (Rep.mono l d v h)
  · exact .inr h

def ExcR (g : Gs) (w : Wd) (c : Nat) (x : Option D) (cls : Value) (dd : Option Addr) (H : Hp) : Prop :=
  cls = .ref (g.cl c) ∧ match x with
    | Option.none => True
    | some d => ∃ a v, dd = some a ∧ H a = some (.xd [(excF c, v)]) ∧ Rep g w d v

/-- a value; bo: or a name's own container, to be read at once -/
def RepB (g : Gs) (w : Wd) (σI : Sl) (σ : L2.St) : Bool → D → V → Prop
  | false, d, v => Rep g w d v
  | true, d, v => RepO g w σI σ d v
theorem RepB.up {g : Gs} {w : Wd} {σI : Sl} {σ : L2.St} {d : D} {v : V} : ∀ {bo : Bool}, RepB g w σI σ bo d v → RepO g w σI σ d v
  | false, h => .inl h
  | true, h => h
/-- what is wanted of an expression's end -/
def PostE (g : Gs) (E : XK) (w : Wd) (H : Hp) (σI : Sl) (σ : L2.St) (bo : Bool) (Q : VK) : Rs D → Prop
  | .ok d B' => ∀ w' v H', Ext w H w' H' → RB g w' B' H' → RepB g w' σI σ bo d v → Q v H'
  | .exc c x B' => ∀ w' cls dd H', Ext w H w' H' → RB g w' B' H' → ExcR g w' c x cls dd H' → E cls dd H'
  | .bad => False
/-- the same of several values -/
def PostEs (g : Gs) (E : XK) (w : Wd) (H : Hp) (Q : List V → Hp → Prop) : Rs (List D) → Prop
  | .ok ds B' => ∀ w' vs H', Ext w H w' H' → RB g w' B' H' → Reps g w' ds vs → Q vs H'
  | .exc c x B' => ∀ w' cls dd H', Ext w H w' H' → RB g w' B' H' → ExcR g w' c x cls dd H' → E cls dd H'
  | .bad => False
/-- of a test -/
def PostT (g : Gs) (E : XK) (w : Wd) (H : Hp) (Q : Bool → Hp → Prop) : Rs Bool → Prop
  | .ok b B' => ∀ w' H', Ext w H w' H' → RB g w' B' H' → Q b H'
  | .exc c x B' => ∀ w' cls dd H', Ext w H w' H' → RB g w' B' H' → ExcR g w' c x cls dd H' → E cls dd H'
  | .bad => False
abbrev Et := Sl → Bs → Rs Bool
def tI (g : Gs) (E : XK) (H0 : Hp) (bo : Bool) (m : Ev) : TE := fun σ H Q => ∃ w σI B, S0 g H0 w σI B σ H ∧ PostE g E w H σI σ bo Q (m σI B)
def tIs (g : Gs) (E : XK) (H0 : Hp) (m : Evs) : TA := fun σ H Q => ∃ w σI B, S0 g H0 w σI B σ H ∧ PostEs g E w H Q (m σI B)
def tIt (g : Gs) (E : XK) (H0 : Hp) (m : Et) : TT := fun σ H Q => ∃ w σI B, S0 g H0 w σI B σ H ∧ PostT g E w H Q (m σI B)
/-- the expression's meaning is m -/
abbrev Snd (g : Gs) (E : XK) (H0 : Hp) (X : Cx) (bo : Bool) (e : Expr) (m : Ev) : Prop := PE X e (tI g E H0 bo m)
abbrev Snds (g : Gs) (E : XK) (H0 : Hp) (X : Cx) (es : List Expr) (m : Evs) : Prop := PA X es (tIs g E H0 m)
abbrev SndT (g : Gs) (E : XK) (H0 : Hp) (X : Cx) (e : Expr) (m : Et) : Prop := PT X e (tIt g E H0 m)
abbrev SndW (g : Gs) (E : XK) (H0 : Hp) (X : Cx) (e : Expr) (m : Et) : Prop := PW X e (tIt g E H0 m)

theorem weak {X : Cx} {e : Expr} {t t' : TE} (h : PE X e t) (k : ∀ σ H Q, t' σ H Q → t σ H Q) : PE X e t' := ⟨fun pins s σ H Q I q => h.run pins s σ H Q I (k σ H Q q)⟩
theorem weakA {X : Cx} {es : List Expr} {t t' : TA} (h : PA X es t) (k : ∀ σ H Q, t' σ H Q → t σ H Q) : PA X es t' := ⟨fun pos pins s σ H Q I q => h.run pos pins s σ H Q I (k σ H Q q)⟩
theorem weakT {X : Cx} {e : Expr} {t t' : TT} (h : PT X e t) (k : ∀ σ H Q, t' σ H Q → t σ H Q) : PT X e t' := ⟨fun pins s σ H Q I q => h.run pins s σ H Q I (k σ H Q q)⟩
theorem weakW {X : Cx} {e : Expr} {t t' : TT} (h : PW X e t) (k : ∀ σ H Q, t' σ H Q → t σ H Q) : PW X e t' := ⟨fun wh pins s σ H Q I q => h.run wh pins s σ H Q I (k σ H Q q)⟩

section
variable {g : Gs} {E : XK} {H0 : Hp} {w w1 : Wd} {H H1 : Hp} {σI : Sl} {σ : L2.St} {bo bo1 : Bool} {Q : VK}
/-- an end is wanted of a later state -/
theorem PostE.ext (x : Ext w H w1 H1) : ∀ {m : Rs D}, PostE g E w H σI σ bo Q m → PostE g E w1 H1 σI σ bo Q m
  | .ok _ _, h => fun w2 v2 H2 x2 rb2 r2 => h w2 v2 H2 (x.trans x2) rb2 r2
  | .exc _ _ _, h => fun w2 cls dd H2 x2 rb2 r2 => h w2 cls dd H2 (x.trans x2) rb2 r2
  | .bad, h => h
theorem PostEs.ext {Q : List V → Hp → Prop} (x : Ext w H w1 H1) : ∀ {m : Rs (List D)}, PostEs g E w H Q m → PostEs g E w1 H1 Q m
  | .ok _ _, h => fun w2 v2 H2 x2 rb2 r2 => h w2 v2 H2 (x.trans x2) rb2 r2
  | .exc _ _ _, h => fun w2 cls dd H2 x2 rb2 r2 => h w2 cls dd H2 (x.trans x2) rb2 r2
  | .bad, h => h
theorem PostT.ext {Q : Bool → Hp → Prop} (x : Ext w H w1 H1) : ∀ {m : Rs Bool}, PostT g E w H Q m → PostT g E w1 H1 Q m
  | .ok _ _, h => fun w2 H2 x2 rb2 => h w2 H2 (x.trans x2) rb2
  | .exc _ _ _, h => fun w2 cls dd H2 x2 rb2 r2 => h w2 cls dd H2 (x.trans x2) rb2 r2
  | .bad, h => h

/-- THE STEP: a part's reading from what is wanted of the whole -/
theorem tI_go {m : Ev} {B : Bs} {Q1 : VK} (s : S0 g H0 w σI B σ H) (he : ∀ c x B1, m σI B = .exc c x B1 → ∀ w' cls dd H', Ext w H w' H' → RB g w' B1 H' → ExcR g w' c x cls dd H' → E cls dd H') (hb : m σI B ≠ .bad)
    (ho : ∀ d B1, m σI B = .ok d B1 → ∀ w1 v H1, Ext w H w1 H1 → S0 g H0 w1 σI B1 σ H1 → RepB g w1 σI σ bo d v → Q1 v H1) : tI g E H0 bo m σ H Q1 := by
  refine ⟨w, σI, B, s, ?_⟩
  cases q : m σI B with
  | ok d B1 => exact fun w1 v H1 x rb r => ho d B1 q w1 v H1 x (s.step x rb) r
  | exc c x B1 => exact he c x B1 q
  | bad => exact hb q
theorem tI_bind {m : Ev} {f : D → Bs → Rs D} {B : Bs} {Q1 : VK} (s : S0 g H0 w σI B σ H) (p : PostE g E w H σI σ bo1 Q ((m σI B).bind f))
    (ho : ∀ d B1 w1 v H1, Ext w H w1 H1 → S0 g H0 w1 σI B1 σ H1 → RepB g w1 σI σ bo d v → PostE g E w1 H1 σI σ bo1 Q (f d B1) → Q1 v H1) : tI g E H0 bo m σ H Q1 := by
  refine tI_go s (fun c x B1 q => ?_) (fun q => ?_) fun d B1 q w1 v H1 x s1 r => ?_
  · rw [q] at p; exact p
  · rw [q] at p; exact p
  · rw [q] at p; exact ho d B1 w1 v H1 x s1 r (PostE.ext x p)
theorem tI_bindA {m : Ev} {f : D → Bs → Rs (List D)} {B : Bs} {Q1 : VK} {Q : List V → Hp → Prop} (s : S0 g H0 w σI B σ H) (p : PostEs g E w H Q ((m σI B).bind f))
    (ho : ∀ d B1 w1 v H1, Ext w H w1 H1 → S0 g H0 w1 σI B1 σ H1 → RepB g w1 σI σ bo d v → PostEs g E w1 H1 Q (f d B1) → Q1 v H1) : tI g E H0 bo m σ H Q1 := by
  refine tI_go s (fun c x B1 q => ?_) (fun q => ?_) fun d B1 q w1 v H1 x s1 r => ?_
  · rw [q] at p; exact p
  · rw [q] at p; exact p
  · rw [q] at p; exact ho d B1 w1 v H1 x s1 r (PostEs.ext x p)
theorem tI_bindT {m : Ev} {f : D → Bs → Rs Bool} {B : Bs} {Q1 : VK} {Q : Bool → Hp → Prop} (s : S0 g H0 w σI B σ H) (p : PostT g E w H Q ((m σI B).bind f))
    (ho : ∀ d B1 w1 v H1, Ext w H w1 H1 → S0 g H0 w1 σI B1 σ H1 → RepB g w1 σI σ bo d v → PostT g E w1 H1 Q (f d B1) → Q1 v H1) : tI g E H0 bo m σ H Q1 := by
  refine tI_go s (fun c x B1 q => ?_) (fun q => ?_) fun d B1 q w1 v H1 x s1 r => ?_
  · rw [q] at p; exact p
  · rw [q] at p; exact p
  · rw [q] at p; exact ho d B1 w1 v H1 x s1 r (PostT.ext x p)
/-- the same for an argument list -/
theorem tIs_go {m : Evs} {B : Bs} {Q1 : List V → Hp → Prop} (s : S0 g H0 w σI B σ H) (he : ∀ c x B1, m σI B = .exc c x B1 → ∀ w' cls dd H', Ext w H w' H' → RB g w' B1 H' → ExcR g w' c x cls dd H' → E cls dd H') (hb : m σI B ≠ .bad)
    (ho : ∀ d B1, m σI B = .ok d B1 → ∀ w1 v H1, Ext w H w1 H1 → S0 g H0 w1 σI B1 σ H1 → Reps g w1 d v → Q1 v H1) : tIs g E H0 m σ H Q1 := by
  refine ⟨w, σI, B, s, ?_⟩
  cases q : m σI B with
  | ok d B1 => exact fun w1 v H1 x rb r => ho d B1 q w1 v H1 x (s.step x rb) r
  | exc c x B1 => exact he c x B1 q
  | bad => exact hb q
theorem tIs_bind {m : Evs} {f : List D → Bs → Rs D} {B : Bs} {Q1 : List V → Hp → Prop} (s : S0 g H0 w σI B σ H) (p : PostE g E w H σI σ bo1 Q ((m σI B).bind f))
    (ho : ∀ d B1 w1 v H1, Ext w H w1 H1 → S0 g H0 w1 σI B1 σ H1 → Reps g w1 d v → PostE g E w1 H1 σI σ bo1 Q (f d B1) → Q1 v H1) : tIs g E H0 m σ H Q1 := by
  refine tIs_go s (fun c x B1 q => ?_) (fun q => ?_) fun d B1 q w1 v H1 x s1 r => ?_
  · rw [q] at p; exact p
  · rw [q] at p; exact p
  · rw [q] at p; exact ho d B1 w1 v H1 x s1 r (PostE.ext x p)
theorem tIs_bindA {m : Evs} {f : List D → Bs → Rs (List D)} {B : Bs} {Q1 Q : List V → Hp → Prop} (s : S0 g H0 w σI B σ H) (p : PostEs g E w H Q ((m σI B).bind f))
    (ho : ∀ d B1 w1 v H1, Ext w H w1 H1 → S0 g H0 w1 σI B1 σ H1 → Reps g w1 d v → PostEs g E w1 H1 Q (f d B1) → Q1 v H1) : tIs g E H0 m σ H Q1 := by
  refine tIs_go s (fun c x B1 q => ?_) (fun q => ?_) fun d B1 q w1 v H1 x s1 r => ?_
  · rw [q] at p; exact p
  · rw [q] at p; exact p
  · rw [q] at p; exact ho d B1 w1 v H1 x s1 r (PostEs.ext x p)
/-- for a test -/
theorem tIt_go {m : Et} {B : Bs} {Q1 : Bool → Hp → Prop} (s : S0 g H0 w σI B σ H) (he : ∀ c x B1, m σI B = .exc c x B1 → ∀ w' cls dd H', Ext w H w' H' → RB g w' B1 H' → ExcR g w' c x cls dd H' → E cls dd H') (hb : m σI B ≠ .bad)
    (ho : ∀ d B1, m σI B = .ok d B1 → ∀ w1 H1, Ext w H w1 H1 → S0 g H0 w1 σI B1 σ H1 → Q1 d H1) : tIt g E H0 m σ H Q1 := by
  refine ⟨w, σI, B, s, ?_⟩
  cases q : m σI B with
  | ok d B1 => exact fun w1 H1 x rb => ho d B1 q w1 H1 x (s.step x rb)
  | exc c x B1 => exact he c x B1 q
  | bad => exact hb q
theorem tIt_bind {m : Et} {f : Bool → Bs → Rs D} {B : Bs} {Q1 : Bool → Hp → Prop} (s : S0 g H0 w σI B σ H) (p : PostE g E w H σI σ bo1 Q ((m σI B).bind f))
    (ho : ∀ d B1 w1 H1, Ext w H w1 H1 → S0 g H0 w1 σI B1 σ H1 → PostE g E w1 H1 σI σ bo1 Q (f d B1) → Q1 d H1) : tIt g E H0 m σ H Q1 := by
  refine tIt_go s (fun c x B1 q => ?_) (fun q => ?_) fun d B1 q w1 H1 x s1 => ?_
  · rw [q] at p; exact p
  · rw [q] at p; exact p
  · rw [q] at p; exact ho d B1 w1 H1 x s1 (PostE.ext x p)
theorem tIt_bindT {m : Et} {f : Bool → Bs → Rs Bool} {B : Bs} {Q1 Q : Bool → Hp → Prop} (s : S0 g H0 w σI B σ H) (p : PostT g E w H Q ((m σI B).bind f))
    (ho : ∀ d B1 w1 H1, Ext w H w1 H1 → S0 g H0 w1 σI B1 σ H1 → PostT g E w1 H1 Q (f d B1) → Q1 d H1) : tIt g E H0 m σ H Q1 := by
  refine tIt_go s (fun c x B1 q => ?_) (fun q => ?_) fun d B1 q w1 H1 x s1 => ?_
  · rw [q] at p; exact p
  · rw [q] at p; exact p
  · rw [q] at p; exact ho d B1 w1 H1 x s1 (PostT.ext x p)
end

def mBin (f : D → D → Bs → Rs D) (a b : Ev) : Ev := fun σI B => (a σI B).bind fun x B1 => (b σI B1).bind fun y B2 => f x y B2
def OpSem (g : Gs) (E : XK) (H0 : Hp) (r : R2) (f : D → D → Bs → Rs D) : Prop := ∀ (w : Wd) (σI : Sl) (B : Bs) (σ : L2.St) (H : Hp) (Q : VK) (x y : V) (dx dy : D),
  S0 g H0 w σI B σ H → RepO g w σI σ dx x → RepO g w σI σ dy y → PostE g E w H σI σ false Q (f dx dy B) → r x y H Q
section
variable {g : Gs} {E : XK} {H0 : Hp} {X : Cx} {a b : Expr} {ma mb : Ev} {pos : Pos} {b1 b2 : Bool}
theorem tOp_of {r : R2} {f : D → D → Bs → Rs D} (h : OpSem g E H0 r f) : ∀ σ H Q, tI g E H0 false (mBin f ma mb) σ H Q → tOp r (tI g E H0 b1 ma) (tI g E H0 b2 mb) σ H Q := by
  rintro σ H Q ⟨w, σI, B, s, p⟩
  refine tI_bind s p fun d B1 w1 v H1 x1 s1 r1 p1 => ?_
  refine tI_bind s1 p1 fun d2 B2 w2 v2 H2 x2 s2 r2 p2 => ?_
  exact h w2 σI B2 σ H2 Q v v2 d d2 s2 (r1.up.mono x2.le) r2.up p2
theorem s_bin {op : Operator} {r : R2} {f : D → D → Bs → Rs D} (ho : OpR X (binaryOp op) r) (h : OpSem g E H0 r f) (ha : Snd g E H0 X b1 a ma) (hb : Snd g E H0 X b2 b mb) : Snd g E H0 X false (.BinOp a op b pos) (mBin f ma mb) :=
  weak (pe_op ho ha hb) (tOp_of h)

def mVar (i : Nat) : Ev := fun σI B => match σI[i]? with
  | some (some (false, d)) => .ok d B
  | _ => .bad
def mBor (i : Nat) : Ev := fun σI B => match σI[i]? with
  | some (some (_, d)) => .ok d B
  | _ => .bad
def mC (d : D) : Ev := fun _ B => .ok d B
theorem s_var {i : Nat} {x : Str} (hN : X.N[i]? = some x := by rfl) (hv : Vis X.env.scope x := by first | exact Or.inl rfl | exact Or.inr (Or.inl rfl) | exact Or.inr (Or.inr rfl)) (hd : (x == ("__debug__" : Str)) = false := by decide)
    (hcd : (x == ("__classdict__" : Str)) = false := by decide) : Snd g E H0 X false (.Name x pos) (mVar i) := weak (pe_var hN hv hd hcd) fun σ H Q ⟨w, σI, B, s, p⟩ => by
  unfold mVar at p
  split at p
  · rename_i d e
    obtain ⟨v, h1, h2⟩ := s.sl i d e
    exact ⟨v, h1, p w v H (Ext.refl _ _) s.rb h2⟩
  · exact p.elim
theorem s_bor {i : Nat} {x : Str} (hN : X.N[i]? = some x := by rfl) (hv : Vis X.env.scope x := by first | exact Or.inl rfl | exact Or.inr (Or.inl rfl) | exact Or.inr (Or.inr rfl)) (hd : (x == ("__debug__" : Str)) = false := by decide)
    (hcd : (x == ("__classdict__" : Str)) = false := by decide) : Snd g E H0 X true (.Name x pos) (mBor i) := weak (pe_var hN hv hd hcd) fun σ H Q ⟨w, σI, B, s, p⟩ => by
  unfold mBor at p
  split at p
  · rename_i k d e
    cases k with
    | false =>
      obtain ⟨v, h1, h2⟩ := s.sl i d e
      exact ⟨v, h1, p w v H (Ext.refl _ _) s.rb (.inl h2)⟩
    | true =>
      obtain ⟨a, o, h1, h2, _⟩ := s.ow i d e
      exact ⟨_, h1, p w _ H (Ext.refl _ _) s.rb (.inr ⟨i, e, h1⟩)⟩
  · exact p.elim
theorem s_const {e : Expr} {v : V} {d : D} (h : PE X e (tC v)) (r : ∀ w, Rep g w d v) : Snd g E H0 X false e (mC d) := weak h fun σ H Q ⟨w, σI, B, s, p⟩ => p w v H (Ext.refl _ _) s.rb (r w)
theorem s_int {i : Int} {j : Nat} : Snd g E H0 X false (.Constant (.int i) j pos) (mC (.int i)) := s_const pe_int fun w => by simp only [Rep]
theorem s_str {x : Str} {j : Nat} : Snd g E H0 X false (.Constant (.str x) j pos) (mC (.str x)) := s_const pe_str fun w => by simp only [Rep]
theorem s_bool {x : Bool} {j : Nat} : Snd g E H0 X false (.Constant (.bool x) j pos) (mC (.bool x)) := s_const pe_bl fun w => by simp only [Rep]
theorem s_none {j : Nat} : Snd g E H0 X false (.Constant .none j pos) (mC .none) := s_const pe_non fun w => by simp only [Rep]
end
end Hf

set_option Elab.async false
set_option linter.all false
set_option maxRecDepth 100000
set_option maxHeartbeats 4000000
namespace Hf
open PySem L2

/-! ### what stands behind data -/
section
variable {g : Gs} {w : Wd} {H H0 : Hp} {σI : Sl} {σ : L2.St} {B : Bs} {x : V}
theorem Reps.len : ∀ {ds : List D} {vs : List V}, Reps g w ds vs → vs.length = ds.length
  | [], vs, h => by simp only [Reps] at h; subst h; rfl
  | d :: ds, vs, h => by
    simp only [Reps] at h
    obtain ⟨v, us, rfl, _, r⟩ := h
    simp [Reps.len r]
theorem Reps.app : ∀ {ds es : List D} {vs us : List V}, Reps g w ds vs → Reps g w es us → Reps g w (ds ++ es) (vs ++ us)
  | [], es, vs, us, h, k => by simp only [Reps] at h; subst h; exact k
  | d :: ds, es, vs, us, h, k => by
    simp only [Reps] at h
    obtain ⟨v, us', rfl, r, rs⟩ := h
    simp only [List.cons_append, Reps]
    exact ⟨v, _, rfl, r, Reps.app rs k⟩
theorem Reps.get : ∀ {ds : List D} {vs : List V} {i : Nat} {d : D}, Reps g w ds vs → ds[i]? = some d → ∃ v, vs[i]? = some v ∧ Rep g w d v
  | [], _, _, _, _, e => by simp at e
  | d :: ds, vs, i, d', h, e => by
    simp only [Reps] at h
    obtain ⟨v, us, rfl, r, rs⟩ := h
    cases i with
    | zero => simp at e; subst e; exact ⟨v, by simp, r⟩
    | succ i =>
      obtain ⟨u, h1, h2⟩ := Reps.get (i := i) rs (by simpa using e)
      exact ⟨u, by simpa using h1, h2⟩
theorem Reps.drop : ∀ {ds : List D} {vs : List V} (n : Nat), Reps g w ds vs → Reps g w (ds.drop n) (vs.drop n)
  | ds, vs, 0, h => by simpa using h
  | [], vs, n + 1, h => by simp only [Reps] at h; subst h; simp [Reps]
  | d :: ds, vs, n + 1, h => by
    simp only [Reps] at h
    obtain ⟨v, us, rfl, r, rs⟩ := h
    simpa using Reps.drop n rs
theorem Reps.take : ∀ {ds : List D} {vs : List V} (n : Nat), Reps g w ds vs → Reps g w (ds.take n) (vs.take n)
  | ds, vs, 0, h => by simp [Reps]
  | [], vs, n + 1, h => by simp only [Reps] at h; subst h; simp [Reps]
  | d :: ds, vs, n + 1, h => by
    simp only [Reps] at h
    obtain ⟨v, us, rfl, r, rs⟩ := h
    simp only [List.take_succ_cons, Reps]
    exact ⟨v, _, rfl, r, Reps.take n rs⟩
theorem Reps.set : ∀ {ds : List D} {vs : List V} (n : Nat) {d : D} {v : V}, Reps g w ds vs → Rep g w d v → Reps g w (ds.set n d) (vs.set n v)
  | [], vs, n, d, v, h, k => by simp only [Reps] at h; subst h; simp [Reps]
  | e :: ds, vs, 0, d, v, h, k => by
    simp only [Reps] at h
    obtain ⟨u, us, rfl, r, rs⟩ := h
    simp only [List.set_cons_zero, Reps]
    exact ⟨v, _, rfl, k, rs⟩
  | e :: ds, vs, n + 1, d, v, h, k => by
    simp only [Reps] at h
    obtain ⟨u, us, rfl, r, rs⟩ := h
    simp only [List.set_cons_succ, Reps]
    exact ⟨u, _, rfl, r, Reps.set n rs k⟩
theorem Reps.rev : ∀ {ds : List D} {vs : List V}, Reps g w ds vs → Reps g w ds.reverse vs.reverse
  | [], vs, h => by simp only [Reps] at h; subst h; simp [Reps]
  | d :: ds, vs, h => by
    simp only [Reps] at h
    obtain ⟨v, us, rfl, r, rs⟩ := h
    simp only [List.reverse_cons]
    exact Reps.app (Reps.rev rs) (by simp only [Reps]; exact ⟨v, [], rfl, r, rfl⟩)
theorem Reps.one {d : D} {v : V} (h : Rep g w d v) : Reps g w [d] [v] := by simp only [Reps]; exact ⟨v, [], rfl, h, rfl⟩
theorem Reps.rep {ds : List D} {vs : List V} (h : Reps g w ds vs) : ∀ k : Nat, Reps g w (List.replicate k ds).flatten (List.replicate k vs).flatten
  | 0 => by simp [Reps]
  | k + 1 => by
    simp only [List.replicate_succ, List.flatten_cons]
    exact Reps.app h (Reps.rep h k)

theorem RepO.lst {ds : List D} (s : S0 g H0 w σI B σ H) (h : RepO g w σI σ (.lst ds) x) : ∃ a vs, x = .ref a ∧ H a = some (.lst vs) ∧ Reps g w ds vs := by
  rcases h with h | ⟨i, h1, h2⟩
  · simp only [Rep] at h
    obtain ⟨a, vs, rfl, p, r⟩ := h
    exact ⟨a, vs, rfl, s.rb.sub _ _ p, r⟩
  · obtain ⟨a, o, e, ha, c, _⟩ := s.ow i _ h1
    rw [h2] at e
    cases e
    simp only [Cont] at c
    obtain ⟨vs, rfl, r⟩ := c
    exact ⟨a, vs, rfl, ha, r⟩
theorem RepO.of {d : D} (s : S0 g H0 w σI B σ H) (h : RepO g w σI σ d x) (hd : ∀ ds, d ≠ .lst ds) (hd2 : ∀ ks ds, d ≠ .dct ks ds) (hd3 : ∀ c ds, d ≠ .inst c ds) : Rep g w d x := by
  rcases h with h | ⟨i, h1, h2⟩
  · exact h
  · obtain ⟨a, o, e, ha, c, _⟩ := s.ow i _ h1
    cases d <;> simp [Cont] at c <;> first | exact (hd _ rfl).elim | exact (hd2 _ _ rfl).elim | exact (hd3 _ _ rfl).elim
theorem RepO.int {i : Int} (s : S0 g H0 w σI B σ H) (h : RepO g w σI σ (.int i) x) : x = .int i := by
  have := h.of s (by simp) (by simp) (by simp); simpa only [Rep] using this
theorem RepO.bool {i : Bool} (s : S0 g H0 w σI B σ H) (h : RepO g w σI σ (.bool i) x) : x = .bl i := by
  have := h.of s (by simp) (by simp) (by simp); simpa only [Rep] using this
theorem RepO.str {i : Str} (s : S0 g H0 w σI B σ H) (h : RepO g w σI σ (.str i) x) : x = .str i := by
  have := h.of s (by simp) (by simp) (by simp); simpa only [Rep] using this
theorem RepO.none (s : S0 g H0 w σI B σ H) (h : RepO g w σI σ .none x) : x = .non := by
  have := h.of s (by simp) (by simp) (by simp); simpa only [Rep] using this
theorem RepO.tup {ds : List D} (s : S0 g H0 w σI B σ H) (h : RepO g w σI σ (.tup ds) x) : ∃ a vs, x = .ref a ∧ SqT g.K H a vs ∧ Reps g w ds vs := by
  have := h.of s (by simp) (by simp) (by simp)
  simp only [Rep] at this
  obtain ⟨a, vs, rfl, p, r⟩ := this
  exact ⟨a, vs, rfl, sqT_mono s.rb.sub p.T, r⟩
theorem RepO.tupN {ds : List D} (s : S0 g H0 w σI B σ H) (h : RepO g w σI σ (.tup ds) x) : ∃ a vs, x = .ref a ∧ SqN g.K H a vs ∧ Reps g w ds vs := by
  have := h.of s (by simp) (by simp) (by simp)
  simp only [Rep] at this
  obtain ⟨a, vs, rfl, p, r⟩ := this
  exact ⟨a, vs, rfl, sqN_mono s.rb.sub p, r⟩
theorem RepO.prs {ds : List D} (s : S0 g H0 w σI B σ H) (h : RepO g w σI σ (.prs ds) x) : ∃ a vs, x = .ref a ∧ SqT g.K H a vs ∧ Reps g w ds vs := by
  have := h.of s (by simp) (by simp) (by simp)
  simp only [Rep] at this
  obtain ⟨a, vs, rfl, p, r⟩ := this
  exact ⟨a, vs, rfl, sqT_mono s.rb.sub p, r⟩
theorem RepO.scr {ds : List D} (s : S0 g H0 w σI B σ H) (h : RepO g w σI σ (.scr ds) x) : ∃ a vs, x = .ref a ∧ SqL g.K H a vs ∧ Reps g w ds vs := by
  have := h.of s (by simp) (by simp) (by simp)
  simp only [Rep] at this
  obtain ⟨a, vs, rfl, p, r⟩ := this
  exact ⟨a, vs, rfl, s.rb.sub.seq p, r⟩
theorem RepO.box {n : Nat} (s : S0 g H0 w σI B σ H) (h : RepO g w σI σ (.box n) x) : ∃ a, x = .ref a ∧ w.io n = some a := by
  have := h.of s (by simp) (by simp) (by simp)
  simpa only [Rep] using this
theorem RepO.dct {ks ds : List D} (s : S0 g H0 w σI B σ H) (h : RepO g w σI σ (.dct ks ds) x) : ∃ a xs, x = .ref a ∧ H a = some (dctO g a xs) ∧ ks.map nkD = xs.map (fun p => some p.1) ∧ Reps g w ks (xs.map fun p => V.ref p.2.1) ∧ Reps g w ds (xs.map fun p => p.2.2) := by
  rcases h with h | ⟨i, h1, h2⟩
  · simp only [Rep] at h
    obtain ⟨a, xs, rfl, p, q⟩ := h
    exact ⟨a, xs, rfl, s.rb.sub _ _ p, q⟩
  · obtain ⟨a, o, e, ha, c, _⟩ := s.ow i _ h1
    rw [h2] at e
    cases e
    simp only [Cont] at c
    obtain ⟨xs, rfl, q⟩ := c
    exact ⟨a, xs, rfl, ha, q⟩

/-- a new thing is laid and from then on persistent -/
def regW (w : Wd) (p : Addr) (o : HO) : Wd := { w with P := upd w.P p o }
theorem RB.fresh_io (rb : RB g w B H) {p : Addr} (hp : H p = Option.none) : ∀ n, w.io n ≠ some p := fun n e => by
  by_cases hn : n < B.length
  · obtain ⟨a, o, h1, h2, _⟩ := rb.get n B[n] (List.getElem?_eq_getElem hn)
    rw [e] at h1; cases h1; rw [hp] at h2; cases h2
  · exact hn (rb.dom n p e)
theorem RB.fresh_P (rb : RB g w B H) {p : Addr} (hp : H p = Option.none) : w.P p = Option.none := by
  cases q : w.P p with
  | none => rfl
  | some o => rw [rb.sub _ _ q] at hp; cases hp
theorem same_upd2 {P H : Hp} {p : Addr} {o : HO} (h : Same P H) : Same (upd P p o) (upd H p o) := fun b u e => by
  by_cases hb : b = p
  · subst hb; rw [upd_same] at e ⊢; exact e
  · rw [upd_ne hb] at e ⊢; exact h b u e
theorem same_upd {H : Hp} {p : Addr} {o : HO} (hp : H p = Option.none) : Same H (upd H p o) := fun b u e => by
  rw [upd_ne (ne_of_none e hp)]; exact e
theorem regLe (w : Wd) {p : Addr} {o : HO} (hp : w.P p = Option.none) : Le w (regW w p o) := ⟨same_upd hp, fun _ _ h => h⟩
/-- boxes over a heap that is kept -/
theorem RB.keep {H' : Hp} {w' : Wd} (rb : RB g w B H) (l : Le w w') (hio : w'.io = w.io) (hs : Same w'.P H') (hk : Same H H') (hp : ∀ n a, w.io n = some a → w'.P a = Option.none) : RB g w' B H' where
  sub := hs
  get := fun n b e => by
    obtain ⟨a, o, h1, h2, c⟩ := rb.get n b e
    exact ⟨a, o, by rw [hio]; exact h1, hk _ _ h2, c.mono l⟩
  inj := by rw [hio]; exact rb.inj
  np := by rw [hio]; exact hp
  dom := by rw [hio]; exact rb.dom
theorem RB.reg {p : Addr} {o : HO} (rb : RB g w B H) (hp : H p = Option.none) : RB g (regW w p o) B (upd H p o) :=
  rb.keep (regLe w (rb.fresh_P hp)) rfl (same_upd2 rb.sub) (same_upd hp) fun n a e => by
    show upd w.P p o a = Option.none
    rw [upd_ne (fun z => rb.fresh_io hp n (by rw [← z]; exact e))]
    exact rb.np n a e
theorem Ext.reg {p : Addr} {o : HO} (rb : RB g w B H) (hp : H p = Option.none) : Ext w H (regW w p o) (upd H p o) where
  le := regLe w (rb.fresh_P hp)
  keep := fun b u h _ => same_upd hp b u h
  pf := fun b u h => by
    by_cases hb : b = p
    · subst hb; exact .inr hp
    · refine .inl ?_
      have h : upd w.P p o b = some u := h
      rwa [upd_ne hb] at h
  iof := fun n a h => .inl h
  there := fun b h z => h (by
    by_cases hb : b = p
    · subst hb; exact hp
    · rwa [upd_ne hb] at z)
  me := rfl
/-- a thing laid, not persistent -/
theorem RB.lay {p : Addr} {o : HO} (rb : RB g w B H) (hp : H p = Option.none) : RB g w B (upd H p o) :=
  rb.keep (Le.refl w) rfl (rb.sub.trans (same_upd hp)) (same_upd hp) rb.np
theorem Ext.lay {p : Addr} {o : HO} (hp : H p = Option.none) : Ext w H w (upd H p o) where
  le := Le.refl w
  keep := fun b u h _ => same_upd hp b u h
  pf := fun b u h => .inl h
  iof := fun n a h => .inl h
  there := fun b h z => h (by
    by_cases hb : b = p
    · subst hb; exact hp
    · rwa [upd_ne hb] at z)
  me := rfl
variable {E : XK} {Q : VK}
theorem PostE.nowR {d : D} {v : V} (s : S0 g H0 w σI B σ H) (h : PostE g E w H σI σ false Q (.ok d B)) (r : Rep g w d v) : Q v H := h w v H (Ext.refl _ _) s.rb r
theorem RepO.tupR {ds : List D} (s : S0 g H0 w σI B σ H) (h : RepO g w σI σ (.tup ds) x) : Rep g w (.tup ds) x := h.of s (by simp) (by simp) (by simp)
theorem PostE.newT {ds : List D} {vs : List V} {p : Addr} (s : S0 g H0 w σI B σ H) (h : PostE g E w H σI σ false Q (.ok (.tup ds) B)) {ob : Obj} (r : Reps g w ds vs) (hp : H p = Option.none) (hd : ob.dict = Option.none) : Q (.ref p) (upd H p (.frz ob (.tup vs))) :=
  h (regW w p (.frz ob (.tup vs))) _ _ (Ext.reg s.rb hp) (s.rb.reg hp) (by
    simp only [RepB, Rep]
    exact ⟨p, vs, rfl, .inl ⟨ob, upd_same, hd⟩, Reps.mono (regLe w (s.rb.fresh_P hp)) _ _ r⟩)
theorem PostE.newL {ds : List D} {vs : List V} {p : Addr} (s : S0 g H0 w σI B σ H) (h : PostE g E w H σI σ false Q (.ok (.lst ds) B)) (r : Reps g w ds vs) (hp : H p = Option.none) : Q (.ref p) (upd H p (.lst vs)) :=
  h (regW w p (.lst vs)) _ _ (Ext.reg s.rb hp) (s.rb.reg hp) (by
    simp only [RepB, Rep]
    exact ⟨p, vs, rfl, upd_same, Reps.mono (regLe w (s.rb.fresh_P hp)) _ _ r⟩)
end

/-- the built-in classes that are asked for -/
inductive Bt where
  | int | bool | tuple | str | list
  deriving DecidableEq
def Bt.nm : Bt → String
  | .int => "int" | .bool => "bool" | .tuple => "tuple" | .str => "str" | .list => "list"
/-- which class of instances is derived from which -/
def subC (c d : Nat) : Bool := c == d || (d == 2 && (c == 3 || c == 4 || c == 5)) || (c == 5 && (d == 3 || d == 4))
/-- what is known of a class of instances -/
structure ClsC (g : Gs) (c : Nat) : Prop where
  cls : L2.Cls g.K (g.cl c)
  na : ∀ f ∈ fldN c, NoAttr g.K (g.cl c) f
  nd : (fldN c).Nodup
  ha : PySem.W.findIn g.K (.ref (g.cl c)) "__class__" = some (some (.builtin "object.__class__"))
  hm : PySem.W.mroIn g.K (g.cl c) (.type "object") = some true
  isB : ∀ T : Bt, PySem.W.kitOne g.K (.ref (g.cl c)) (.type T.nm) = some false
  isO : ∀ n ∈ ["NoneType", "int", "bool", "str", "list", "tuple", "dict"], PySem.W.kitOne g.K (.type n) (.ref (g.cl c)) = some false
/-- what the top has left -/
structure Fx (g : Gs) : Prop where
  cls : ∀ c, g.has c = true → ClsC g c
  sub : ∀ c d, g.has c = true → g.has d = true → PySem.W.kitOne g.K (.ref (g.cl c)) (.ref (g.cl d)) = some (subC c d)
  hn : PySem.W.specialIn g.K (.builtin "object.__class__") "__get__" = some (some (.builtin "getset_descriptor.__get__"))
  htk : PySem.W.takesIn g.K (.builtin "object.__class__") = some true
  nb : ∀ x ∈ ["len", "range", "isinstance", "tuple", "list", "all", "any", "max", "min", "set", "sorted", "enumerate", "zip", "repr", "str", "int", "sum", "dict", "bool"], g.mg (Str.ofString x) = none
/-- what a body must know of where it stands -/
structure Ok (g : Gs) (X : Cx) : Prop where
  K : X.K = g.K
  mg : X.mg = g.mg
  calm : X.calm = true
  un : X.A.units + 100 < cLine
  prog : X.prog = g.prog
  w : X.w = g.w
  base : X.base = g.base
  fx : Fx g

/-! ### arithmetic -/
def fI2 (k : Int → Int → D) (c : Int → Int → Bool) : D → D → Bs → Rs D
  | .int i, .int j, B => if c i j then .ok (k i j) B else .bad
  | _, _, _ => .bad
theorem os_I {g : Gs} {E : XK} {H0 : Hp} {C : Int → Int → Prop} {c : Int → Int → Bool} {k : Int → Int → D} {kv : Int → Int → V} (hc : ∀ i j, c i j = true → C i j) (hk : ∀ w i j, Rep g w (k i j) (kv i j)) :
    OpSem g E H0 (rI C kv) (fI2 k c) := by
  intro w σI B σ H Q x y dx dy s rx ry p
  cases dx <;> first | exact p.elim | skip
  cases dy <;> first | exact p.elim | skip
  rename_i i j
  simp only [fI2] at p
  split at p
  · rename_i h
    exact ⟨i, j, rx.int s, ry.int s, hc _ _ h, p.nowR s (hk w i j)⟩
  · exact p.elim
theorem os_I0 {g : Gs} {E : XK} {H0 : Hp} {k : Int → Int → D} {kv : Int → Int → V} (hk : ∀ w i j, Rep g w (k i j) (kv i j)) :
    OpSem g E H0 (rI0 kv) (fI2 k fun _ _ => true) := by
  intro w σI B σ H Q x y dx dy s rx ry p
  cases dx <;> first | exact p.elim | skip
  cases dy <;> first | exact p.elim | skip
  rename_i i j
  exact ⟨i, j, rx.int s, ry.int s, PostE.nowR s p (hk w i j)⟩
theorem rep_int (g : Gs) (w : Wd) (i : Int) : Rep g w (.int i) (.int i) := by simp only [Rep]
theorem rep_bool (g : Gs) (w : Wd) (i : Bool) : Rep g w (.bool i) (.bl i) := by simp only [Rep]
theorem rep_str (g : Gs) (w : Wd) (i : Str) : Rep g w (.str i) (.str i) := by simp only [Rep]
theorem rep_none (g : Gs) (w : Wd) : Rep g w .none .non := by simp only [Rep]

def b2D (b : Bool) : Int := if b then 1 else 0
def fAdd : D → D → Bs → Rs D
  | .int i, .int j, B => .ok (.int (i + j)) B
  | .int i, .bool b, B => .ok (.int (i + b2D b)) B
  | .str a, .str b, B => if a.length + b.length ≤ sizeLine then .ok (.str (a ++ b)) B else .bad
  | .tup a, .tup b, B => if a.length + b.length ≤ sizeLine then .ok (.tup (a ++ b)) B else .bad
  | .lst a, .lst b, B => if a.length + b.length ≤ sizeLine then .ok (.lst (a ++ b)) B else .bad
  | _, _, _ => .bad
/-- a + b of tuples: what is made has no dict -/
def rCatN (K : PySem.W.Frag) : R2 := fun x y H Q => ∃ a b xs ys, x = .ref a ∧ y = .ref b ∧ SqT K H a xs ∧ SqT K H b ys ∧ xs.length + ys.length ≤ sizeLine ∧
  (xs = [] → Q (.ref b) H) ∧ (xs ≠ [] → ys = [] → Q (.ref a) H) ∧ (xs ≠ [] → ys ≠ [] → ∀ p (ob : Obj), H p = Option.none → ob.dict = Option.none → Q (.ref p) (upd H p (.frz ob (.tup (xs ++ ys)))))
theorem frz_tup {P : Program} {w : World} {H : Hp} {h : Heap} {a : Addr} {xs : List V} {us : List Value} (hz : xs.length ≤ sizeLine) (r : Vals xs us) (e : h.get? a = some { cls := .type "tuple", data := .seq us.toArray }) :
    ObjOk P w H h a (.frz { cls := .type "tuple", data := .seq us.toArray } (.tup xs)) := ⟨e, hz, us, r, _, e, rfl, _, rfl⟩
theorem op_catN {X : Cx} : OpR X (binaryOp .Add) (rCatN X.K) := by
  intro pins s σ H x y v u Q I rx ry h
  obtain ⟨a, b, xs, ys, rfl, rfl, ha, hb, hz, q0, q1, q2⟩ := h
  cases rx
  cases ry
  obtain ⟨us, ra, pa, _⟩ := I.tuple ha
  obtain ⟨ws, rb, pb, _⟩ := I.tuple hb
  by_cases hx : xs = []
  · subst hx
    cases ra
    exact cat_tup0 pa pb ⟨.ref b, H, I, rfl, q0 rfl⟩
  · have hu : us ≠ [] := fun z => hx (ra.nil_iff.mp z)
    refine HT.cat_tup pa pb hu (fun z => ⟨.ref a, H, I, rfl, q1 hx (rb.nil_iff.mp z)⟩) (fun z => ?_) (by rw [← ra.length, ← rb.length]; exact hz)
    have hp : H s.heap.objs.size = Option.none := I.hok.fresh (Nat.le_refl _)
    refine ⟨.ref s.heap.objs.size, upd H s.heap.objs.size _, I.laid (t' := s.toks) (o := .frz { cls := .type "tuple", data := .seq (us ++ ws).toArray } (.tup (xs ++ ys))) (fun c oc qc => Heap.get?_push_of_some _ qc) (Nat.le_refl _) ?_, rfl, q2 hx (fun w => z (rb.nil_iff.mpr w)) _ _ hp rfl⟩
    exact frz_tup (by rw [List.length_append]; exact hz) (ra.append rb) (Heap.get?_push_size _ rfl)
def rAdd (K : PySem.W.Frag) : R2 := fun x y H Q => (rI0 (fun i j => .int (i + j))) x y H Q ∨ (∃ i k, x = .int i ∧ y = .bl k ∧ Q (.int (i + PyProof.Rows.b2i k)) H) ∨ (∃ i j, x = .str i ∧ y = .str j ∧ i.length + j.length ≤ sizeLine ∧ Q (.str (i ++ j)) H) ∨ rCatN K x y H Q ∨ rCat x y H Q
theorem op_addA {X : Cx} : OpR X (binaryOp .Add) (rAdd X.K) := op_add.or (op_add_ib.or (op_add_str.or (op_catN.or op_cat)))
theorem os_add {g : Gs} {E : XK} {H0 : Hp} : OpSem g E H0 (rAdd g.K) fAdd := by
  intro w σI B σ H Q x y dx dy s rx ry p
  unfold fAdd at p
  split at p
  · rename_i i j
    exact .inl ⟨i, j, rx.int s, ry.int s, p.nowR s (rep_int g w _)⟩
  · rename_i i b
    exact .inr (.inl ⟨i, b, rx.int s, ry.bool s, p.nowR s (by simp only [Rep]; cases b <;> rfl)⟩)
  · rename_i a b
    split at p
    · rename_i h
      exact .inr (.inr (.inl ⟨a, b, rx.str s, ry.str s, h, p.nowR s (rep_str g w _)⟩))
    · exact p.elim
  · rename_i ds es
    split at p
    · rename_i h
      obtain ⟨a, vs, rfl, q1, r1⟩ := rx.tup s
      obtain ⟨b, us, rfl, q2, r2⟩ := ry.tup s
      refine .inr (.inr (.inr (.inl ⟨a, b, vs, us, rfl, rfl, q1, q2, by rw [r1.len, r2.len]; exact h, ?_, ?_, ?_⟩)))
      · intro e
        have hd : ds = [] := List.eq_nil_of_length_eq_zero (by rw [← r1.len, e]; rfl)
        subst hd
        exact p.nowR s (ry.tupR s)
      · intro e e2
        have hd : es = [] := List.eq_nil_of_length_eq_zero (by rw [← r2.len, e2]; rfl)
        subst hd
        rw [List.append_nil] at p
        exact p.nowR s (rx.tupR s)
      · intro _ _ q ob hq ho
        exact p.newT s (r1.app r2) hq ho
    · exact p.elim
  · rename_i ds es
    split at p
    · rename_i h
      obtain ⟨a, vs, rfl, q1, r1⟩ := rx.lst s
      obtain ⟨b, us, rfl, q2, r2⟩ := ry.lst s
      exact .inr (.inr (.inr (.inr ⟨a, b, vs, us, rfl, rfl, q1, q2, by rw [r1.len, r2.len]; exact h, fun q hq => p.newL s (r1.app r2) hq⟩)))
    · exact p.elim
  · exact p.elim
def wideB (i : Int) : Bool := decide (-(2 ^ 64) < i) && decide (i < 2 ^ 64)
theorem wideB_ok {i : Int} (h : wideB i = true) : -(2 ^ 64) < i ∧ i < 2 ^ 64 := by
  unfold wideB at h
  simp only [Bool.and_eq_true, decide_eq_true_eq] at h
  exact h
abbrev fSub := fI2 (fun i j => .int (i - j)) fun _ _ => true
abbrev fMod := fI2 (fun i j => .int (i % j)) fun _ j => decide (0 < j)
abbrev fDiv := fI2 (fun i j => .int (i / j)) fun _ j => decide (0 < j) && decide (j < 1073741824)
abbrev fPow := fI2 (fun i j => .int (i ^ j.toNat)) fun i j => decide (0 ≤ j) && decide (j ≤ 1000000) && decide (i.natAbs < 2 ^ 64)
abbrev fShl := fI2 (fun i j => .int (i * 2 ^ j.toNat)) fun i j => decide (0 ≤ j) && decide (j ≤ 1000000) && decide (i.natAbs < 2 ^ 64)
theorem os_sub {g : Gs} {E : XK} {H0 : Hp} : OpSem g E H0 (rI0 fun i j => .int (i - j)) fSub := os_I0 fun w i j => rep_int g w _
theorem os_mod {g : Gs} {E : XK} {H0 : Hp} : OpSem g E H0 (rI (fun _ j => 0 < j) fun i j => .int (i % j)) fMod := os_I (fun i j h => of_decide_eq_true h) fun w i j => rep_int g w _
theorem os_div {g : Gs} {E : XK} {H0 : Hp} : OpSem g E H0 (rI CDiv fun i j => .int (i / j)) fDiv := os_I (fun i j h => by
  simp only [Bool.and_eq_true, decide_eq_true_eq] at h; exact h) fun w i j => rep_int g w _
theorem os_pow {g : Gs} {E : XK} {H0 : Hp} : OpSem g E H0 (rI CPow fun i j => .int (i ^ j.toNat)) fPow := os_I (fun i j h => by
  simp only [Bool.and_eq_true, decide_eq_true_eq] at h; exact ⟨h.1.1, h.1.2, h.2⟩) fun w i j => rep_int g w _
theorem os_shl {g : Gs} {E : XK} {H0 : Hp} : OpSem g E H0 (rI CPow fun i j => .int (i * 2 ^ j.toNat)) fShl := os_I (fun i j h => by
  simp only [Bool.and_eq_true, decide_eq_true_eq] at h; exact ⟨h.1.1, h.1.2, h.2⟩) fun w i j => rep_int g w _

section
variable {g : Gs} {E : XK} {H0 : Hp} {X : Cx} {a b : Expr} {ma mb : Ev} {pos : Pos} {b1 b2 : Bool}
theorem s_add (c : Ok g X) (ha : Snd g E H0 X b1 a ma) (hb : Snd g E H0 X b2 b mb) : Snd g E H0 X false (.BinOp a .Add b pos) (mBin fAdd ma mb) := s_bin (c.K ▸ op_addA) os_add ha hb
theorem s_sub (ha : Snd g E H0 X b1 a ma) (hb : Snd g E H0 X b2 b mb) : Snd g E H0 X false (.BinOp a .Sub b pos) (mBin fSub ma mb) := s_bin op_sub os_sub ha hb
theorem s_mod (ha : Snd g E H0 X b1 a ma) (hb : Snd g E H0 X b2 b mb) : Snd g E H0 X false (.BinOp a .Mod b pos) (mBin fMod ma mb) := s_bin op_mod os_mod ha hb
theorem s_div (ha : Snd g E H0 X b1 a ma) (hb : Snd g E H0 X b2 b mb) : Snd g E H0 X false (.BinOp a .FloorDiv b pos) (mBin fDiv ma mb) := s_bin op_fdiv os_div ha hb
theorem s_pow (ha : Snd g E H0 X b1 a ma) (hb : Snd g E H0 X b2 b mb) : Snd g E H0 X false (.BinOp a .Pow b pos) (mBin fPow ma mb) := s_bin op_pow os_pow ha hb
theorem s_shl (ha : Snd g E H0 X b1 a ma) (hb : Snd g E H0 X b2 b mb) : Snd g E H0 X false (.BinOp a .LShift b pos) (mBin fShl ma mb) := s_bin op_shl os_shl ha hb
end


/-! ### order of whole numbers -/
abbrev fLt := fI2 (fun i j => .bool (decide (i < j))) fun _ _ => true
abbrev fLe := fI2 (fun i j => .bool (decide (i ≤ j))) fun _ _ => true
abbrev fGt := fI2 (fun i j => .bool (decide (j < i))) fun _ _ => true
abbrev fGe := fI2 (fun i j => .bool (decide (j ≤ i))) fun _ _ => true
/-- a comparison that is known -/
structure Cmp (g : Gs) (E : XK) (H0 : Hp) (X : Cx) (op : CmpOp) (f : D → D → Bs → Rs D) : Prop where
  ex : ∃ r, OpR X (compareOp op) r ∧ OpSem g E H0 r f
  bl : ∀ d e B, f d e B = .bad ∨ ∃ b B', f d e B = .ok (.bool b) B'
theorem fI2_bl (k : Int → Int → Bool) (c : Int → Int → Bool) : ∀ d e B, fI2 (fun i j => .bool (k i j)) c d e B = .bad ∨ ∃ b B', fI2 (fun i j => .bool (k i j)) c d e B = .ok (.bool b) B' := fun d e B => by
  cases d <;> first | exact .inl rfl | skip
  cases e <;> first | exact .inl rfl | skip
  rename_i i j
  simp only [fI2]
  by_cases h : c i j = true
  · rw [if_pos h]; exact .inr ⟨_, _, rfl⟩
  · rw [if_neg h]; exact .inl rfl
section
variable {g : Gs} {E : XK} {H0 : Hp} {X : Cx}
theorem c_lt : Cmp g E H0 X .Lt fLt := ⟨⟨_, op_lt, os_I0 fun w i j => rep_bool g w _⟩, fI2_bl _ _⟩
theorem c_le : Cmp g E H0 X .LtE fLe := ⟨⟨_, op_le, os_I0 fun w i j => rep_bool g w _⟩, fI2_bl _ _⟩
theorem c_gt : Cmp g E H0 X .Gt fGt := ⟨⟨_, op_gt, os_I0 fun w i j => rep_bool g w _⟩, fI2_bl _ _⟩
theorem c_ge : Cmp g E H0 X .GtE fGe := ⟨⟨_, op_ge, os_I0 fun w i j => rep_bool g w _⟩, fI2_bl _ _⟩
end
end Hf

set_option Elab.async false
set_option linter.all false
set_option maxRecDepth 100000
set_option maxHeartbeats 4000000
namespace Hf
open PySem PySem.Spec PyProof.Rows L2
theorem tuple_mulS (l : Addr) (items : Array Value) (n : Nat) (dd : Option Addr) (sl : Array (Option Value)) (x : Int) (u : Tok) (c0 : (decide (x < -(2 ^ 63)) || decide (x ≥ 2 ^ 63)) = false) (c1 : (items.isEmpty || x == 1) = true) :
    Meets (Builtin.«tuple.__mul__» ⟨[.ref l, .int x u], []⟩) (fun _ R s => s.heap.get? l = some { cls := .type "tuple", dict := dd, data := .seq items n, slots := sl } ∧ R (.ok (.ret (Value.ref l))) s) :=
  .of_wp fun prog w A R s h => by
    obtain ⟨hp, g, d, tk, os⟩ := s
    obtain ⟨hl, h⟩ := h
    have f1 := AutoSeq1.idx_int
    wp_walk using wpAny_loadPart' hl
    repeat (first
      | (refine wpAny_ite_false (decide_eq_false (by rw [c0]; exact Bool.false_ne_true)) ?_; wp_walk using wpAny_loadPart' hl)
      | (refine wpAny_ite_true (decide_eq_true c1) ?_; wp_walk using wpAny_loadPart' hl))
    exact ⟨_, rfl, h⟩
theorem tuple_mul0 (l : Addr) (items : Array Value) (n : Nat) (dd : Option Addr) (sl : Array (Option Value)) (x : Int) (u : Tok) (c0 : (decide (x < -(2 ^ 63)) || decide (x ≥ 2 ^ 63)) = false) (c1 : (items.isEmpty || x == 1) = false) (c2 : (decide (x ≤ 0) || items.isEmpty) = true) :
    Meets (Builtin.«tuple.__mul__» ⟨[.ref l, .int x u], []⟩) (fun _ R s => s.heap.get? l = some { cls := .type "tuple", dict := dd, data := .seq items n, slots := sl } ∧
      R (.ok (.ret (Value.ref s.heap.objs.size))) { s with heap := s.heap.push { cls := Value.type "tuple", data := Data.seq #[] }, toks := s.toks }) :=
  .of_wp fun prog w A R s h => by
    obtain ⟨hp, g, d, tk, os⟩ := s
    obtain ⟨hl, h⟩ := h
    have f1 := AutoSeq1.idx_int
    wp_walk using wpAny_loadPart' hl
    repeat (first
      | (refine wpAny_ite_false (decide_eq_false (by rw [c0]; exact Bool.false_ne_true)) ?_; wp_walk using wpAny_loadPart' hl)
      | (refine wpAny_ite_false (decide_eq_false (by rw [c1]; exact Bool.false_ne_true)) ?_; wp_walk using wpAny_loadPart' hl)
      | (refine wpAny_ite_true (decide_eq_true c2) ?_; wp_walk using wpAny_loadPart' hl))
    exact ⟨_, rfl, h⟩

def rRepTA (K : PySem.W.Frag) : R2 := fun x y H Q => ∃ l k xs, x = .ref l ∧ y = .int k ∧ SqT K H l xs ∧ -1000 < k ∧ k ≤ 1000 ∧ xs.length ≤ 1000 ∧
  ((xs = [] ∨ k = 1) → Q (.ref l) H) ∧ (xs ≠ [] → k ≠ 1 → ∀ p (ob : Obj), H p = none → ob.dict = none → Q (.ref p) (upd H p (.frz ob (.tup (List.replicate k.toNat xs).flatten))))
theorem op_repTA {X : Cx} : OpR X (binaryOp .Mult) (rRepTA X.K) := by
  intro pins s σ H x y v u Q I rx ry h
  obtain ⟨l, k, xs, rfl, rfl, hT, h1, h2, hz, q0, q⟩ := h
  cases rx
  obtain ⟨t, rfl⟩ := ry
  obtain ⟨its, r, ⟨⟨cls, dd, data, sl⟩, ho, hc, n, hd⟩, hs⟩ := I.tuple hT
  simp only at hc hd
  subst hc hd
  have hle : its.length = xs.length := r.length.symm
  have hfree : H s.heap.objs.size = none := I.hok.fresh (Nat.le_refl _)
  have c0 : (decide (k < -(2 ^ 63)) || decide (k ≥ 2 ^ 63)) = false := by
    rw [decide_eq_false (by omega), decide_eq_false (by omega)] <;> rfl
  by_cases hs1 : xs = [] ∨ k = 1
  · have c1 : (its.toArray.isEmpty || k == 1) = true := by
      rcases hs1 with e | e
      · subst e
        cases its with
        | nil => rfl
        | cons a b => simp at hle
      · subst e; simp
    exact wpAny_binaryOp_repeat_ref (T := "tuple") (U := "int") (by decide) ⟨_, ho, rfl⟩ (fun s' => typeIs_int s' k t) noFill_tuple_mul F.fills_int_mul F.slot_int_rmul repeat_tuple F.slot_int_index.lookup
      (call_meets F.slot_int_rmul (typeIs_int s k t) F.entry_int_rmul (F.args_int_rmul_2 _ _) (int_rmul_tuple k t l its.toArray n dd sl)
        ⟨ho, rfl, ⟨_, ho, rfl⟩, call_meets F.slot_tuple_mul ⟨_, ho, rfl⟩ F.entry_tuple_mul (F.args_tuple_mul_2 _ _) (tuple_mulS l its.toArray n dd sl k t c0 c1) ⟨ho, ⟨.ref l, H, I, rfl, q0 hs1⟩⟩⟩)
  · have hx : xs ≠ [] := fun e => hs1 (.inl e)
    have hk1 : k ≠ 1 := fun e => hs1 (.inr e)
    have hi : its.toArray.isEmpty = false := by
      cases its with
      | nil => exact absurd (List.eq_nil_of_length_eq_zero hle.symm) hx
      | cons a b => rfl
    have c1 : (its.toArray.isEmpty || k == 1) = false := by
      rw [hi, Bool.false_or]
      exact beq_eq_false_iff_ne.mpr hk1
    by_cases hk : k ≤ 0
    case neg =>
      have d2 : (decide (k ≤ 0) || its.toArray.isEmpty) = false := by
        rw [hi, Bool.or_false]; exact decide_eq_false hk
      have hm : ((its.toArray.size : Nat) : Int) * k ≤ 1000000 := by
        rw [List.size_toArray, hle]
        have := Int.mul_le_mul_of_nonneg_right (show ((xs.length : Nat) : Int) ≤ 1000 by omega) (show 0 ≤ k by omega)
        omega
      have lf : (List.replicate k.toNat its).flatten.length ≤ sizeLine := by
        rw [PyProof.Rows.lm_len_rep_flat, hle, sizeLine_eq]
        have := Nat.mul_le_mul (show k.toNat ≤ 1000 by omega) hz
        omega
      have d4 : Builtin.Tuple.tupleTooMany (((its.toArray.size : Nat) : Int) * k) = false := by
        unfold Builtin.Tuple.tupleTooMany
        rw [sizeLine_eq]; exact decide_eq_false (by omega)
      refine wpAny_binaryOp_repeat_ref (U := "int") (T := "tuple") (by decide) ⟨_, ho, rfl⟩ (fun s1 => typeIs_int s1 k t) noFill_tuple_mul F.fills_int_mul F.slot_int_rmul repeat_tuple F.slot_int_index.lookup
        (call_meets F.slot_int_rmul (typeIs_int s k t) F.entry_int_rmul (F.args_int_rmul_2 _ _) (int_rmul_tuple k t l its.toArray n dd sl)
          ⟨ho, rfl, ⟨_, ho, rfl⟩, call_meets F.slot_tuple_mul ⟨_, ho, rfl⟩ F.entry_tuple_mul (F.args_tuple_mul_2 _ _) (tuple_mulW l its.toArray n dd sl k t c0 c1 d2 (by omega) d4 (by rw [size_rep, List.size_toArray]; exact lf)) ⟨ho, ?_⟩⟩)
      rw [size_rep]
      exact ⟨.ref s.heap.objs.size, upd H s.heap.objs.size _, I.laid (t' := s.toks) (o := .frz { cls := .type "tuple", data := .seq (List.replicate k.toNat its).flatten.toArray } (.tup (List.replicate k.toNat xs).flatten)) (fun c oc qc => Heap.get?_push_of_some _ qc) (Nat.le_refl _)
        (frz_tup (by rw [← (r.rep k.toNat).length] at lf; exact lf) (r.rep k.toNat) (Heap.get?_push_size _ rfl)), rfl, q hx hk1 _ _ hfree rfl⟩
    have c2 : (decide (k ≤ 0) || its.toArray.isEmpty) = true := by rw [decide_eq_true hk]; rfl
    refine wpAny_binaryOp_repeat_ref (T := "tuple") (U := "int") (by decide) ⟨_, ho, rfl⟩ (fun s' => typeIs_int s' k t) noFill_tuple_mul F.fills_int_mul F.slot_int_rmul repeat_tuple F.slot_int_index.lookup
      (call_meets F.slot_int_rmul (typeIs_int s k t) F.entry_int_rmul (F.args_int_rmul_2 _ _) (int_rmul_tuple k t l its.toArray n dd sl)
        ⟨ho, rfl, ⟨_, ho, rfl⟩, call_meets F.slot_tuple_mul ⟨_, ho, rfl⟩ F.entry_tuple_mul (F.args_tuple_mul_2 _ _) (tuple_mul0 l its.toArray n dd sl k t c0 c1 c2) ⟨ho, ?_⟩⟩)
    have e0 : k.toNat = 0 := by omega
    rw [e0] at q
    exact ⟨.ref s.heap.objs.size, upd H s.heap.objs.size _, I.laid (t' := s.toks) (o := .frz { cls := .type "tuple", data := .seq ([] : List Value).toArray } (.tup [])) (fun c oc qc => Heap.get?_push_of_some _ qc) (Nat.le_refl _)
      (frz_tup (Nat.zero_le _) .nil (Heap.get?_push_size _ rfl)), rfl, q hx hk1 _ _ hfree rfl⟩

def fMul : D → D → Bs → Rs D
  | .int i, .int j, B => if wideB i || wideB j then .ok (.int (i * j)) B else .bad
  | .lst a, .int k, B => if decide (k < 1000) && decide (-1000 < k) && decide (a.length ≤ 1000) then .ok (.lst (List.replicate k.toNat a).flatten) B else .bad
  | .tup a, .int k, B => if decide (k < 1000) && decide (-1000 < k) && decide (a.length ≤ 1000) then .ok (.tup (List.replicate k.toNat a).flatten) B else .bad
  | _, _, _ => .bad
def rMulA (K : PySem.W.Frag) : R2 := fun x y H Q => (rI CMul fun i j => .int (i * j)) x y H Q ∨ rRep x y H Q ∨ rRepTA K x y H Q
theorem op_mulA {X : Cx} : OpR X (binaryOp .Mult) (rMulA X.K) := op_mul.or (op_rep.or op_repTA)
theorem len_rep {α : Type} (k : Nat) (xs : List α) : (List.replicate k xs).flatten.length = k * xs.length := PyProof.Rows.lm_len_rep_flat ..
theorem os_mul {g : Gs} {E : XK} {H0 : Hp} : OpSem g E H0 (rMulA g.K) fMul := by
  intro w σI B σ H Q x y dx dy s rx ry p
  unfold fMul at p
  split at p
  · rename_i i j
    split at p
    · rename_i h
      refine .inl ⟨i, j, rx.int s, ry.int s, ?_, p.nowR s (rep_int g w _)⟩
      rcases Bool.or_eq_true_iff.mp h with h | h
      · exact .inl (wideB_ok h)
      · exact .inr (wideB_ok h)
    · exact p.elim
  · rename_i ds k
    split at p
    · rename_i h
      simp only [Bool.and_eq_true, decide_eq_true_eq] at h
      obtain ⟨⟨h1, h2⟩, h3⟩ := h
      obtain ⟨a, vs, rfl, q1, r1⟩ := rx.lst s
      refine .inr (.inl ⟨a, k, vs, rfl, ry.int s, q1, by omega, by omega, ?_, fun q hq => p.newL s (r1.rep _) hq⟩)
      rw [r1.len, sizeLine_eq]
      have a1 : ds.length * k.toNat ≤ 1000 * 1000 := Nat.mul_le_mul h3 (by omega)
      omega
    · exact p.elim
  · rename_i ds k
    split at p
    · rename_i h
      simp only [Bool.and_eq_true, decide_eq_true_eq] at h
      obtain ⟨⟨h1, h2⟩, h3⟩ := h
      obtain ⟨a, vs, rfl, q1, r1⟩ := rx.tup s
      refine .inr (.inr ⟨a, k, vs, rfl, ry.int s, q1, by omega, by omega, by rw [r1.len]; exact h3, ?_, fun _ _ q ob hq ho => p.newT s (r1.rep _) hq ho⟩)
      rintro (e | e)
      · have hd : ds = [] := List.eq_nil_of_length_eq_zero (by rw [← r1.len, e]; rfl)
        subst hd
        have e : (List.replicate k.toNat ([] : List D)).flatten = [] := by simp
        rw [e] at p
        exact p.nowR s (rx.tupR s)
      · subst e
        simp at p
        exact p.nowR s (rx.tupR s)
    · exact p.elim
  · exact p.elim
section
variable {g : Gs} {E : XK} {H0 : Hp} {X : Cx} {a b : Expr} {ma mb : Ev} {pos : Pos} {b1 b2 : Bool}
theorem s_mul (c : Ok g X) (ha : Snd g E H0 X b1 a ma) (hb : Snd g E H0 X b2 b mb) : Snd g E H0 X false (.BinOp a .Mult b pos) (mBin fMul ma mb) := s_bin (c.K ▸ op_mulA) os_mul ha hb
end

/-! ### equality of data -/
mutual
def toPy : D → PyData
  | .none => .none
  | .bool b => .bool b
  | .int i => .int i
  | .str x => .str x
  | .tup ds => .tuple (toPys ds)
  | .lst ds => .list (toPys ds)
  | _ => .dict []
def toPys : List D → List PyData
  | [] => []
  | d :: ds => toPy d :: toPys ds
end
mutual
theorem Rep.dp {g : Gs} {w : Wd} {H : Hp} (hs : Same w.P H) : ∀ (d : D) (v : V), Rep g w d v → (toPy d).canLay0 = true → Dp g.K H v (toPy d)
  | .none, v, h, _ => by simp only [Rep] at h; subst h; exact .non
  | .bool b, v, h, _ => by simp only [Rep] at h; subst h; exact .bl b
  | .int b, v, h, _ => by simp only [Rep] at h; subst h; exact .int b
  | .str b, v, h, _ => by simp only [Rep] at h; subst h; exact .str b
  | .tup ds, v, h, c => by
    simp only [Rep] at h
    obtain ⟨a, vs, rfl, q, r⟩ := h
    simp only [toPy, PyData.canLay0] at c ⊢
    exact .tup (sqT_mono hs q.T) (Reps.dp hs ds vs r c)
  | .lst ds, v, h, c => by
    simp only [Rep] at h
    obtain ⟨a, vs, rfl, q, r⟩ := h
    simp only [toPy, PyData.canLay0] at c ⊢
    exact .lst (.inl (.inl (hs _ _ q))) (Reps.dp hs ds vs r c)
  | .scr ds, v, h, c => by simp [toPy, PyData.canLay0] at c
  | .prs ds, v, h, c => by simp [toPy, PyData.canLay0] at c
  | .dct ks ds, v, h, c => by simp [toPy, PyData.canLay0] at c
  | .inst k ds, v, h, c => by simp [toPy, PyData.canLay0] at c
  | .box n, v, h, c => by simp [toPy, PyData.canLay0] at c
  | .cls n, v, h, c => by simp [toPy, PyData.canLay0] at c
theorem Reps.dp {g : Gs} {w : Wd} {H : Hp} (hs : Same w.P H) : ∀ (ds : List D) (vs : List V), Reps g w ds vs → PyData.canLayAll0 (toPys ds) = true → DpAll g.K H vs (toPys ds)
  | [], vs, h, _ => by simp only [Reps] at h; subst h; exact .nil
  | d :: ds, vs, h, c => by
    simp only [Reps] at h
    obtain ⟨v, us, rfl, r, rs⟩ := h
    simp only [toPys, PyData.canLayAll0, Bool.and_eq_true] at c ⊢
    exact .cons (Rep.dp hs d v r c.1) (Reps.dp hs ds us rs c.2)
end
theorem RepO.dp {g : Gs} {w : Wd} {H H0 : Hp} {σI : Sl} {σ : L2.St} {B : Bs} {x : V} {d : D} (s : S0 g H0 w σI B σ H) (h : RepO g w σI σ d x) (c : (toPy d).canLay0 = true) : Dp g.K H x (toPy d) := by
  rcases h with h | h
  · exact Rep.dp s.rb.sub d x h c
  · have h' : RepO g w σI σ d x := .inr h
    obtain ⟨i, h1, h2⟩ := h
    obtain ⟨a, o, e, ha, ct, _⟩ := s.ow i _ h1
    cases d <;> simp [Cont] at ct
    · obtain ⟨a, vs, rfl, q, r⟩ := h'.lst s
      simp only [toPy, PyData.canLay0] at c ⊢
      exact .lst (.inl (.inl q)) (Reps.dp s.rb.sub _ vs r c)
    · simp [toPy, PyData.canLay0] at c
    · simp [toPy, PyData.canLay0] at c
/-- plain data of some depth -/
def shp (d : D) : Bool := SeqAt.shaped (toPy d)
def eqD (d e : D) : Bool := PyData.eqv (toPy d) (toPy e)
def fEq : D → D → Bs → Rs D := fun d e B => if shp d && shp e then .ok (.bool (eqD d e)) B else .bad
def fNe : D → D → Bs → Rs D := fun d e B => if shp d && shp e then .ok (.bool (!eqD d e)) B else .bad
theorem os_eq {g : Gs} {E : XK} {H0 : Hp} : OpSem g E H0 (rEqD g.K) fEq := by
  intro w σI B σ H Q x y dx dy s rx ry p
  unfold fEq at p
  split at p
  · rename_i h
    obtain ⟨h1, h2⟩ := Bool.and_eq_true_iff.mp h
    exact ⟨_, _, rx.dp s (SeqAt.canLay_of_shaped h1), ry.dp s (SeqAt.canLay_of_shaped h2), h1, h2, p.nowR s (rep_bool g w _)⟩
  · exact p.elim
theorem os_ne {g : Gs} {E : XK} {H0 : Hp} : OpSem g E H0 (rNeD g.K) fNe := by
  intro w σI B σ H Q x y dx dy s rx ry p
  unfold fNe at p
  split at p
  · rename_i h
    obtain ⟨h1, h2⟩ := Bool.and_eq_true_iff.mp h
    exact ⟨_, _, rx.dp s (SeqAt.canLay_of_shaped h1), ry.dp s (SeqAt.canLay_of_shaped h2), h1, h2, p.nowR s (rep_bool g w _)⟩
  · exact p.elim
/-! ### in -/
def rInT (K : PySem.W.Frag) : R2 := fun x y H Q => ∃ d ds, Dp K H x d ∧ Dp K H y (.tuple ds) ∧ SeqAt.shaped d = true ∧ SeqAt.shaped (.tuple ds) = true ∧ Q (.bl (ds.any fun z => PyData.eqv z d)) H
def rNotInT (K : PySem.W.Frag) : R2 := fun x y H Q => ∃ d ds, Dp K H x d ∧ Dp K H y (.tuple ds) ∧ SeqAt.shaped d = true ∧ SeqAt.shaped (.tuple ds) = true ∧ Q (.bl (!ds.any fun z => PyData.eqv z d)) H
theorem op_inT {X : Cx} (hu : X.A.units + 65 < cLine) : OpR X (compareOp .In) (rInT X.K) := by
  intro pins s σ H x y v u Q I rx ry h
  obtain ⟨d, ds, hd, he, sd, se, q⟩ := h
  obtain ⟨as, r1⟩ := Dp.reads I d x v hd rx
  obtain ⟨bs, r2⟩ := Dp.reads I (.tuple ds) y u he ry
  exact SeqAt.in_tuple_reads r2 r1 (SeqAt.canLay_of_shaped se) (SeqAt.canLay_of_shaped sd) (room_in_shaped sd hu) ⟨.bl _, H, I, rfl, q⟩
theorem op_notInT {X : Cx} (hu : X.A.units + 65 < cLine) : OpR X (compareOp .NotIn) (rNotInT X.K) := by
  intro pins s σ H x y v u Q I rx ry h
  obtain ⟨d, ds, hd, he, sd, se, q⟩ := h
  obtain ⟨as, r1⟩ := Dp.reads I d x v hd rx
  obtain ⟨bs, r2⟩ := Dp.reads I (.tuple ds) y u he ry
  exact SeqAt.notIn_tuple_reads r2 r1 (SeqAt.canLay_of_shaped se) (SeqAt.canLay_of_shaped sd) (room_in_shaped sd hu) ⟨.bl _, H, I, rfl, q⟩
def inD (d : D) (ds : List D) : Bool := (toPys ds).any fun z => PyData.eqv z (toPy d)
def fInG (f : Bool → Bool) : D → D → Bs → Rs D
  | d, .lst ds, B => if shp d && shp (.lst ds) then .ok (.bool (f (inD d ds))) B else .bad
  | d, .tup ds, B => if shp d && shp (.tup ds) then .ok (.bool (f (inD d ds))) B else .bad
  | _, _, _ => .bad
abbrev fIn := fInG fun b => b
abbrev fNotIn := fInG fun b => !b
theorem os_in {g : Gs} {E : XK} {H0 : Hp} : OpSem g E H0 (fun x y H Q => rInD g.K x y H Q ∨ rInT g.K x y H Q) fIn := by
  intro w σI B σ H Q x y dx dy s rx ry p
  unfold fIn fInG at p
  split at p
  · split at p
    · rename_i h
      obtain ⟨h1, h2⟩ := Bool.and_eq_true_iff.mp h
      exact .inl ⟨_, _, rx.dp s (SeqAt.canLay_of_shaped h1), ry.dp s (SeqAt.canLay_of_shaped h2), h1, h2, p.nowR s (rep_bool g w _)⟩
    · exact p.elim
  · split at p
    · rename_i h
      obtain ⟨h1, h2⟩ := Bool.and_eq_true_iff.mp h
      exact .inr ⟨_, _, rx.dp s (SeqAt.canLay_of_shaped h1), ry.dp s (SeqAt.canLay_of_shaped h2), h1, h2, p.nowR s (rep_bool g w _)⟩
    · exact p.elim
  · exact p.elim
theorem os_notin {g : Gs} {E : XK} {H0 : Hp} : OpSem g E H0 (fun x y H Q => rNotInD g.K x y H Q ∨ rNotInT g.K x y H Q) fNotIn := by
  intro w σI B σ H Q x y dx dy s rx ry p
  unfold fNotIn fInG at p
  split at p
  · split at p
    · rename_i h
      obtain ⟨h1, h2⟩ := Bool.and_eq_true_iff.mp h
      exact .inl ⟨_, _, rx.dp s (SeqAt.canLay_of_shaped h1), ry.dp s (SeqAt.canLay_of_shaped h2), h1, h2, p.nowR s (rep_bool g w _)⟩
    · exact p.elim
  · split at p
    · rename_i h
      obtain ⟨h1, h2⟩ := Bool.and_eq_true_iff.mp h
      exact .inr ⟨_, _, rx.dp s (SeqAt.canLay_of_shaped h1), ry.dp s (SeqAt.canLay_of_shaped h2), h1, h2, p.nowR s (rep_bool g w _)⟩
    · exact p.elim
  · exact p.elim
section
variable {g : Gs} {E : XK} {H0 : Hp} {X : Cx} {a b c : Expr} {ma mb mc : Ev} {pos : Pos}
theorem Ok.u65 (k : Ok g X) : X.A.units + 65 < cLine := by have := k.un; omega
theorem blB (c : Bool) (b : Bool) (B : Bs) : (if c then (Rs.ok (D.bool b) B) else .bad) = Rs.bad ∨ ∃ x B', (if c then (Rs.ok (D.bool b) B) else .bad) = Rs.ok (.bool x) B' := by
  cases c
  · exact .inl rfl
  · exact .inr ⟨_, _, rfl⟩
theorem fIn_bl (f : Bool → Bool) : ∀ d e B, fInG f d e B = .bad ∨ ∃ b B', fInG f d e B = .ok (.bool b) B' := fun d e B => by
  cases e <;> first | exact .inl rfl | exact blB _ _ _
theorem c_eq (k : Ok g X) : Cmp g E H0 X .Eq fEq := ⟨⟨_, k.K ▸ op_eqD (by have := k.un; omega), os_eq⟩, fun _ _ _ => blB _ _ _⟩
theorem c_ne (k : Ok g X) : Cmp g E H0 X .NotEq fNe := ⟨⟨_, k.K ▸ op_neD (by have := k.un; omega), os_ne⟩, fun _ _ _ => blB _ _ _⟩
theorem c_in (k : Ok g X) : Cmp g E H0 X .In fIn := ⟨⟨_, k.K ▸ (op_inD k.u65).or (op_inT k.u65), os_in⟩, fIn_bl _⟩
theorem c_notin (k : Ok g X) : Cmp g E H0 X .NotIn fNotIn := ⟨⟨_, k.K ▸ (op_notInD k.u65).or (op_notInT k.u65), os_notin⟩, fIn_bl _⟩
/-! ### is None -/
def isN : D → Bool
  | .none => true
  | _ => false
def fIs : D → D → Bs → Rs D := fun d e B => if isN e then .ok (.bool (isN d)) B else .bad
def fIsNot : D → D → Bs → Rs D := fun d e B => if isN e then .ok (.bool (!isN d)) B else .bad
theorem isN_rep {w : Wd} {H : Hp} {σI : Sl} {σ : L2.St} {B : Bs} {x : V} {d : D} (s : S0 g H0 w σI B σ H) (r : RepO g w σI σ d x) : decide (x = .non) = isN d := by
  have fin : ∀ a, x = V.ref a → decide (x = V.non) = false := fun a e => by subst e; rfl
  cases d with
  | none => rw [r.none s]; rfl
  | bool b => rw [r.bool s]; rfl
  | int i => rw [r.int s]; rfl
  | str i => rw [r.str s]; rfl
  | tup ds => obtain ⟨a, _, e, _⟩ := r.tup s; exact fin a e
  | lst ds => obtain ⟨a, _, e, _⟩ := r.lst s; exact fin a e
  | scr ds => obtain ⟨a, _, e, _⟩ := r.scr s; exact fin a e
  | prs ds => obtain ⟨a, _, e, _⟩ := r.prs s; exact fin a e
  | dct ks ds => obtain ⟨a, _, e, _⟩ := r.dct s; exact fin a e
  | box n => obtain ⟨a, e, _⟩ := r.box s; exact fin a e
  | cls n =>
    have := r.of s (by simp) (by simp) (by simp)
    simp only [Rep] at this
    exact fin _ this.1
  | inst c ds =>
    rcases r with r | ⟨i, h1, h2⟩
    · simp only [Rep] at r
      obtain ⟨a, _, _, e, _⟩ := r
      exact fin a e
    · obtain ⟨a, o, e, _⟩ := s.ow i _ h1
      rw [h2] at e; cases e; rfl
theorem os_is : OpSem g E H0 (fun x y H Q => y = .non ∧ Q (.bl (decide (x = .non))) H) fIs := by
  intro w σI B σ H Q x y dx dy s rx ry p
  unfold fIs at p
  split at p
  · rename_i h
    cases dy <;> first | exact absurd h Bool.false_ne_true | skip
    exact ⟨ry.none s, by rw [isN_rep s rx]; exact p.nowR s (rep_bool g w _)⟩
  · exact p.elim
theorem os_isnot : OpSem g E H0 (fun x y H Q => y = .non ∧ Q (.bl (!decide (x = .non))) H) fIsNot := by
  intro w σI B σ H Q x y dx dy s rx ry p
  unfold fIsNot at p
  split at p
  · rename_i h
    cases dy <;> first | exact absurd h Bool.false_ne_true | skip
    exact ⟨ry.none s, by rw [isN_rep s rx]; exact p.nowR s (rep_bool g w _)⟩
  · exact p.elim
theorem c_is : Cmp g E H0 X .Is fIs := ⟨⟨_, op_isN, os_is⟩, fun _ _ _ => blB _ _ _⟩
theorem c_isnot : Cmp g E H0 X .IsNot fIsNot := ⟨⟨_, op_notN, os_isnot⟩, fun _ _ _ => blB _ _ _⟩
end
end Hf

set_option Elab.async false
set_option linter.all false
set_option maxRecDepth 100000
set_option maxHeartbeats 4000000
namespace Hf
open PySem PySem.Spec PyProof.Rows L2

/-! ### comparisons -/
section
variable {g : Gs} {E : XK} {H0 : Hp} {X : Cx} {a b c : Expr} {ma mb mc : Ev} {pos : Pos} {b1 b2 b3 bo : Bool} {op op' : CmpOp} {f f' : D → D → Bs → Rs D}
theorem s_cmp (P : Cmp g E H0 X op f) (ha : Snd g E H0 X b1 a ma) (hb : Snd g E H0 X b2 b mb) (hm : behindInMarks op b = false := by rfl) : Snd g E H0 X false (.Compare a [op] [b] pos) (mBin f ma mb) := by
  obtain ⟨r, h1, h2⟩ := P.ex
  exact weak (pe_cmpR h1 ha hb hm) (tOp_of h2)
def toB (m : Rs D) : Rs Bool := m.bind fun d B => match d with
  | .bool b => .ok b B
  | _ => .bad
def mCmpT (f : D → D → Bs → Rs D) (ma mb : Ev) : Et := fun σI B => (ma σI B).bind fun x B1 => (mb σI B1).bind fun y B2 => toB (f x y B2)
theorem cmp_end (P : Cmp g E H0 X op f) {w : Wd} {H : Hp} {σI : Sl} {σ : L2.St} {B : Bs} {Q : Bool → Hp → Prop} {x y : D} (p : PostT g E w H Q (toB (f x y B))) :
    PostE g E w H σI σ false (fun x H' => ∃ k, x = .bl k ∧ Q k H') (f x y B) := by
  rcases P.bl x y B with e | ⟨b, B', e⟩
  · rw [e] at p; exact p.elim
  · rw [e] at p ⊢
    intro w' v H' x rb r
    simp only [RepB, Rep] at r
    exact ⟨b, r, p w' H' x rb⟩
theorem t_cmp (P : Cmp g E H0 X op f) (ha : Snd g E H0 X b1 a ma) (hb : Snd g E H0 X b2 b mb) (hm : behindInMarks op b = false := by rfl) : SndT g E H0 X (.Compare a [op] [b] pos) (mCmpT f ma mb) := by
  obtain ⟨r, h1, h2⟩ := id P.ex
  refine weakT (pt_cmpR h1 ha hb hm) ?_
  rintro σ H Q ⟨w, σI, B, s, p⟩
  refine tI_bindT s p fun d B1 w1 v H1 x1 s1 r1 p1 => ?_
  refine tI_bindT s1 p1 fun d2 B2 w2 v2 H2 x2 s2 r2 p2 => ?_
  exact h2 w2 σI B2 σ H2 _ v v2 d d2 s2 (r1.up.mono x2.le) r2.up (cmp_end P p2)
def mChain (f f' : D → D → Bs → Rs D) (ma mb mc : Ev) : Ev := fun σI B => (ma σI B).bind fun x B1 => (mb σI B1).bind fun y B2 => (toB (f x y B2)).bind fun k B3 =>
  if k then (mc σI B3).bind fun z B4 => f' y z B4 else .ok (.bool false) B3
theorem chain_at (P : Cmp g E H0 X op f) {w : Wd} {H : Hp} {σI : Sl} {σ : L2.St} {B : Bs} {Q : VK} {x y : D} {k : Bool → Bs → Rs D} (p : PostE g E w H σI σ false Q ((toB (f x y B)).bind k)) :
    PostE g E w H σI σ false (fun z H' => ∃ b w' B', z = .bl b ∧ Ext w H w' H' ∧ RB g w' B' H' ∧ PostE g E w' H' σI σ false Q (k b B')) (f x y B) := by
  rcases P.bl x y B with e | ⟨b, B', e⟩
  · rw [e] at p; exact p.elim
  · rw [e] at p ⊢
    intro w' v H' x rb r
    simp only [RepB, Rep] at r
    exact ⟨b, w', B', r, x, rb, PostE.ext x p⟩
theorem s_chain (P : Cmp g E H0 X op f) (P' : Cmp g E H0 X op' f') (ha : Snd g E H0 X b1 a ma) (hb : Snd g E H0 X b2 b mb) (hc : Snd g E H0 X b3 c mc) (hm : lastMarks [op, op'] [b, c] = false := by with_unfolding_all rfl) :
    Snd g E H0 X false (.Compare a [op, op'] [b, c] pos) (mChain f f' ma mb mc) := by
  obtain ⟨r, h1, h2⟩ := id P.ex
  obtain ⟨r', h1', h2'⟩ := id P'.ex
  refine weak (pe_chain h1 h1' ha hb hc hm) ?_
  rintro σ H Q ⟨w, σI, B, s, p⟩
  refine tI_bind s p fun d B1 w1 v H1 x1 s1 r1 p1 => ?_
  refine tI_bind s1 p1 fun d2 B2 w2 v2 H2 x2 s2 r2 p2 => ?_
  refine h2 w2 σI B2 σ H2 _ v v2 d d2 s2 (r1.up.mono x2.le) r2.up ?_
  have p3 := chain_at P p2
  revert p3
  generalize hm : f d d2 B2 = m
  intro p3
  cases m with
  | bad => exact p3
  | exc _ _ _ => exact p3
  | ok e B3 =>
    intro w' v' H' x rb rr
    obtain ⟨k, w3, B4, rfl, x3, rb3, p4⟩ := p3 w' v' H' x rb rr
    refine ⟨k, rfl, ?_⟩
    have s3 := s2.step x3 rb3
    cases k with
    | false => exact p4 w3 _ H' (Ext.refl _ _) rb3 (rep_bool g w3 false)
    | true =>
      refine tI_bind s3 p4 fun d5 B5 w5 v5 H5 x5 s5 r5 p5 => ?_
      exact h2' w5 σI B5 σ H5 _ v2 v5 d2 d5 s5 (r2.up.mono (x3.le.trans x5.le)) r5.up p5
def mChainT (f f' : D → D → Bs → Rs D) (ma mb mc : Ev) : Et := fun σI B => (ma σI B).bind fun x B1 => (mb σI B1).bind fun y B2 => (toB (f x y B2)).bind fun k B3 =>
  if k then (mc σI B3).bind fun z B4 => toB (f' y z B4) else .ok false B3
end
/-! ### truth -/
def fTru : D → Option Bool
  | .none => some false
  | .bool b => some b
  | .int i => some (i != 0)
  | .str x => if x.length ≤ sizeLine then some ((x.length : Int) != 0) else Option.none
  | .tup ds => some (!ds.isEmpty)
  | .lst ds => some (!ds.isEmpty)
  | .scr ds => some (!ds.isEmpty)
  | _ => Option.none
theorem isE {g : Gs} {w : Wd} {ds : List D} {vs : List V} (r : Reps g w ds vs) : (!ds.isEmpty) = !vs.isEmpty := by
  have := r.len
  cases ds <;> cases vs <;> simp_all
theorem RepO.tru {g : Gs} {w : Wd} {H H0 : Hp} {σI : Sl} {σ : L2.St} {B : Bs} {x : V} {d : D} {k : Bool} (s : S0 g H0 w σI B σ H) (r : RepO g w σI σ d x) (h : fTru d = some k) : TruV g.K x H k := by
  cases d with
  | none => rw [r.none s]; exact (Option.some.inj h).symm
  | bool b => rw [r.bool s]; exact (Option.some.inj h).symm
  | int i => rw [r.int s]; exact (Option.some.inj h).symm
  | str i =>
    rw [r.str s]
    simp only [fTru] at h
    split at h
    · rename_i hl; exact ⟨hl, (Option.some.inj h).symm⟩
    · cases h
  | tup ds => obtain ⟨a, vs, rfl, q, r⟩ := r.tup s; exact .inr (.inl ⟨vs, q, by rw [← isE r]; exact (Option.some.inj h).symm⟩)
  | lst ds => obtain ⟨a, vs, rfl, q, r⟩ := r.lst s; exact .inl ⟨vs, .inl (.inl q), by rw [← isE r]; exact (Option.some.inj h).symm⟩
  | scr ds => obtain ⟨a, vs, rfl, q, r⟩ := r.scr s; exact .inl ⟨vs, q, by rw [← isE r]; exact (Option.some.inj h).symm⟩
  | prs ds => cases h
  | dct ks ds => cases h
  | box n => cases h
  | cls n => cases h
  | inst c ds => cases h
def tru (d : D) (B : Bs) : Rs Bool := match fTru d with
  | some b => .ok b B
  | Option.none => .bad
theorem tru_ok' {d : D} {B : Bs} {β : Type} {f : Bool → Bs → Rs β} {P : Rs β → Prop} (hp : P ((tru d B).bind f)) (hb : ¬ P .bad) : ∃ k, fTru d = some k ∧ P (f k B) := by
  unfold tru at hp
  cases h : fTru d with
  | none => rw [h] at hp; exact (hb hp).elim
  | some k => rw [h] at hp; exact ⟨k, rfl, hp⟩
def mT (m : Ev) : Et := fun σI B => (m σI B).bind fun d B1 => tru d B1
section
variable {g : Gs} {E : XK} {H0 : Hp} {X : Cx} {a b c : Expr} {ma mb mc : Ev} {ta tb tc : Et} {pos : Pos} {b1 b2 b3 bo : Bool} {rest : List Expr}
/-- an expression as a test -/
theorem t_val (k : Ok g X) (ha : Snd g E H0 X b1 a ma) (he : ∀ whole, isTrue a X.env whole = (do let v ← whole; standAt a.pos; holding [v] (truthy v)) := by intro _; rfl) : SndT g E H0 X a (mT ma) := by
  refine weakT (pt_truth ha he) ?_
  rintro σ H Q ⟨w, σI, B, s, p⟩
  refine tI_bindT s p fun d B1 w1 v H1 x1 s1 r1 p1 => ?_
  unfold tru at p1
  split at p1
  · rename_i k' e
    exact ⟨k', k.K ▸ r1.up.tru s1 e, p1 w1 H1 (Ext.refl _ _) s1.rb⟩
  · exact p1.elim
def mNotT (t : Et) : Et := fun σI B => (t σI B).bind fun k B1 => .ok (!k) B1
theorem t_not (ha : SndT g E H0 X a ta) : SndT g E H0 X (.UnaryOp .Not a pos) (mNotT ta) := by
  refine weakT (pt_not ha) ?_
  rintro σ H Q ⟨w, σI, B, s, p⟩
  exact tIt_bindT s p fun k B1 w1 H1 x1 s1 p1 => p1 w1 H1 (Ext.refl _ _) s1.rb
def mAndT (t u : Et) : Et := fun σI B => (t σI B).bind fun k B1 => if k then u σI B1 else .ok false B1
def mOrT (t u : Et) : Et := fun σI B => (t σI B).bind fun k B1 => if k then .ok true B1 else u σI B1
theorem w_and1 (ha : SndT g E H0 X a ta) : SndW g E H0 X (.BoolOp .And [a] pos) ta := pw_and1 ha
theorem w_or1 (ha : SndT g E H0 X a ta) : SndW g E H0 X (.BoolOp .Or [a] pos) ta := pw_or1 ha
theorem w_and (ha : SndT g E H0 X a ta) (hb : SndW g E H0 X (.BoolOp .And (b :: rest) pos) tb) : SndW g E H0 X (.BoolOp .And (a :: b :: rest) pos) (mAndT ta tb) := by
  refine weakW (pw_and ha hb) ?_
  rintro σ H Q ⟨w, σI, B, s, p⟩
  refine tIt_bindT s p fun k B1 w1 H1 x1 s1 p1 => ?_
  cases k with
  | true => exact ⟨w1, σI, B1, s1, p1⟩
  | false => exact p1 w1 H1 (Ext.refl _ _) s1.rb
theorem w_or (ha : SndT g E H0 X a ta) (hb : SndW g E H0 X (.BoolOp .Or (b :: rest) pos) tb) : SndW g E H0 X (.BoolOp .Or (a :: b :: rest) pos) (mOrT ta tb) := by
  refine weakW (pw_or ha hb) ?_
  rintro σ H Q ⟨w, σI, B, s, p⟩
  refine tIt_bindT s p fun k B1 w1 H1 x1 s1 p1 => ?_
  cases k with
  | false => exact ⟨w1, σI, B1, s1, p1⟩
  | true => exact p1 w1 H1 (Ext.refl _ _) s1.rb
theorem t_w (h : SndW g E H0 X a ta) : SndT g E H0 X a ta := h.pt
/-! as values -/
def mAnd (ma mb : Ev) : Ev := fun σI B => (ma σI B).bind fun d B1 => (tru d B1).bind fun k _ => if k then mb σI B1 else .ok d B1
def mOr (ma mb : Ev) : Ev := fun σI B => (ma σI B).bind fun d B1 => (tru d B1).bind fun k _ => if k then .ok d B1 else mb σI B1
def mNot (ma : Ev) : Ev := fun σI B => (ma σI B).bind fun d B1 => (tru d B1).bind fun k _ => .ok (.bool (!k)) B1
theorem s_one {o : BoolOp} (ha : Snd g E H0 X b1 a ma) : Snd g E H0 X b1 (.BoolOp o [a] pos) ma := pe_one ha
theorem s_and (k : Ok g X) (ha : Snd g E H0 X false a ma) (hb : Snd g E H0 X false (.BoolOp .And (b :: rest) pos) mb) : Snd g E H0 X false (.BoolOp .And (a :: b :: rest) pos) (mAnd ma mb) := by
  refine weak (pe_andT ha hb) ?_
  rintro σ H Q ⟨w, σI, B, s, p⟩
  refine tI_bind s p fun d B1 w1 v H1 x1 s1 r1 p1 => ?_
  obtain ⟨k', e, p2⟩ := tru_ok' (P := fun m => PostE g E w1 H1 σI σ false Q m) p1 (fun h => h)
  refine ⟨k', k.K ▸ r1.up.tru s1 e, ?_⟩
  cases k' with
  | true => exact ⟨w1, σI, B1, s1, p2⟩
  | false => exact p2 w1 v H1 (Ext.refl _ _) s1.rb r1
theorem s_or (k : Ok g X) (ha : Snd g E H0 X false a ma) (hb : Snd g E H0 X false (.BoolOp .Or (b :: rest) pos) mb) : Snd g E H0 X false (.BoolOp .Or (a :: b :: rest) pos) (mOr ma mb) := by
  refine weak (pe_orT ha hb) ?_
  rintro σ H Q ⟨w, σI, B, s, p⟩
  refine tI_bind s p fun d B1 w1 v H1 x1 s1 r1 p1 => ?_
  obtain ⟨k', e, p2⟩ := tru_ok' (P := fun m => PostE g E w1 H1 σI σ false Q m) p1 (fun h => h)
  refine ⟨k', k.K ▸ r1.up.tru s1 e, ?_⟩
  cases k' with
  | false => exact ⟨w1, σI, B1, s1, p2⟩
  | true => exact p2 w1 v H1 (Ext.refl _ _) s1.rb r1
theorem s_not (k : Ok g X) (ha : Snd g E H0 X b1 a ma) : Snd g E H0 X false (.UnaryOp .Not a pos) (mNot ma) := by
  refine weak (pe_notT ha) ?_
  rintro σ H Q ⟨w, σI, B, s, p⟩
  refine tI_bind s p fun d B1 w1 v H1 x1 s1 r1 p1 => ?_
  obtain ⟨k', e, p2⟩ := tru_ok' (P := fun m => PostE g E w1 H1 σI σ false Q m) p1 (fun h => h)
  exact ⟨k', k.K ▸ r1.up.tru s1 e, p2 w1 _ H1 (Ext.refl _ _) s1.rb (rep_bool g w1 _)⟩
def mIte (t : Et) (ma mb : Ev) : Ev := fun σI B => (t σI B).bind fun k B1 => if k then ma σI B1 else mb σI B1
theorem s_ite (hc : SndT g E H0 X c tc) (ha : Snd g E H0 X bo a ma) (hb : Snd g E H0 X bo b mb) : Snd g E H0 X bo (.IfExp c a b pos) (mIte tc ma mb) := by
  refine weak (pe_ifExp hc ha hb) ?_
  rintro σ H Q ⟨w, σI, B, s, p⟩
  refine tIt_bind s p fun k B1 w1 H1 x1 s1 p1 => ?_
  cases k with
  | true => exact ⟨w1, σI, B1, s1, p1⟩
  | false => exact ⟨w1, σI, B1, s1, p1⟩
def mNeg (ma : Ev) : Ev := fun σI B => (ma σI B).bind fun d B1 => match d with
  | .int i => .ok (.int (-i)) B1
  | _ => .bad
theorem s_neg (ha : Snd g E H0 X b1 a ma) : Snd g E H0 X false (.UnaryOp .USub a pos) (mNeg ma) := by
  refine weak (pe_un un_neg ha) ?_
  rintro σ H Q ⟨w, σI, B, s, p⟩
  refine tI_bind s p fun d B1 w1 v H1 x1 s1 r1 p1 => ?_
  cases d <;> first | exact p1.elim | skip
  rename_i i
  exact ⟨i, r1.up.int s1, p1 w1 _ H1 (Ext.refl _ _) s1.rb (rep_int g w1 _)⟩

/-! ### argument lists, displays -/
def mNil : Evs := fun _ B => .ok [] B
def mCons (m : Ev) (ms : Evs) : Evs := fun σI B => (m σI B).bind fun d B1 => (ms σI B1).bind fun ds B2 => .ok (d :: ds) B2
def seqOf : D → Option (List D)
  | .tup ds => some ds
  | .lst ds => some ds
  | _ => Option.none
def mStar (m : Ev) (ms : Evs) : Evs := fun σI B => (m σI B).bind fun d B1 => match seqOf d with
  | some ds => (ms σI B1).bind fun es B2 => .ok (ds ++ es) B2
  | Option.none => .bad
variable {e : Expr} {es : List Expr} {m : Ev} {ms : Evs}
theorem a_nil : Snds g E H0 X [] mNil := weakA pa_nil fun σ H Q ⟨w, σI, B, s, p⟩ => p w [] H (Ext.refl _ _) s.rb (by simp only [Reps])
theorem a_cons (he : Snd g E H0 X false e m) (hr : Snds g E H0 X es ms) (hs : starEach (e :: es) X.env = (false, eval e X.env) :: starEach es X.env := by rfl) : Snds g E H0 X (e :: es) (mCons m ms) := by
  refine weakA (pa_cons he hr hs) ?_
  rintro σ H Q ⟨w, σI, B, s, p⟩
  refine tI_bindA s p fun d B1 w1 v H1 x1 s1 r1 p1 => ?_
  refine tIs_bindA s1 p1 fun ds B2 w2 vs H2 x2 s2 r2 p2 => ?_
  refine p2 w2 _ H2 (Ext.refl _ _) s2.rb ?_
  simp only [Reps]
  exact ⟨v, vs, rfl, Rep.mono x2.le _ _ r1, r2⟩
theorem a_star {p1 : Pos} (k : Ok g X) (he : Snd g E H0 X false e m) (hr : Snds g E H0 X es ms) (hs : starEach (.Starred e p1 :: es) X.env = (true, eval e X.env) :: starEach es X.env := by rfl) : Snds g E H0 X (.Starred e p1 :: es) (mStar m ms) := by
  refine weakA (StX.pa_star he hr hs) ?_
  rintro σ H Q ⟨w, σI, B, s, p⟩
  refine tI_bindA s p fun d B1 w1 v H1 x1 s1 r1 p1 => ?_
  cases hd : seqOf d with
  | none => rw [hd] at p1; exact p1.elim
  | some ds =>
    rw [hd] at p1
    have hv : ∃ a vs, v = V.ref a ∧ (SqT X.K H1 a vs ∨ SqL X.K H1 a vs) ∧ Reps g w1 ds vs := by
      cases d <;> simp [seqOf] at hd
      · subst hd
        obtain ⟨a, vs, e, q, r⟩ := (RepB.up r1).tup s1
        exact ⟨a, vs, e, .inl (k.K ▸ q), r⟩
      · subst hd
        obtain ⟨a, vs, e, q, r⟩ := (RepB.up r1).lst s1
        exact ⟨a, vs, e, .inr (.inl (.inl q)), r⟩
    obtain ⟨a, vs, e, q, r⟩ := hv
    refine ⟨a, vs, e, q, ?_⟩
    refine tIs_bindA s1 p1 fun es B2 w2 us H2 x2 s2 r2 p2 => ?_
    exact p2 w2 _ H2 (Ext.refl _ _) s2.rb (Reps.app (Reps.mono x2.le _ _ r) r2)
end
end Hf

set_option Elab.async false
set_option linter.all false
set_option maxRecDepth 100000
set_option maxHeartbeats 4000000
namespace Hf
open PySem PySem.Spec PyProof.Rows L2

/-! ### fresh containers -/
def PostF (g : Gs) (E : XK) (w : Wd) (H : Hp) (Q : VK) : Rs D → Prop
  | .ok d B' => ∀ w' a o H', Ext w H w' H' → RB g w' B' H' → H' a = some o → Cont g w' d a o → H a = Option.none → w'.P a = Option.none → (∀ n, w'.io n ≠ some a) → (∀ c ds, d ≠ .inst c ds) → Q (.ref a) H'
  | .exc c x B' => ∀ w' cls dd H', Ext w H w' H' → RB g w' B' H' → ExcR g w' c x cls dd H' → E cls dd H'
  | .bad => False
def tF (g : Gs) (E : XK) (H0 : Hp) (m : Ev) : TE := fun σ H Q => ∃ w σI B, S0 g H0 w σI B σ H ∧ PostF g E w H Q (m σI B)
/-- the expression makes a new container -/
abbrev SndF (g : Gs) (E : XK) (H0 : Hp) (X : Cx) (e : Expr) (m : Ev) : Prop := PE X e (tF g E H0 m)
section
variable {g : Gs} {E : XK} {H0 : Hp} {w w1 : Wd} {H H1 : Hp} {σI : Sl} {σ : L2.St} {bo bo1 : Bool} {Q : VK}
theorem PostF.ext (x : Ext w H w1 H1) : ∀ {m : Rs D}, PostF g E w H Q m → PostF g E w1 H1 Q m
  | .ok _ _, h => fun w2 a o H2 x2 rb2 e c n p i z => h w2 a o H2 (x.trans x2) rb2 e c (Classical.byContradiction fun q => x.there a q n) p i z
  | .exc _ _ _, h => fun w2 cls dd H2 x2 rb2 r2 => h w2 cls dd H2 (x.trans x2) rb2 r2
  | .bad, h => h
theorem Cont.rep {d : D} {o : HO} {a : Addr} (c : Cont g w d a o) (hp : w.P a = some o) (z : ∀ c ds, d ≠ .inst c ds) : Rep g w d (.ref a) := by
  cases d <;> simp only [Cont] at c
  · obtain ⟨vs, rfl, r⟩ := c; simp only [Rep]; exact ⟨a, vs, rfl, hp, r⟩
  · obtain ⟨xs, rfl, q⟩ := c; simp only [Rep]; exact ⟨a, xs, rfl, hp, q⟩
  · exact (z _ _ rfl).elim
/-- from now on it is persistent -/
theorem reg_ext {w' : Wd} {H' : Hp} {a : Addr} {o : HO} {B' : Bs} (x : Ext w H w' H') (rb : RB g w' B' H') (e : H' a = some o) (n : H a = Option.none) (p : w'.P a = Option.none) (i : ∀ n, w'.io n ≠ some a) :
    Ext w H (regW w' a o) H' ∧ RB g (regW w' a o) B' H' := by
  have l := regLe w' (o := o) p
  refine ⟨⟨x.le.trans l, x.keep, fun b u h => ?_, x.iof, x.there, x.me⟩, rb.keep l rfl (fun b u h => ?_) (Same.refl _) fun n b h => ?_⟩
  · by_cases hb : b = a
    · subst hb; exact .inr n
    · have h : upd w'.P a o b = some u := h
      rw [upd_ne hb] at h
      exact x.pf b u h
  · by_cases hb : b = a
    · subst hb
      have h : upd w'.P b o b = some u := h
      rw [upd_same] at h; cases h; exact e
    · have h : upd w'.P a o b = some u := h
      rw [upd_ne hb] at h
      exact rb.sub b u h
  · show upd w'.P a o b = Option.none
    rw [upd_ne (fun z => i n (by rw [← z]; exact h))]
    exact rb.np n b h
theorem PostF.of : ∀ {m : Rs D}, PostE g E w H σI σ false Q m → PostF g E w H Q m
  | .ok d B', h => fun w' a o H' x rb e c n p i z => by
    obtain ⟨x2, rb2⟩ := reg_ext x rb e n p i
    exact h (regW w' a o) _ H' x2 rb2 ((c.mono (regLe w' p)).rep upd_same z)
  | .exc _ _ _, h => h
  | .bad, h => h
variable {X : Cx} {e : Expr} {m : Ev}
theorem f_val (h : SndF g E H0 X e m) : Snd g E H0 X false e m := weak h fun σ H Q ⟨w, σI, B, s, p⟩ => ⟨w, σI, B, s, PostF.of p⟩
theorem PostF.newL {ds : List D} {vs : List V} {p : Addr} {B : Bs} (s : S0 g H0 w σI B σ H) (h : PostF g E w H Q (.ok (.lst ds) B)) (r : Reps g w ds vs) (hp : H p = Option.none) : Q (.ref p) (upd H p (.lst vs)) :=
  h w p _ _ (Ext.lay hp) (s.rb.lay hp) upd_same (by simp only [Cont]; exact ⟨vs, rfl, r⟩) hp (s.rb.fresh_P hp) (s.rb.fresh_io hp) (by simp)
theorem tI_bindF {m : Ev} {f : D → Bs → Rs D} {B : Bs} {Q1 : VK} (s : S0 g H0 w σI B σ H) (p : PostF g E w H Q ((m σI B).bind f))
    (ho : ∀ d B1 w1 v H1, Ext w H w1 H1 → S0 g H0 w1 σI B1 σ H1 → RepB g w1 σI σ bo d v → PostF g E w1 H1 Q (f d B1) → Q1 v H1) : tI g E H0 bo m σ H Q1 := by
  refine tI_go s (fun c x B1 q => ?_) (fun q => ?_) fun d B1 q w1 v H1 x s1 r => ?_
  · rw [q] at p; exact p
  · rw [q] at p; exact p
  · rw [q] at p; exact ho d B1 w1 v H1 x s1 r (PostF.ext x p)
theorem tIs_bindF {m : Evs} {f : List D → Bs → Rs D} {B : Bs} {Q1 : List V → Hp → Prop} (s : S0 g H0 w σI B σ H) (p : PostF g E w H Q ((m σI B).bind f))
    (ho : ∀ d B1 w1 v H1, Ext w H w1 H1 → S0 g H0 w1 σI B1 σ H1 → Reps g w1 d v → PostF g E w1 H1 Q (f d B1) → Q1 v H1) : tIs g E H0 m σ H Q1 := by
  refine tIs_go s (fun c x B1 q => ?_) (fun q => ?_) fun d B1 q w1 v H1 x s1 r => ?_
  · rw [q] at p; exact p
  · rw [q] at p; exact p
  · rw [q] at p; exact ho d B1 w1 v H1 x s1 r (PostF.ext x p)
variable {es : List Expr} {ms : Evs} {pos : Pos}
def szL (ds : List D) : Bool := decide (ds.length ≤ sizeLine)
def mTup (ms : Evs) : Ev := fun σI B => (ms σI B).bind fun ds B1 => if szL ds then .ok (.tup ds) B1 else .bad
def mLst (ms : Evs) : Ev := fun σI B => (ms σI B).bind fun ds B1 => if szL ds then .ok (.lst ds) B1 else .bad
/-- (a, b, ..): what is made has no dict -/
def tTupN (t : TA) : TE := fun σ H Q => t σ H fun xs H1 => xs.length ≤ sizeLine ∧ ∀ p (ob : Obj), H1 p = Option.none → ob.dict = Option.none → Q (.ref p) (upd H1 p (.frz ob (.tup xs)))
theorem pe_tupN {t : TA} {x1} (h : PA X es t) : PE X (.Tuple es x1 pos) (tTupN t) := by
  refine ⟨fun pins s σ H Q I h0 => ?_⟩
  refine wpAny_Tuple_spliced (thn (h.run pos pins s σ H _ I h0) fun ws s1 ⟨xs, H1, I1, r, z, q⟩ => ⟨by rw [← r.length]; exact z, ?_⟩)
  exact ⟨.ref s1.heap.objs.size, upd H1 s1.heap.objs.size _, I1.laid (t' := s1.toks) (o := .frz { cls := .type "tuple", data := .seq ws.toArray } (.tup xs)) (fun c oc qc => Heap.get?_push_of_some _ qc) (Nat.le_refl _)
    (frz_tup z r (Heap.get?_push_size _ rfl)), rfl, q _ _ (I1.hok.fresh (Nat.le_refl _)) rfl⟩
theorem s_tup {x1} (h : Snds g E H0 X es ms) : Snd g E H0 X false (.Tuple es x1 pos) (mTup ms) := by
  refine weak (pe_tupN h) ?_
  rintro σ H Q ⟨w, σI, B, s, p⟩
  refine tIs_bind s p fun ds B1 w1 vs H1 x1 s1 r1 p1 => ?_
  split at p1
  · rename_i hl
    exact ⟨by rw [r1.len]; exact of_decide_eq_true hl, fun q ob hq ho => p1.newT s1 r1 hq ho⟩
  · exact p1.elim
theorem f_lst (h : Snds g E H0 X es ms) : SndF g E H0 X (.List es pos) (mLst ms) := by
  refine weak (pe_lst h) ?_
  rintro σ H Q ⟨w, σI, B, s, p⟩
  refine tIs_bindF s p fun ds B1 w1 vs H1 x1 s1 r1 p1 => ?_
  split at p1
  · rename_i hl
    exact ⟨by rw [r1.len]; exact of_decide_eq_true hl, fun q hq => p1.newL s1 r1 hq⟩
  · exact p1.elim
theorem s_lst (h : Snds g E H0 X es ms) : Snd g E H0 X false (.List es pos) (mLst ms) := f_val (f_lst h)
end

/-! ### subscripts -/
def okIf (o : Option D) (B : Bs) : Rs D := match o with
  | some d => .ok d B
  | Option.none => .bad
def fIx : D → D → Bs → Rs D
  | .lst ds, .int i, B => okIf (atI ds i) B
  | .scr ds, .int i, B => okIf (atI ds i) B
  | .tup ds, .int i, B => okIf (atI ds i) B
  | .str z, .int i, B => if z.length ≤ sizeLine then okIf ((atI z.cps.toList i).map fun c => .str ⟨#[c]⟩) B else .bad
  | .box n, .int i, B => match B[n]? with
    | some (.lst ds) => okIf (atI ds i) B
    | _ => .bad
  | _, _, _ => .bad
theorem okIf_go {g : Gs} {E : XK} {w : Wd} {H : Hp} {σI : Sl} {σ : L2.St} {Q : VK} {o : Option D} {B : Bs} (p : PostE g E w H σI σ false Q (okIf o B)) : ∃ d, o = some d ∧ PostE g E w H σI σ false Q (.ok d B) := by
  cases o with
  | none => exact p.elim
  | some d => exact ⟨d, rfl, p⟩
theorem Reps.atI {g : Gs} {w : Wd} {ds : List D} {vs : List V} {i : Int} {d : D} (r : Reps g w ds vs) (e : L2.atI ds i = some d) : ∃ v, L2.atI vs i = some v ∧ Rep g w d v := by
  unfold L2.atI at e ⊢
  rw [r.len]
  cases h : ixN ds.length i with
  | none => rw [h] at e; cases e
  | some j =>
    rw [h] at e
    exact Reps.get r e
theorem os_ix {g : Gs} {E : XK} {H0 : Hp} : OpSem g E H0 (rIx g.K) fIx := by
  intro w σI B σ H Q x y dx dy s rx ry p
  unfold fIx at p
  split at p
  · obtain ⟨d, e, p⟩ := okIf_go p
    obtain ⟨a, vs, rfl, q, r⟩ := rx.lst s
    obtain ⟨v, e2, rv⟩ := r.atI e
    exact .inl ⟨a, vs, _, v, rfl, ry.int s, .inl (.inl q), e2, p.nowR s rv⟩
  · obtain ⟨d, e, p⟩ := okIf_go p
    obtain ⟨a, vs, rfl, q, r⟩ := rx.scr s
    obtain ⟨v, e2, rv⟩ := r.atI e
    exact .inl ⟨a, vs, _, v, rfl, ry.int s, q, e2, p.nowR s rv⟩
  · obtain ⟨d, e, p⟩ := okIf_go p
    obtain ⟨a, vs, rfl, q, r⟩ := rx.tup s
    obtain ⟨v, e2, rv⟩ := r.atI e
    exact .inr (.inl ⟨a, vs, _, v, rfl, ry.int s, q, e2, p.nowR s rv⟩)
  · split at p
    · rename_i hl
      obtain ⟨d, e, p⟩ := okIf_go p
      obtain ⟨c, e1, rfl⟩ := Option.map_eq_some_iff.mp e
      exact .inr (.inr ⟨_, _, c, rx.str s, ry.int s, hl, e1, p.nowR s (rep_str g w _)⟩)
    · exact p.elim
  · split at p
    · rename_i n i ds hb
      obtain ⟨d, e, p⟩ := okIf_go p
      obtain ⟨a, rfl, ha⟩ := rx.box s
      obtain ⟨a', o, h1, h2, c⟩ := s.rb.get _ _ hb
      rw [ha] at h1; cases h1
      simp only [Cont] at c
      obtain ⟨vs, rfl, r⟩ := c
      obtain ⟨v, e2, rv⟩ := r.atI e
      exact .inl ⟨a, vs, _, v, rfl, ry.int s, .inl (.inl h2), e2, p.nowR s rv⟩
    · exact p.elim
  · exact p.elim
section
variable {g : Gs} {E : XK} {H0 : Hp} {X : Cx} {a b e : Expr} {ma mb m ml mh : Ev} {pos p2 : Pos} {b1 b2 b3 : Bool}
theorem s_ix (k : Ok g X) (ha : Snd g E H0 X b1 a ma) (hb : Snd g E H0 X b2 b mb) (hs : PlainIx b := by exact fun _ _ => rfl) : Snd g E H0 X false (.Subscript a b pos) (mBin fIx ma mb) := weak (pe_ix (k.K ▸ ix_seq) ha hb hs) (tOp_of os_ix)
/-! ### slices -/
def cut {α : Type} (xs : List α) (lo hi : Option Int) : List α := (xs.drop (HT.sIx xs.length 0 lo)).take (HT.sIx xs.length xs.length hi - HT.sIx xs.length 0 lo)
def fSl : D → Option Int → Option Int → Bs → Rs D
  | .lst ds, lo, hi, B => .ok (.lst (cut ds lo hi)) B
  | .tup ds, lo, hi, B => .ok (.tup (cut ds lo hi)) B
  | .str z, lo, hi, B => if z.length ≤ sizeLine then .ok (.str (cutS z lo hi)) B else .bad
  | .box n, lo, hi, B => match B[n]? with
    | some (.lst ds) => .ok (.lst (cut ds lo hi)) B
    | _ => .bad
  | _, _, _, _ => .bad
theorem Reps.cut {w : Wd} {ds : List D} {vs : List V} (lo hi : Option Int) (r : Reps g w ds vs) : Reps g w (cut ds lo hi) (cutV vs lo hi) := by
  unfold Hf.cut cutV
  rw [r.len]
  exact Reps.take _ (Reps.drop _ r)
/-- t[lo:hi]: the whole of it is t itself, a part has no dict -/
def rSlN (K : PySem.W.Frag) : V → Option Int → Option Int → Hp → VK → Prop := fun x lo hi H Q => ∃ a xs, x = .ref a ∧ SqT K H a xs ∧
  (HT.sIx xs.length 0 lo = 0 ∧ HT.sIx xs.length xs.length hi = xs.length → Q (.ref a) H) ∧ (¬ (HT.sIx xs.length 0 lo = 0 ∧ HT.sIx xs.length xs.length hi = xs.length) → ∀ p (ob : Obj), H p = Option.none → ob.dict = Option.none → Q (.ref p) (upd H p (.frz ob (.tup (cutV xs lo hi)))))
theorem sl_tupN : SlR X (rSlN X.K) := by
  intro pins s σ H x v vl vu lo hi sl Q I rx hs pl pu h
  obtain ⟨a, xs, rfl, hx, q1, q2⟩ := h
  cases rx
  obtain ⟨us, r, ht, hz⟩ := I.tuple hx
  have hl : us.toArray.size = xs.length := by rw [List.size_toArray, r.length]
  refine ⟨"tuple", _, PyProof.Rows.slot_tuple_getitem.lookup, ht.typeIs, ?_⟩
  by_cases hw : HT.sIx xs.length 0 lo = 0 ∧ HT.sIx xs.length xs.length hi = xs.length
  · exact getItem_tuple_whole ht hs pl pu (by rw [hl]; exact hw) ⟨.ref a, H, I, rfl, q1 hw⟩
  · refine HT.getItem_tuple_cut ht hs pl pu (by rw [hl]; exact hw) ?_ (by rw [hl]; exact hz)
    rw [hl]
    exact ⟨.ref s.heap.objs.size, upd H s.heap.objs.size _, I.laid (t' := s.toks) (o := .frz { cls := .type "tuple", data := .seq ((us.drop (HT.sIx xs.length 0 lo)).take (HT.sIx xs.length xs.length hi - HT.sIx xs.length 0 lo)).toArray } (.tup (cutV xs lo hi))) (fun c oc qc => Heap.get?_push_of_some _ qc) (Nat.le_refl _)
      (frz_tup (Nat.le_trans (cutV_length xs lo hi) hz) ((r.drop _).take _) (Heap.get?_push_size _ rfl)), rfl, q2 hw _ _ (I.hok.fresh (Nat.le_refl _)) rfl⟩
def rSlAll (K : PySem.W.Frag) : V → Option Int → Option Int → Hp → VK → Prop := fun x lo hi H Q => rSlL K x lo hi H Q ∨ rSlN K x lo hi H Q ∨ rSlS x lo hi H Q
theorem sl_all : SlR X (rSlAll X.K) := sl_list.or (sl_tupN.or sl_str)
theorem sl_sem {w : Wd} {σI : Sl} {B : Bs} {σ : L2.St} {H : Hp} {Q : VK} {x : V} {d : D} {lo hi : Option Int} (s : S0 g H0 w σI B σ H) (rx : RepO g w σI σ d x) (p : PostE g E w H σI σ false Q (fSl d lo hi B)) : rSlAll g.K x lo hi H Q := by
  unfold fSl at p
  split at p
  · obtain ⟨a, vs, rfl, q, r⟩ := rx.lst s
    exact .inl ⟨a, vs, rfl, .inl (.inl q), fun q hq => p.newL s (r.cut _ _) hq⟩
  · obtain ⟨a, vs, rfl, q, r⟩ := rx.tup s
    refine .inr (.inl ⟨a, vs, rfl, q, fun h => ?_, fun _ q ob hq ho => p.newT s (r.cut _ _) hq ho⟩)
    have r2 := rx.tupR s
    have e : ∀ ds : List D, vs.length = ds.length → cut ds lo hi = ds := fun ds e => by
      unfold cut
      rw [← e, h.1, h.2, List.drop_zero, Nat.sub_zero, e, List.take_length]
    rw [e _ r.len] at p
    exact p.nowR s r2
  · split at p
    · rename_i hl
      exact .inr (.inr ⟨_, rx.str s, hl, p.nowR s (rep_str g w _)⟩)
    · exact p.elim
  · split at p
    · rename_i n lo hi ds hb
      obtain ⟨a, rfl, ha⟩ := rx.box s
      obtain ⟨a', o, h1, h2, c⟩ := s.rb.get _ _ hb
      rw [ha] at h1; cases h1
      simp only [Cont] at c
      obtain ⟨vs, rfl, r⟩ := c
      exact .inl ⟨a, vs, rfl, .inl (.inl h2), fun q hq => p.newL s (r.cut _ _) hq⟩
    · exact p.elim
  · exact p.elim
def asI (d : D) (B : Bs) : Rs Int := match d with
  | .int i => .ok i B
  | _ => .bad
def mSl00 (m : Ev) : Ev := fun σI B => (m σI B).bind fun d B1 => fSl d none none B1
def mSl10 (m ml : Ev) : Ev := fun σI B => (m σI B).bind fun d B1 => (ml σI B1).bind fun l B2 => (asI l B2).bind fun i B3 => fSl d (some i) none B3
def mSl01 (m mh : Ev) : Ev := fun σI B => (m σI B).bind fun d B1 => (mh σI B1).bind fun l B2 => (asI l B2).bind fun i B3 => fSl d none (some i) B3
def mSl11 (m ml mh : Ev) : Ev := fun σI B => (m σI B).bind fun d B1 => (ml σI B1).bind fun l B2 => (asI l B2).bind fun i B3 => (mh σI B3).bind fun h B4 => (asI h B4).bind fun j B5 => fSl d (some i) (some j) B5
theorem asI_go {w : Wd} {σI : Sl} {B B2 : Bs} {σ : L2.St} {H : Hp} {Q : VK} {d : D} {v : V} {f : Int → Bs → Rs D} (s : S0 g H0 w σI B2 σ H) (r : RepO g w σI σ d v) (p : PostE g E w H σI σ false Q ((asI d B).bind f)) :
    ∃ i, v = .int i ∧ PostE g E w H σI σ false Q (f i B) := by
  cases d <;> first | exact p.elim | skip
  exact ⟨_, r.int s, p⟩
theorem s_sl00 (k : Ok g X) (he : Snd g E H0 X b1 e m) : Snd g E H0 X false (.Subscript e (.Slice none none none p2) pos) (mSl00 m) := by
  refine weak (pe_slice (k.K ▸ sl_all) he po_none po_none) ?_
  rintro σ H Q ⟨w, σI, B, s, p⟩
  exact tI_bind s p fun d B1 w1 v H1 x1 s1 r1 p1 => sl_sem s1 r1.up p1
theorem s_sl10 (k : Ok g X) {l : Expr} (he : Snd g E H0 X b1 e m) (hl : Snd g E H0 X b2 l ml) : Snd g E H0 X false (.Subscript e (.Slice (some l) none none p2) pos) (mSl10 m ml) := by
  refine weak (pe_slice (k.K ▸ sl_all) he (po_some hl) po_none) ?_
  rintro σ H Q ⟨w, σI, B, s, p⟩
  refine tI_bind s p fun d B1 w1 v H1 x1 s1 r1 p1 => ?_
  refine tI_bind s1 p1 fun d2 B2 w2 v2 H2 x2 s2 r2 p2 => ?_
  obtain ⟨i, rfl, p3⟩ := asI_go s2 r2.up p2
  exact ⟨i, rfl, sl_sem s2 (r1.up.mono x2.le) p3⟩
theorem s_sl01 (k : Ok g X) {h : Expr} (he : Snd g E H0 X b1 e m) (hh : Snd g E H0 X b2 h mh) : Snd g E H0 X false (.Subscript e (.Slice none (some h) none p2) pos) (mSl01 m mh) := by
  refine weak (pe_slice (k.K ▸ sl_all) he po_none (po_some hh)) ?_
  rintro σ H Q ⟨w, σI, B, s, p⟩
  refine tI_bind s p fun d B1 w1 v H1 x1 s1 r1 p1 => ?_
  refine tI_bind s1 p1 fun d2 B2 w2 v2 H2 x2 s2 r2 p2 => ?_
  obtain ⟨i, rfl, p3⟩ := asI_go s2 r2.up p2
  exact ⟨i, rfl, sl_sem s2 (r1.up.mono x2.le) p3⟩
theorem s_sl11 (k : Ok g X) {l h : Expr} (he : Snd g E H0 X b1 e m) (hl : Snd g E H0 X b2 l ml) (hh : Snd g E H0 X b3 h mh) : Snd g E H0 X false (.Subscript e (.Slice (some l) (some h) none p2) pos) (mSl11 m ml mh) := by
  refine weak (pe_slice (k.K ▸ sl_all) he (po_some hl) (po_some hh)) ?_
  rintro σ H Q ⟨w, σI, B, s, p⟩
  refine tI_bind s p fun d B1 w1 v H1 x1 s1 r1 p1 => ?_
  refine tI_bind s1 p1 fun d2 B2 w2 v2 H2 x2 s2 r2 p2 => ?_
  obtain ⟨i, rfl, p3⟩ := asI_go s2 r2.up p2
  refine ⟨i, rfl, tI_bind s2 p3 fun d3 B3 w3 v3 H3 x3 s3 r3 p4 => ?_⟩
  obtain ⟨j, rfl, p5⟩ := asI_go s3 r3.up p4
  exact ⟨j, rfl, sl_sem s3 (r1.up.mono (x2.le.trans x3.le)) p5⟩
end

/-! ### built-in functions -/
/-- a built-in by values: one argument -/
def One (g : Gs) (E : XK) (H0 : Hp) (X : Cx) (f : Value) (k : D → Bs → Rs D) : Prop := ∃ r, CallR X f r ∧ ∀ (w : Wd) (σI : Sl) (B : Bs) (σ : L2.St) (H : Hp) (Q : VK) (x : V) (d : D),
  S0 g H0 w σI B σ H → RepO g w σI σ d x → PostE g E w H σI σ false Q (k d B) → r [x] H Q
def Two (g : Gs) (E : XK) (H0 : Hp) (X : Cx) (f : Value) (k : D → D → Bs → Rs D) : Prop := ∃ r, CallR X f r ∧ ∀ (w : Wd) (σI : Sl) (B : Bs) (σ : L2.St) (H : Hp) (Q : VK) (x y : V) (d e : D),
  S0 g H0 w σI B σ H → RepO g w σI σ d x → RepO g w σI σ e y → PostE g E w H σI σ false Q (k d e B) → r [x, y] H Q
/-- .. that makes a new list -/
def OneF (g : Gs) (E : XK) (H0 : Hp) (X : Cx) (f : Value) (k : D → Bs → Rs D) : Prop := ∃ r, CallR X f r ∧ ∀ (w : Wd) (σI : Sl) (B : Bs) (σ : L2.St) (H : Hp) (Q : VK) (x : V) (d : D),
  S0 g H0 w σI B σ H → RepO g w σI σ d x → PostF g E w H Q (k d B) → r [x] H Q
section
variable {g : Gs} {E : XK} {H0 : Hp} {X : Cx} {a b e : Expr} {ma mb m : Ev} {pos p1 : Pos} {b1 b2 : Bool} {x : Str} {id T : String} {k : D → Bs → Rs D} {k2 : D → D → Bs → Rs D}
def m1 (k : D → Bs → Rs D) (m : Ev) : Ev := fun σI B => (m σI B).bind k
theorem one_go {r : List V → Hp → VK → Prop} (hr : ∀ (w : Wd) (σI : Sl) (B : Bs) (σ : L2.St) (H : Hp) (Q : VK) (x : V) (d : D), S0 g H0 w σI B σ H → RepO g w σI σ d x → PostE g E w H σI σ false Q (k d B) → r [x] H Q) :
    ∀ σ H Q, tI g E H0 false (m1 k m) σ H Q → tCB r (tCons (tI g E H0 b1 m) tNil) σ H Q := by
  rintro σ H Q ⟨w, σI, B, s, p⟩
  exact tI_bind s p fun d B1 w1 v H1 x1 s1 r1 p1 => hr w1 σI B1 σ H1 Q v d s1 r1.up p1
theorem s_b1 (h : One g E H0 X (.builtin id) k) (hv : bootBuiltins x = some (.builtin id)) (hm : X.mg x = none) (he : Snd g E H0 X b1 e m) (hg : Gl X x := by rfl) (hn : x ≠ "__name__" := by decide) (hdb : (x == ("__debug__" : Str)) = false := by decide)
    (h1 : starEach (e :: []) X.env = (false, eval e X.env) :: starEach [] X.env := by rfl) : Snd g E H0 X false (.Call (.Name x p1) [e] [] pos) (m1 k m) := by
  obtain ⟨r, hc, hr⟩ := h
  exact weak (pe_callB hc hg hm hv (pa_cons he pa_nil h1) hn hdb h1 rfl) (one_go hr)
theorem s_ty1 (h : One g E H0 X (.type T) k) (hv : bootBuiltins x = some (.type T)) (hm : X.mg x = none) (he : Snd g E H0 X b1 e m) (hg : Gl X x := by rfl) (hn : x ≠ "__name__" := by decide) (hdb : (x == ("__debug__" : Str)) = false := by decide)
    (h1 : starEach (e :: []) X.env = (false, eval e X.env) :: starEach [] X.env := by rfl) : Snd g E H0 X false (.Call (.Name x p1) [e] [] pos) (m1 k m) := by
  obtain ⟨r, hc, hr⟩ := h
  exact weak (pe_callTy hc hg hm hv (pa_cons he pa_nil h1) hn hdb h1 rfl) (one_go hr)
theorem f_ty1 (h : OneF g E H0 X (.type T) k) (hv : bootBuiltins x = some (.type T)) (hm : X.mg x = none) (he : Snd g E H0 X b1 e m) (hg : Gl X x := by rfl) (hn : x ≠ "__name__" := by decide) (hdb : (x == ("__debug__" : Str)) = false := by decide)
    (h1 : starEach (e :: []) X.env = (false, eval e X.env) :: starEach [] X.env := by rfl) : SndF g E H0 X (.Call (.Name x p1) [e] [] pos) (m1 k m) := by
  obtain ⟨r, hc, hr⟩ := h
  refine weak (pe_callTy hc hg hm hv (pa_cons he pa_nil h1) hn hdb h1 rfl) ?_
  rintro σ H Q ⟨w, σI, B, s, p⟩
  exact tI_bindF s p fun d B1 w1 v H1 x1 s1 r1 p1 => hr w1 σI B1 σ H1 Q v d s1 r1.up p1
theorem f_b1 (h : OneF g E H0 X (.builtin id) k) (hv : bootBuiltins x = some (.builtin id)) (hm : X.mg x = none) (he : Snd g E H0 X b1 e m) (hg : Gl X x := by rfl) (hn : x ≠ "__name__" := by decide) (hdb : (x == ("__debug__" : Str)) = false := by decide)
    (h1 : starEach (e :: []) X.env = (false, eval e X.env) :: starEach [] X.env := by rfl) : SndF g E H0 X (.Call (.Name x p1) [e] [] pos) (m1 k m) := by
  obtain ⟨r, hc, hr⟩ := h
  refine weak (pe_callB hc hg hm hv (pa_cons he pa_nil h1) hn hdb h1 rfl) ?_
  rintro σ H Q ⟨w, σI, B, s, p⟩
  exact tI_bindF s p fun d B1 w1 v H1 x1 s1 r1 p1 => hr w1 σI B1 σ H1 Q v d s1 r1.up p1
theorem s_b2 (h : Two g E H0 X (.builtin id) k2) (hv : bootBuiltins x = some (.builtin id)) (hm : X.mg x = none) (ha : Snd g E H0 X b1 a ma) (hb : Snd g E H0 X b2 b mb) (hg : Gl X x := by rfl) (hn : x ≠ "__name__" := by decide) (hdb : (x == ("__debug__" : Str)) = false := by decide)
    (h1 : starEach (a :: [b]) X.env = (false, eval a X.env) :: starEach [b] X.env := by rfl) (h2 : starEach (b :: []) X.env = (false, eval b X.env) :: starEach [] X.env := by rfl) (hpl : (backTo pos (starEach [b] X.env)).any (·.1) = false := by rfl) :
    Snd g E H0 X false (.Call (.Name x p1) [a, b] [] pos) (mBin k2 ma mb) := by
  obtain ⟨r, hc, hr⟩ := h
  refine weak (pe_callB hc hg hm hv (pa_cons ha (pa_cons hb pa_nil h2) h1) hn hdb h1 hpl) ?_
  rintro σ H Q ⟨w, σI, B, s, p⟩
  refine tI_bind s p fun d B1 w1 v H1 x1 s1 r1 p1 => ?_
  refine tI_bind s1 p1 fun d2 B2 w2 v2 H2 x2 s2 r2 p2 => ?_
  exact hr w2 σI B2 σ H2 Q v v2 d d2 s2 (r1.up.mono x2.le) r2.up p2

def fLen : D → Bs → Rs D
  | .str z, B => if z.length ≤ sizeLine then .ok (.int z.length) B else .bad
  | .tup ds, B => .ok (.int ds.length) B
  | .lst ds, B => .ok (.int ds.length) B
  | .scr ds, B => .ok (.int ds.length) B
  | .box n, B => match B[n]? with
    | some (.lst ds) => .ok (.int ds.length) B
    | _ => .bad
  | _, _ => .bad
theorem o_len (c : Ok g X) : One g E H0 X (.builtin "len") fLen := ⟨_, call_len, fun w σI B σ H Q x d s r p => by
  unfold fLen at p
  split at p
  · split at p
    · rename_i hl
      exact ⟨x, _, rfl, by rw [r.str s]; exact ⟨hl, rfl⟩, p.nowR s (rep_int g w _)⟩
    · exact p.elim
  · obtain ⟨a, vs, rfl, q, r⟩ := r.tup s
    exact ⟨_, _, rfl, .inr ⟨vs, c.K ▸ q, rfl⟩, by rw [r.len]; exact p.nowR s (rep_int g w _)⟩
  · obtain ⟨a, vs, rfl, q, r⟩ := r.lst s
    exact ⟨_, _, rfl, .inl ⟨vs, .inl (.inl q), rfl⟩, by rw [r.len]; exact p.nowR s (rep_int g w _)⟩
  · obtain ⟨a, vs, rfl, q, r⟩ := r.scr s
    exact ⟨_, _, rfl, .inl ⟨vs, c.K ▸ q, rfl⟩, by rw [r.len]; exact p.nowR s (rep_int g w _)⟩
  · split at p
    · rename_i n ds hb
      obtain ⟨a, rfl, ha⟩ := r.box s
      obtain ⟨a', o, h1, h2, c⟩ := s.rb.get _ _ hb
      rw [ha] at h1; cases h1
      simp only [Cont] at c
      obtain ⟨vs, rfl, r⟩ := c
      exact ⟨_, _, rfl, .inl ⟨vs, .inl (.inl h2), rfl⟩, by rw [r.len]; exact p.nowR s (rep_int g w _)⟩
    · exact p.elim
  · exact p.elim⟩
def fTupO : D → Bs → Rs D
  | .tup ds, B => .ok (.tup ds) B
  | .lst ds, B => .ok (.tup ds) B
  | _, _ => .bad
/-- tuple(x): a tuple is itself, of a list a new one without a dict -/
def rTupN (K : PySem.W.Frag) : List V → Hp → VK → Prop := fun xs H Q => ∃ p ys, xs = [.ref p] ∧ ((SqL K H p ys ∧ ∀ l (ob : Obj), H l = Option.none → ob.dict = Option.none → Q (.ref l) (upd H l (.frz ob (.tup ys)))) ∨ (SqT K H p ys ∧ Q (.ref p) H))
theorem call_tupN : CallR X (.type "tuple") (rTupN X.K) := by
  intro pins s σ H xs us Q I r h
  obtain ⟨p, ys, rfl, h⟩ := h
  obtain ⟨u, rfl, rx⟩ := vals1 r
  cases rx
  rcases h with ⟨hq, q⟩ | ⟨hq, q⟩
  · obtain ⟨ws, r', pl, hz⟩ := I.list hq
    have hl := r'.length
    refine call_tuple_list pl.isList (fun h1 kp => ?_) (by simp only [List.size_toArray] <;> omega)
    have I1 : Inv X pins σ H { s with heap := h1 } := I.kept (t' := s.toks) kp
    exact ⟨.ref h1.objs.size, upd H h1.objs.size _, I1.laid (t' := s.toks) (o := .frz { cls := .type "tuple", data := .seq ws.toArray } (.tup ys)) (fun c oc qc => Heap.get?_push_of_some _ qc) (Nat.le_refl _)
      (frz_tup hz r' (Heap.get?_push_size _ rfl)), rfl, q _ _ (I1.hok.fresh (Nat.le_refl _)) rfl⟩
  · obtain ⟨ws, _, pl, _⟩ := I.tuple hq
    exact call_tuple_same pl ⟨.ref p, H, I, rfl, q⟩
theorem o_tuple (c : Ok g X) : One g E H0 X (.type "tuple") fTupO := ⟨_, call_tupN, fun w σI B σ H Q x d s r p => by
  unfold fTupO at p
  split at p
  · have r2 := r.tupR s
    obtain ⟨a, vs, rfl, q, r⟩ := r.tup s
    exact ⟨a, vs, rfl, .inr ⟨c.K ▸ q, p.nowR s r2⟩⟩
  · obtain ⟨a, vs, rfl, q, r⟩ := r.lst s
    exact ⟨a, vs, rfl, .inl ⟨.inl (.inl q), fun l ob hl ho => p.newT s r hl ho⟩⟩
  · exact p.elim⟩
def fLstO : D → Bs → Rs D
  | .tup ds, B => .ok (.lst ds) B
  | .lst ds, B => .ok (.lst ds) B
  | .box n, B => match B[n]? with
    | some (.lst ds) => .ok (.lst ds) B
    | _ => .bad
  | _, _ => .bad
theorem o_list (c : Ok g X) : OneF g E H0 X (.type "list") fLstO := ⟨_, call_list_of, fun w σI B σ H Q x d s r p => by
  unfold fLstO at p
  split at p
  · obtain ⟨a, vs, rfl, q, r⟩ := r.tup s
    exact ⟨a, vs, rfl, .inr (c.K ▸ q), fun l hl => p.newL s r hl⟩
  · obtain ⟨a, vs, rfl, q, r⟩ := r.lst s
    exact ⟨a, vs, rfl, .inl (.inl (.inl q)), fun l hl => p.newL s r hl⟩
  · split at p
    · rename_i n ds hb
      obtain ⟨a, rfl, ha⟩ := r.box s
      obtain ⟨a', o, h1, h2, c⟩ := s.rb.get _ _ hb
      rw [ha] at h1; cases h1
      simp only [Cont] at c
      obtain ⟨vs, rfl, r⟩ := c
      exact ⟨a, vs, rfl, .inl (.inl (.inl h2)), fun l hl => p.newL s r hl⟩
    · exact p.elim
  · exact p.elim⟩
def fInt : D → Bs → Rs D
  | .int i, B => .ok (.int i) B
  | .bool b, B => .ok (.int (if b then 1 else 0)) B
  | _, _ => .bad
theorem o_int : One g E H0 X (.type "int") fInt := ⟨_, call_int1, fun w σI B σ H Q x d s r p => by
  unfold fInt at p
  split at p
  · exact .inl ⟨_, by rw [r.int s], p.nowR s (rep_int g w _)⟩
  · exact .inr ⟨_, by rw [r.bool s], p.nowR s (rep_int g w _)⟩
  · exact p.elim⟩
def fStrI : D → Bs → Rs D
  | .int i, B => if i.natAbs.log2 < 1920 then .ok (.str (Str.ofString (toString i))) B else .bad
  | _, _ => .bad
theorem o_str : One g E H0 X (.type "str") fStrI := ⟨_, call_str_int, fun w σI B σ H Q x d s r p => by
  unfold fStrI at p
  split at p
  · split at p
    · rename_i hl
      exact ⟨_, by rw [r.int s], hl, p.nowR s (rep_str g w _)⟩
    · exact p.elim
  · exact p.elim⟩
abbrev fMax2 := fI2 (fun i j => .int (if j > i then j else i)) fun _ _ => true
abbrev fMin2 := fI2 (fun i j => .int (if j < i then j else i)) fun _ _ => true
theorem o_max2 (c : Ok g X) : Two g E H0 X (.builtin "max") fMax2 := ⟨_, call_max2 c.calm, fun w σI B σ H Q x y d e s r1 r2 p => by
  cases d <;> first | exact p.elim | skip
  cases e <;> first | exact p.elim | skip
  exact ⟨_, _, by rw [r1.int s, r2.int s], PostE.nowR s p (rep_int g w _)⟩⟩
theorem o_min2 (c : Ok g X) : Two g E H0 X (.builtin "min") fMin2 := ⟨_, call_min2 c.calm, fun w σI B σ H Q x y d e s r1 r2 p => by
  cases d <;> first | exact p.elim | skip
  cases e <;> first | exact p.elim | skip
  exact ⟨_, _, by rw [r1.int s, r2.int s], PostE.nowR s p (rep_int g w _)⟩⟩
end
end Hf

set_option Elab.async false
set_option linter.all false
set_option maxRecDepth 100000
set_option maxHeartbeats 4000000
namespace Hf
open PySem PySem.Spec PyProof.Rows L2

/-! ### statements -/
inductive Ss where
  | next (σ : Sl) (B : Bs) | ret (d : D) (B : Bs) | exc (c : Nat) (x : Option D) (B : Bs) | bad
abbrev Ms := Sl → Bs → Ss
def Ss.seq (m : Ss) (k : Ms) : Ss := match m with
  | .next σ B => k σ B
  | .ret d B => .ret d B
  | .exc c x B => .exc c x B
  | .bad => .bad
def Rs.st {α : Type} (m : Rs α) (k : α → Bs → Ss) : Ss := match m with
  | .ok a B => k a B
  | .exc c x B => .exc c x B
  | .bad => .bad
def PostS (g : Gs) (E : XK) (w0 : Wd) (H0 : Hp) (w : Wd) (D : Ends) : Ss → Prop
  | .next σI B => ∀ w' σ H, Le w w' → S0 g H0 w' σI B σ H → Ext w0 H0 w' H → D.nx σ H
  | .ret d B => ∀ w v H, RB g w B H → Ext w0 H0 w H → Rep g w d v → D.rt v H
  | .exc c x B => ∀ w cls dd H, RB g w B H → Ext w0 H0 w H → ExcR g w c x cls dd H → E cls dd H
  | .bad => False
def tS (g : Gs) (E : XK) (w0 : Wd) (H0 : Hp) (m : Ms) : TS := fun D σ H => ∃ w σI B, S0 g H0 w σI B σ H ∧ Ext w0 H0 w H ∧ PostS g E w0 H0 w D (m σI B)
abbrev SndS (g : Gs) (E : XK) (w0 : Wd) (H0 : Hp) (X : Cx) (st : Stmt) (m : Ms) : Prop := PS X st (tS g E w0 H0 m)
abbrev SndB (g : Gs) (E : XK) (w0 : Wd) (H0 : Hp) (X : Cx) (st : List Stmt) (m : Ms) : Prop := PSs X st (tS g E w0 H0 m)
theorem weakS {X : Cx} {e : Stmt} {t t' : TS} (h : PS X e t) (k : ∀ D σ H, t' D σ H → t D σ H) : PS X e t' := ⟨fun pins s σ H Q I q => h.run pins s σ H Q I (k Q σ H q)⟩
theorem weakB {X : Cx} {e : List Stmt} {t t' : TS} (h : PSs X e t) (k : ∀ D σ H, t' D σ H → t D σ H) : PSs X e t' := ⟨fun pins s σ H Q I q => h.run pins s σ H Q I (k Q σ H q)⟩

section
variable {g : Gs} {E : XK} {w0 w w1 : Wd} {H H0 H1 : Hp} {σI : Sl} {σ : L2.St} {B : Bs} {bo : Bool} {Q : VK} {D : Ends}
theorem PostS.le (l : Le w w1) : ∀ {m : Ss}, PostS g E w0 H0 w D m → PostS g E w0 H0 w1 D m
  | .next _ _, h => fun w' σ H l' s x => h w' σ H (l.trans l') s x
  | .ret _ _, h => h
  | .exc _ _ _, h => h
  | .bad, h => h
/-- an expression at the head of a statement -/
theorem st_go {m : Ev} {f : Hf.D → Bs → Ss} {Q1 : VK} (s : S0 g H0 w σI B σ H) (x0 : Ext w0 H0 w H) (p : PostS g E w0 H0 w D ((m σI B).st f))
    (ho : ∀ d B1 w1 v H1, Ext w0 H0 w1 H1 → Ext w H w1 H1 → S0 g H0 w1 σI B1 σ H1 → RepB g w1 σI σ bo d v → PostS g E w0 H0 w1 D (f d B1) → Q1 v H1) : tI g E H0 bo m σ H Q1 := by
  refine tI_go s (fun c x B1 q => ?_) (fun q => ?_) fun d B1 q w1 v H1 x s1 r => ?_
  · rw [q] at p; exact fun w' cls dd H' x' rb r => p w' cls dd H' rb (x0.trans x') r
  · rw [q] at p; exact p
  · rw [q] at p; exact ho d B1 w1 v H1 (x0.trans x) x s1 r (PostS.le x.le p)
theorem st_goA {m : Evs} {f : List Hf.D → Bs → Ss} {Q1 : List V → Hp → Prop} (s : S0 g H0 w σI B σ H) (x0 : Ext w0 H0 w H) (p : PostS g E w0 H0 w D ((m σI B).st f))
    (ho : ∀ d B1 w1 v H1, Ext w0 H0 w1 H1 → Ext w H w1 H1 → S0 g H0 w1 σI B1 σ H1 → Reps g w1 d v → PostS g E w0 H0 w1 D (f d B1) → Q1 v H1) : tIs g E H0 m σ H Q1 := by
  refine tIs_go s (fun c x B1 q => ?_) (fun q => ?_) fun d B1 q w1 v H1 x s1 r => ?_
  · rw [q] at p; exact fun w' cls dd H' x' rb r => p w' cls dd H' rb (x0.trans x') r
  · rw [q] at p; exact p
  · rw [q] at p; exact ho d B1 w1 v H1 (x0.trans x) x s1 r (PostS.le x.le p)
theorem st_goT {m : Et} {f : Bool → Bs → Ss} {Q1 : Bool → Hp → Prop} (s : S0 g H0 w σI B σ H) (x0 : Ext w0 H0 w H) (p : PostS g E w0 H0 w D ((m σI B).st f))
    (ho : ∀ d B1 w1 H1, Ext w0 H0 w1 H1 → S0 g H0 w1 σI B1 σ H1 → PostS g E w0 H0 w1 D (f d B1) → Q1 d H1) : tIt g E H0 m σ H Q1 := by
  refine tIt_go s (fun c x B1 q => ?_) (fun q => ?_) fun d B1 q w1 H1 x s1 => ?_
  · rw [q] at p; exact fun w' cls dd H' x' rb r => p w' cls dd H' rb (x0.trans x') r
  · rw [q] at p; exact p
  · rw [q] at p; exact ho d B1 w1 H1 (x0.trans x) s1 (PostS.le x.le p)
theorem st_goF {m : Ev} {f : Hf.D → Bs → Ss} {Q1 : VK} (s : S0 g H0 w σI B σ H) (x0 : Ext w0 H0 w H) (p : PostS g E w0 H0 w D ((m σI B).st f))
    (ho : ∀ d B1 w1 a o H1, Ext w0 H0 w1 H1 → Ext w H w1 H1 → S0 g H0 w1 σI B1 σ H1 → H1 a = some o → Cont g w1 d a o → H a = Option.none → w1.P a = Option.none → (∀ n, w1.io n ≠ some a) → (∀ c ds, d ≠ .inst c ds) → PostS g E w0 H0 w1 D (f d B1) → Q1 (.ref a) H1) : tF g E H0 m σ H Q1 := by
  refine ⟨w, σI, B, s, ?_⟩
  cases q : m σI B with
  | ok d B1 =>
    rw [q] at p
    exact fun w1 a o H1 x rb e c n pp i z => ho d B1 w1 a o H1 (x0.trans x) x (s.step x rb) e c n pp i z (PostS.le x.le p)
  | exc c x B1 =>
    rw [q] at p
    exact fun w' cls dd H' x' rb r => p w' cls dd H' rb (x0.trans x') r
  | bad => rw [q] at p; exact p

/-! slots -/
theorem get_set {α : Type} {l : List α} {i j : Nat} {a b : α} (h : (l.set i a)[j]? = some b) : (i = j ∧ a = b ∧ i < l.length) ∨ (i ≠ j ∧ l[j]? = some b) := by
  by_cases e : i = j
  · subst e
    by_cases hl : i < l.length
    · rw [List.getElem?_set_self hl] at h; exact .inl ⟨rfl, Option.some.inj h, hl⟩
    · rw [List.getElem?_eq_none (by simp; omega)] at h; cases h
  · rw [List.getElem?_set_ne e] at h; exact .inr ⟨e, h⟩
theorem S0.set {d : Hf.D} {v : V} (s : S0 g H0 w σI B σ H) (i : Nat) (r : Rep g w d v) : S0 g H0 w (σI.set i (some (false, d))) B (σ.set i (some v)) H where
  rb := s.rb
  len := by simp [s.len]
  sl := fun j e h => by
    rcases get_set h with ⟨rfl, h1, h2⟩ | ⟨h1, h2⟩
    · cases h1
      exact ⟨v, by rw [List.getElem?_set_self (by rw [← s.len]; exact h2)], r⟩
    · obtain ⟨u, e1, e2⟩ := s.sl j e h2
      exact ⟨u, by rw [List.getElem?_set_ne h1]; exact e1, e2⟩
  ow := fun j e h => by
    rcases get_set h with ⟨rfl, h1, h2⟩ | ⟨h1, h2⟩
    · cases h1
    · obtain ⟨a, o, e1, e2⟩ := s.ow j e h2
      exact ⟨a, o, by rw [List.getElem?_set_ne h1]; exact e1, e2⟩
  oi := fun j k e f a h1 h2 h3 h4 => by
    rcases get_set h1 with ⟨rfl, q, _⟩ | ⟨n1, q1⟩
    · cases q
    rcases get_set h2 with ⟨rfl, q, _⟩ | ⟨n2, q2⟩
    · cases q
    rw [List.getElem?_set_ne n1] at h3
    rw [List.getElem?_set_ne n2] at h4
    exact s.oi j k e f a q1 q2 h3 h4
  me := fun j c ds b h1 h2 => by
    rcases get_set h1 with ⟨rfl, q, _⟩ | ⟨n1, q1⟩
    · cases q
    rw [List.getElem?_set_ne n1] at h2
    exact s.me j c ds b q1 h2
theorem S0.own_ne {j : Nat} {e : Hf.D} {a : Addr} (s : S0 g H0 w σI B σ H) (h : σI[j]? = some (some (true, e))) (n : H a = Option.none) : σ[j]? ≠ some (some (.ref a)) := fun z => by
  obtain ⟨b, o, e1, e2, _⟩ := s.ow j e h
  rw [z] at e1; cases e1; rw [n] at e2; cases e2
theorem S0.setO {d : Hf.D} {a : Addr} {o : HO} (s : S0 g H0 w σI B σ H) (i : Nat) (e : H a = some o) (c : Cont g w d a o) (np : w.P a = Option.none) (nb : ∀ n, w.io n ≠ some a) (n0 : H0 a = Option.none)
    (nw : ∀ (j : Nat) (e : Hf.D), σI[j]? = some (some (true, e)) → σ[j]? ≠ some (some (V.ref a))) (z : ∀ c ds, d ≠ .inst c ds) : S0 g H0 w (σI.set i (some (true, d))) B (σ.set i (some (.ref a))) H where
  rb := s.rb
  len := by simp [s.len]
  sl := fun j f h => by
    rcases get_set h with ⟨rfl, h1, h2⟩ | ⟨h1, h2⟩
    · cases h1
    · obtain ⟨u, e1, e2⟩ := s.sl j f h2
      exact ⟨u, by rw [List.getElem?_set_ne h1]; exact e1, e2⟩
  ow := fun j f h => by
    rcases get_set h with ⟨rfl, h1, h2⟩ | ⟨h1, h2⟩
    · cases h1
      exact ⟨a, o, by rw [List.getElem?_set_self (by rw [← s.len]; exact h2)], e, c, np, nb, n0⟩
    · obtain ⟨b, u, e1, e2⟩ := s.ow j f h2
      exact ⟨b, u, by rw [List.getElem?_set_ne h1]; exact e1, e2⟩
  oi := fun j k f f' b h1 h2 h3 h4 => by
    rcases get_set h1 with ⟨rfl, q, l⟩ | ⟨n1, q1⟩
    · rcases get_set h2 with ⟨rfl, q', l'⟩ | ⟨n2, q2⟩
      · rfl
      · rw [List.getElem?_set_self (by rw [← s.len]; exact l)] at h3
        rw [List.getElem?_set_ne n2] at h4
        cases h3
        exact (nw k f' q2 h4).elim
    · rcases get_set h2 with ⟨rfl, q', l'⟩ | ⟨n2, q2⟩
      · rw [List.getElem?_set_self (by rw [← s.len]; exact l')] at h4
        rw [List.getElem?_set_ne n1] at h3
        cases h4
        exact (nw j f q1 h3).elim
      · rw [List.getElem?_set_ne n1] at h3
        rw [List.getElem?_set_ne n2] at h4
        exact s.oi j k f f' b q1 q2 h3 h4
  me := fun j c ds b h1 h2 => by
    rcases get_set h1 with ⟨rfl, q, _⟩ | ⟨n1, q1⟩
    · cases q; exact (z _ _ rfl).elim
    rw [List.getElem?_set_ne n1] at h2
    exact s.me j c ds b q1 h2
theorem set_same {l : L2.St} {i : Nat} {x : Option V} (h : l[i]? = some x) : l.set i x = l := by
  apply List.ext_getElem?
  intro j
  by_cases e : i = j
  · subst e
    rw [List.getElem?_set_self (by
      have := (List.getElem?_eq_some_iff.mp h).1
      exact this), h]
  · rw [List.getElem?_set_ne e]
/-- a name's own container is changed -/
theorem S0.mut {d d' : Hf.D} {a : Addr} {o' : HO} {i : Nat} (s : S0 g H0 w σI B σ H) (h : σI[i]? = some (some (true, d))) (hi : σ[i]? = some (some (.ref a))) (c : Cont g w d' a o') (hm : ∀ c ds, d' = .inst c ds → ∃ c' ds', d = .inst c' ds') : S0 g H0 w (σI.set i (some (true, d'))) B σ (upd H a o') := by
  obtain ⟨a', o, e1, ha, _, np, nb, n0⟩ := s.ow i d h
  rw [hi] at e1; cases e1
  have hP : ∀ b u, w.P b = some u → b ≠ a := fun b u e z => by subst z; rw [np] at e; cases e
  refine ⟨⟨fun b u e => by rw [upd_ne (hP b u e)]; exact s.rb.sub b u e, fun n b e => ?_, s.rb.inj, s.rb.np, s.rb.dom⟩, by simp [s.len], fun j e q => ?_, fun j e q => ?_, fun j k e f b h1 h2 h3 h4 => ?_, fun j c ds b h1 h2 => ?_⟩
  · obtain ⟨b', u, h1, h2, h3⟩ := s.rb.get n b e
    exact ⟨b', u, h1, by rw [upd_ne (fun z => nb n (by rw [← z]; exact h1))]; exact h2, h3⟩
  · rcases get_set q with ⟨rfl, h1, h2⟩ | ⟨h1, h2⟩
    · cases h1
    · exact s.sl j e h2
  · rcases get_set q with ⟨rfl, h1, h2⟩ | ⟨h1, h2⟩
    · cases h1
      exact ⟨a, o', hi, upd_same, c, np, nb, n0⟩
    · obtain ⟨b, u, e1, e2, e3⟩ := s.ow j e h2
      refine ⟨b, u, e1, ?_, e3⟩
      rw [upd_ne (fun z => h1 (s.oi i j d e a h h2 hi (by rw [← z]; exact e1)))]
      exact e2
  · rcases get_set h1 with ⟨rfl, q, l⟩ | ⟨n1, q1⟩
    · rcases get_set h2 with ⟨rfl, q', l'⟩ | ⟨n2, q2⟩
      · rfl
      · exact s.oi _ _ _ _ b h q2 h3 h4
    · rcases get_set h2 with ⟨rfl, q', l'⟩ | ⟨n2, q2⟩
      · exact s.oi _ _ _ _ b q1 h h3 h4
      · exact s.oi _ _ _ _ b q1 q2 h3 h4
  · rcases get_set h1 with ⟨rfl, q, _⟩ | ⟨n1, q1⟩
    · cases q
      obtain ⟨c', ds', rfl⟩ := hm _ _ rfl
      exact s.me _ c' ds' b h h2
    · exact s.me j c ds b q1 h2
theorem Ext.mut {a : Addr} {o : HO} (x : Ext w0 H0 w H) (n0 : H0 a = Option.none) : Ext w0 H0 w (upd H a o) where
  le := x.le
  keep := fun b u h hn => by rw [upd_ne (ne_of_none h n0)]; exact x.keep b u h hn
  pf := x.pf
  iof := x.iof
  there := fun b h z => by
    by_cases e : b = a
    · subst e; exact h n0
    · rw [upd_ne e] at z; exact x.there b h z
  me := x.me
/-- .. a box -/
theorem Ext.mutB {n : Nat} {a : Addr} {o : HO} (x : Ext w0 H0 w H) (hn : w.io n = some a) : Ext w0 H0 w (upd H a o) where
  le := x.le
  keep := fun b u h hb => by
    have e : b ≠ a := fun z => by
      subst z
      rcases x.iof n b hn with q | q
      · exact hb n q
      · rw [h] at q; cases q
    rw [upd_ne e]; exact x.keep b u h hb
  pf := x.pf
  iof := x.iof
  there := fun b h z => by
    by_cases e : b = a
    · subst e; rw [upd_same] at z; cases z
    · rw [upd_ne e] at z; exact x.there b h z
  me := x.me
theorem RB.mut {n : Nat} {a : Addr} {o' : HO} {d' : Hf.D} (rb : RB g w B H) (hn : w.io n = some a) (c : Cont g w d' a o') : RB g w (B.set n d') (upd H a o') where
  sub := fun b u e => by
    rw [upd_ne (fun z => by subst z; rw [rb.np n b hn] at e; cases e)]; exact rb.sub b u e
  get := fun m b e => by
    rcases get_set e with ⟨rfl, rfl, _⟩ | ⟨h1, h2⟩
    · exact ⟨a, o', hn, upd_same, c⟩
    · obtain ⟨b', u, e1, e2, e3⟩ := rb.get m b h2
      exact ⟨b', u, e1, by rw [upd_ne (fun z => h1 (rb.inj n m a hn (by rw [← z]; exact e1)))]; exact e2, e3⟩
  inj := rb.inj
  np := rb.np
  dom := fun m b e => by rw [List.length_set]; exact rb.dom m b e
theorem S0.mutB {n : Nat} {a : Addr} {o' : HO} {d' : Hf.D} (s : S0 g H0 w σI B σ H) (hn : w.io n = some a) (c : Cont g w d' a o') : S0 g H0 w σI (B.set n d') σ (upd H a o') where
  rb := s.rb.mut hn c
  len := s.len
  sl := s.sl
  ow := fun i d h => by
    obtain ⟨b, u, e1, e2, e3, e4, e5, e6⟩ := s.ow i d h
    exact ⟨b, u, e1, by rw [upd_ne (fun z => e5 n (by rw [z]; exact hn))]; exact e2, e3, e4, e5, e6⟩
  oi := s.oi
  me := s.me
/-- a name's own container is from now on data -/
def frz (i : Nat) (σI : Sl) : Option Sl := match σI[i]? with
  | some (some (true, .inst _ _)) => Option.none
  | some (some (_, d)) => some (σI.set i (some (false, d)))
  | _ => Option.none
theorem S0.frz {i : Nat} {σI' : Sl} (s : S0 g H0 w σI B σ H) (x0 : Ext w0 H0 w H) (h : Hf.frz i σI = some σI') : ∃ w', Le w w' ∧ S0 g H0 w' σI' B σ H ∧ Ext w0 H0 w' H := by
  unfold Hf.frz at h
  split at h
  · cases h
  · rename_i k d hi hz
    cases h
    cases k with
    | false =>
      obtain ⟨v, e, r⟩ := s.sl i d hz
      refine ⟨w, Le.refl _, ?_, x0⟩
      have := s.set i r
      rw [set_same e] at this
      exact this
    | true =>
      obtain ⟨a, o, e1, ha, c, np, nb, n0⟩ := s.ow i d hz
      have l := regLe w (o := o) np
      refine ⟨regW w a o, l, ⟨s.rb.keep l rfl (fun b u h => ?_) (Same.refl _) fun n b h => ?_, by simp [s.len], fun j e h => ?_, fun j e h => ?_, fun j k e f b h1 h2 h3 h4 => ?_, fun j c' ds' b h1 h2 => ?_⟩, ⟨x0.le.trans l, x0.keep, fun b u h => ?_, x0.iof, x0.there, x0.me⟩⟩
      · by_cases hb : b = a
        · subst hb
          have h : upd w.P b o b = some u := h
          rw [upd_same] at h; cases h; exact ha
        · have h : upd w.P a o b = some u := h
          rw [upd_ne hb] at h
          exact s.rb.sub b u h
      · show upd w.P a o b = Option.none
        rw [upd_ne (fun z => nb n (by rw [← z]; exact h))]
        exact s.rb.np n b h
      · rcases get_set h with ⟨rfl, h1, h2⟩ | ⟨h1, h2⟩
        · cases h1
          refine ⟨_, e1, (c.mono l).rep upd_same fun c ds z => ?_⟩
          subst z
          exact hi _ _ rfl rfl
        · obtain ⟨v, e2, r⟩ := s.sl j e h2
          exact ⟨v, e2, Rep.mono l _ _ r⟩
      · rcases get_set h with ⟨rfl, h1, h2⟩ | ⟨h1, h2⟩
        · cases h1
        · obtain ⟨b, u, e2, e3, e4, e5, e6, e7⟩ := s.ow j e h2
          have hb : b ≠ a := fun z => h1 (s.oi i j d e a hz h2 e1 (by rw [← z]; exact e2))
          exact ⟨b, u, e2, e3, e4.mono l, (by show upd w.P a o b = Option.none; rw [upd_ne hb]; exact e5), e6, e7⟩
      · rcases get_set h1 with ⟨rfl, q, _⟩ | ⟨n1, q1⟩
        · cases q
        rcases get_set h2 with ⟨rfl, q, _⟩ | ⟨n2, q2⟩
        · cases q
        exact s.oi j k e f b q1 q2 h3 h4
      · rcases get_set h1 with ⟨rfl, q, _⟩ | ⟨n1, q1⟩
        · cases q
        exact s.me j c' ds' b q1 h2
      · by_cases hb : b = a
        · subst hb; exact .inr n0
        · have h : upd w.P a o b = some u := h
          rw [upd_ne hb] at h
          exact x0.pf b u h
  · cases h
theorem Ext.none0 {a : Addr} (x : Ext w0 H0 w H) (n : H a = Option.none) : H0 a = Option.none := Classical.byContradiction fun q => x.there a q n
end

section
variable {g : Gs} {E : XK} {w0 : Wd} {H0 : Hp} {X : Cx} {st : Stmt} {rest sts sts2 : List Stmt} {m m1 m2 : Ms} {e a b c : Expr} {me ma mb : Ev} {ms : Evs} {mt : Et} {pos p1 p2 : Pos} {bo b1 b2 : Bool} {x : Str} {i j : Nat}
/-! blocks -/
def mSkip : Ms := fun σ B => .next σ B
def mSeq (m1 m2 : Ms) : Ms := fun σ B => (m1 σ B).seq m2
def mFrz (i : Nat) (m : Ms) : Ms := fun σ B => match frz i σ with
  | some σ' => m σ' B
  | Option.none => .bad
theorem b_nil : SndB g E w0 H0 X [] mSkip := weakB pss_nil fun D σ H ⟨w, σI, B, s, x, p⟩ => p w σ H (Le.refl _) s x
theorem b_one (h : SndS g E w0 H0 X st m) : SndB g E w0 H0 X [st] m := pss_one h
theorem b_cons (h1 : SndS g E w0 H0 X st m1) (h2 : SndB g E w0 H0 X rest m2) : SndB g E w0 H0 X (st :: rest) (mSeq m1 m2) := by
  refine weakB (pss_cons h1 h2) ?_
  rintro D σ H ⟨w, σI, B, s, x, p⟩
  refine ⟨w, σI, B, s, x, ?_⟩
  unfold mSeq at p
  revert p
  generalize m1 σI B = q
  intro p
  cases q with
  | next σ' B' => exact fun w' σ'' H' l' s' x' => ⟨w', σ', B', s', x', PostS.le l' p⟩
  | ret d B' => exact p
  | exc c y B' => exact p
  | bad => exact p
theorem b_frz (h : SndB g E w0 H0 X sts m) : SndB g E w0 H0 X sts (mFrz i m) := weakB h fun D σ H ⟨w, σI, B, s, x, p⟩ => by
  unfold mFrz at p
  split at p
  · rename_i σI' e
    obtain ⟨w', l, s', x'⟩ := s.frz x e
    exact ⟨w', σI', B, s', x', PostS.le l p⟩
  · exact p.elim
theorem s_frz (h : SndS g E w0 H0 X st m) : SndS g E w0 H0 X st (mFrz i m) := weakS h fun D σ H ⟨w, σI, B, s, x, p⟩ => by
  unfold mFrz at p
  split at p
  · rename_i σI' e
    obtain ⟨w', l, s', x'⟩ := s.frz x e
    exact ⟨w', σI', B, s', x', PostS.le l p⟩
  · exact p.elim
/-! simple statements -/
theorem z_pass : SndS g E w0 H0 X (.Pass pos) mSkip := weakS ps_pass fun D σ H ⟨w, σI, B, s, x, p⟩ => p w σ H (Le.refl _) s x
def mRet (m : Ev) : Ms := fun σ B => (m σ B).st fun d B1 => .ret d B1
theorem z_ret (h : Snd g E H0 X false e me) : SndS g E w0 H0 X (.Return (some e) pos) (mRet me) := by
  refine weakS (ps_ret h) ?_
  rintro D σ H ⟨w, σI, B, s, x, p⟩
  exact st_go s x p fun d B1 w1 v H1 x1 _ s1 r p1 => p1 w1 v H1 s1.rb x1 r
def mRetN : Ms := fun _ B => .ret .none B
theorem z_retN : SndS g E w0 H0 X (.Return none pos) mRetN := weakS ps_retN fun D σ H ⟨w, σI, B, s, x, p⟩ => p w .non H s.rb x (rep_none g w)
def mDo (m : Ev) : Ms := fun σ B => (m σ B).st fun _ B1 => .next σ B1
theorem z_expr (h : Snd g E H0 X bo e me) (hs : swapsWith e none pos.line X.env = pure false := by rfl) : SndS g E w0 H0 X (.Expr e pos) (mDo me) := by
  refine weakS (ps_expr h hs) ?_
  rintro D σ H ⟨w, σI, B, s, x, p⟩
  exact st_go s x p fun d B1 w1 v H1 x1 _ s1 r p1 => p1 w1 σ H1 (Le.refl _) s1 x1
def mIf (t : Et) (m1 m2 : Ms) : Ms := fun σ B => (t σ B).st fun k B1 => if k then m1 σ B1 else m2 σ B1
theorem z_if (hc : SndT g E H0 X c mt) (ha : SndB g E w0 H0 X sts m1) (hb : SndB g E w0 H0 X sts2 m2) : SndS g E w0 H0 X (.If c sts sts2 pos) (mIf mt m1 m2) := by
  refine weakS (ps_if hc ha hb) ?_
  rintro D σ H ⟨w, σI, B, s, x, p⟩
  refine st_goT s x p fun k B1 w1 H1 x1 s1 p1 => ?_
  cases k with
  | true => exact ⟨w1, σI, B1, s1, x1, p1⟩
  | false => exact ⟨w1, σI, B1, s1, x1, p1⟩
/-! names stored -/
def mSet (i : Nat) (m : Ev) : Ms := fun σ B => (m σ B).st fun d B1 => .next (σ.set i (some (false, d))) B1
def mSetO (i : Nat) (m : Ev) : Ms := fun σ B => (m σ B).st fun d B1 => .next (σ.set i (some (true, d))) B1
theorem set_at {t : TE} (ht : t = tI g E H0 false me) {D : Ends} {σ : L2.St} {H : Hp} (h : tS g E w0 H0 (mSet i me) D σ H) : tAsg t (gName i) D σ H := by
  subst ht
  obtain ⟨w, σI, B, s, x, p⟩ := h
  exact st_go s x p fun d B1 w1 v H1 x1 _ s1 r p1 => p1 w1 _ H1 (Le.refl _) (s1.set i r) x1
theorem setO_at {D : Ends} {σ : L2.St} {H : Hp} (h : tS g E w0 H0 (mSetO i me) D σ H) : tAsg (tF g E H0 me) (gName i) D σ H := by
  obtain ⟨w, σI, B, s, x, p⟩ := h
  exact st_goF s x p fun d B1 w1 a o H1 x1 x2 s1 e c n pp io z p1 => p1 w1 _ H1 (Le.refl _) (s1.setO i e c pp io (x.none0 n) (fun j f hj => s.own_ne hj n) z) x1
theorem z_set (hN : X.N.Nodup) (h : Snd g E H0 X false e me) (hi : X.N[i]? = some x := by rfl) (hx : Loc X.env.scope x := by first | exact .inl rfl | exact .inr rfl) (hs : swapsWith e (some (.Name x p1)) pos.line X.env = pure false := by rfl) (hf : X.fn x = true := by rfl) :
    SndS g E w0 H0 X (.Assign [.Name x p1] e pos) (mSet i me) := weakS (ps_set hN hi hx h hs (.inl hf)) fun _ _ _ h => set_at rfl h
theorem z_setO (hN : X.N.Nodup) (h : SndF g E H0 X e me) (hi : X.N[i]? = some x := by rfl) (hx : Loc X.env.scope x := by first | exact .inl rfl | exact .inr rfl) (hs : swapsWith e (some (.Name x p1)) pos.line X.env = pure false := by rfl) (hf : X.fn x = true := by rfl) :
    SndS g E w0 H0 X (.Assign [.Name x p1] e pos) (mSetO i me) := weakS (ps_set hN hi hx h hs (.inl hf)) fun _ _ _ h => setO_at h
/-! targets -/
abbrev Tg := D → Sl → Option Sl
def tG (g : Gs) (H0 : Hp) (t : Tg) (sl : List Nat) : TG := fun v σ H Q => ∃ w d σI B σI', S0 g H0 w σI B σ H ∧ Rep g w d v ∧ t d σI = some σI' ∧ ∀ σ' : L2.St, S0 g H0 w σI' B σ' H → σ'.length = σ.length → (∀ j : Nat, j ∉ sl → σ'[j]? = σ[j]?) → Q σ' H
abbrev SndG (g : Gs) (H0 : Hp) (X : Cx) (e : Expr) (t : Tg) (sl : List Nat) : Prop := PG X e (tG g H0 t sl)
abbrev Tgs := List D → Sl → Option Sl
def tGs (g : Gs) (H0 : Hp) (t : Tgs) (sl : List Nat) : TGs := fun vs σ H Q => ∃ w ds σI B σI', S0 g H0 w σI B σ H ∧ Reps g w ds vs ∧ t ds σI = some σI' ∧ ∀ σ' : L2.St, S0 g H0 w σI' B σ' H → σ'.length = σ.length → (∀ j : Nat, j ∉ sl → σ'[j]? = σ[j]?) → Q σ' H
abbrev SndGs (g : Gs) (H0 : Hp) (X : Cx) (es : List Expr) (t : Tgs) (sl : List Nat) : Prop := PGs X es (tGs g H0 t sl)
theorem weakG {X : Cx} {e : Expr} {t t' : TG} (h : PG X e t) (k : ∀ v σ H Q, t' v σ H Q → t v σ H Q) : PG X e t' := ⟨fun pins s σ H v u Q I r q => h.run pins s σ H v u Q I r (k v σ H Q q)⟩
theorem weakGs {X : Cx} {e : List Expr} {t t' : TGs} (h : PGs X e t) (k : ∀ v σ H Q, t' v σ H Q → t v σ H Q) : PGs X e t' := ⟨fun pins s σ H v u Q I r q => h.run pins s σ H v u Q I r (k v σ H Q q)⟩
def gN (i : Nat) : Tg := fun d σ => some (σ.set i (some (false, d)))
theorem g_name (hN : X.N.Nodup) (hi : X.N[i]? = some x := by rfl) (hx : Loc X.env.scope x := by first | exact .inl rfl | exact .inr rfl) (hf : X.fn x = true ∨ X.env.scope.names.lookup x = some .local := by first | exact .inl rfl | exact .inr rfl) : SndG g H0 X (.Name x pos) (gN i) [i] :=
  weakG (pg_name hN hi hx hf) fun v σ H Q ⟨w, d, σI, B, σI', s, r, e, q⟩ => by cases e; exact q _ (s.set i r) (by simp) fun j hj => List.getElem?_set_ne (by simpa [eq_comm] using hj)
def gT (t : Tgs) : Tg := fun d σ => match d with
  | .tup ds => t ds σ
  | .prs ds => t ds σ
  | _ => Option.none
def gs0 : Tgs := fun ds σ => match ds with
  | [] => some σ
  | _ => Option.none
def gsC (t : Tg) (u : Tgs) : Tgs := fun ds σ => match ds with
  | d :: r => (t d σ).bind fun σ' => u r σ'
  | [] => Option.none
def gsN : Tgs → Nat → Prop := fun t n => ∀ ds σ σ', t ds σ = some σ' → ds.length = n
theorem gs_nil : SndGs g H0 X [] gs0 [] := weakGs pgs_nil fun vs σ H Q ⟨w, ds, σI, B, σI', s, r, e, q⟩ => by
  cases ds with
  | nil => simp only [Reps] at r; cases e; exact ⟨r, q σ s rfl fun _ _ => rfl⟩
  | cons d ds => cases e
theorem gs_cons {es : List Expr} {t : Tg} {u : Tgs} {l1 l2 : List Nat} (h1 : SndG g H0 X e t l1) (h2 : SndGs g H0 X es u l2) (hs : (assignEach (e :: es) X.env).map (·.2) = assign e X.env :: (assignEach es X.env).map (·.2) := by rfl) : SndGs g H0 X (e :: es) (gsC t u) (l1 ++ l2) :=
  weakGs (pgs_cons h1 h2 hs) fun vs σ H Q ⟨w, ds, σI, B, σI', s, r, e, q⟩ => by
  cases ds with
  | nil => cases e
  | cons d ds =>
    simp only [Reps] at r
    obtain ⟨v, us, rfl, r1, r2⟩ := r
    obtain ⟨σ1, e1, e2⟩ := Option.bind_eq_some_iff.mp e
    refine ⟨v, us, rfl, w, d, σI, B, σ1, s, r1, e1, fun σ' s' n' k' => ⟨w, ds, σ1, B, σI', s', r2, e2, fun σ2 s2 n2 k2 => q σ2 s2 (n2.trans n') fun j hj => ?_⟩⟩
    simp only [List.mem_append, not_or] at hj
    exact (k2 j hj.2).trans (k' j hj.1)
theorem n_nil : gsN gs0 0 := fun ds σ σ' h => by cases ds; rfl; cases h
theorem n_cons {t : Tg} {u : Tgs} {n : Nat} (h : gsN u n) : gsN (gsC t u) (n + 1) := fun ds σ σ' e => by
  cases ds with
  | nil => cases e
  | cons d ds =>
    obtain ⟨σ1, e1, e2⟩ := Option.bind_eq_some_iff.mp e
    simp [h _ _ _ e2]
theorem g_tup {es : List Expr} {k n : Nat} {t : Tgs} {l : List Nat} (c : Ok g X) (h : SndGs g H0 X es t l) (hn : gsN t n) (h1 : (assignEach es X.env).length = n := by rfl) (h2 : (assignEach es X.env).findIdx? (·.1) = none := by rfl) : SndG g H0 X (.Tuple es k pos) (gT t) l :=
  weakG (pg_tup c.calm h h1 h2) fun v σ H Q ⟨w, d, σI, B, σI', s, r, e, q⟩ => by
  cases d <;> first | cases e | skip
  · rename_i ds
    simp only [Rep] at r
    obtain ⟨a, vs, rfl, p, r⟩ := r
    exact ⟨a, vs, rfl, c.K ▸ sqT_mono s.rb.sub p.T, by rw [r.len]; exact hn _ _ _ e, w, ds, σI, B, σI', s, r, e, q⟩
  · rename_i ds
    simp only [Rep] at r
    obtain ⟨a, vs, rfl, p, r⟩ := r
    exact ⟨a, vs, rfl, c.K ▸ sqT_mono s.rb.sub p, by rw [r.len]; exact hn _ _ _ e, w, ds, σI, B, σI', s, r, e, q⟩
def mAsg (t : Tg) (m : Ev) : Ms := fun σ B => (m σ B).st fun d B1 => match t d σ with
  | some σ' => .next σ' B1
  | Option.none => .bad
theorem z_asg {tg : Expr} {t : Tg} {l : List Nat} (he : Snd g E H0 X false e me) (hg : SndG g H0 X tg t l) (hs : swapsWithSole [tg] e pos.line X.env = pure false := by rfl) (hw : swappedStores [tg] e X.env = pure none := by rfl)
    (h1 : (assignEach [tg] X.env).map (·.2) = [assign tg X.env] := by rfl) : SndS g E w0 H0 X (.Assign [tg] e pos) (mAsg t me) := by
  refine weakS (ps_asg he hg hs hw h1) ?_
  rintro D σ H ⟨w, σI, B, s, x, p⟩
  refine st_go s x p fun d B1 w1 v H1 x1 _ s1 r p1 => ?_
  split at p1
  · rename_i σ' e
    exact ⟨w1, d, σI, B1, σ', s1, r, e, fun σ2 s2 _ _ => p1 w1 σ2 H1 (Le.refl _) s2 x1⟩
  · exact p1.elim
end
end Hf

set_option Elab.async false
set_option linter.all false
set_option maxRecDepth 100000
set_option maxHeartbeats 4000000
namespace Hf
open PySem PySem.Spec PyProof.Rows L2

/-! ### what is walked -/
structure ItOk (g : Gs) (w : Wd) (J : It) (ds : List D) : Prop where
  go : ∀ i H, i < ds.length → Same w.P H → J.go i H
  stop : ∀ i H, i = ds.length → Same w.P H → J.stop i H
  yld : ∀ i H x H' d w1 B, ds[i]? = some d → Le w w1 → RB g w1 B H → J.yld i H x H' → ∃ w2, Ext w1 H w2 H' ∧ RB g w2 B H' ∧ Rep g w2 d x
def PostI (g : Gs) (E : XK) (w : Wd) (H : Hp) (R : It → Hp → Prop) : Rs (List D) → Prop
  | .ok ds B' => ∀ w' J H', Ext w H w' H' → RB g w' B' H' → ItOk g w' J ds → R J H'
  | .exc c x B' => ∀ w' cls dd H', Ext w H w' H' → RB g w' B' H' → ExcR g w' c x cls dd H' → E cls dd H'
  | .bad => False
abbrev Ei := Sl → Bs → Rs (List D)
def tIi (g : Gs) (E : XK) (H0 : Hp) (m : Ei) : TI := fun σ H R => ∃ w σI B, S0 g H0 w σI B σ H ∧ PostI g E w H R (m σI B)
abbrev SndI (g : Gs) (E : XK) (H0 : Hp) (X : Cx) (tg e : Expr) (m : Ei) : Prop := PI X tg e (tIi g E H0 m)
theorem weakI {X : Cx} {tg e : Expr} {t t' : TI} (h : PI X tg e t) (k : ∀ σ H R, t' σ H R → t σ H R) : PI X tg e t' := ⟨fun pins s σ H R I q => h.run pins s σ H R I (k σ H R q)⟩
section
variable {g : Gs} {E : XK} {H0 : Hp} {w w1 : Wd} {H H1 : Hp} {σI : Sl} {σ : L2.St} {bo bo1 : Bool} {B : Bs}
theorem PostI.ext {R : It → Hp → Prop} (x : Ext w H w1 H1) : ∀ {m : Rs (List D)}, PostI g E w H R m → PostI g E w1 H1 R m
  | .ok _ _, h => fun w2 v2 H2 x2 rb2 r2 => h w2 v2 H2 (x.trans x2) rb2 r2
  | .exc _ _ _, h => fun w2 cls dd H2 x2 rb2 r2 => h w2 cls dd H2 (x.trans x2) rb2 r2
  | .bad, h => h
theorem tI_bindI {m : Ev} {f : D → Bs → Rs (List D)} {Q1 : VK} {R : It → Hp → Prop} (s : S0 g H0 w σI B σ H) (p : PostI g E w H R ((m σI B).bind f))
    (ho : ∀ d B1 w1 v H1, Ext w H w1 H1 → S0 g H0 w1 σI B1 σ H1 → RepB g w1 σI σ bo d v → PostI g E w1 H1 R (f d B1) → Q1 v H1) : tI g E H0 bo m σ H Q1 := by
  refine tI_go s (fun c x B1 q => ?_) (fun q => ?_) fun d B1 q w1 v H1 x s1 r => ?_
  · rw [q] at p; exact p
  · rw [q] at p; exact p
  · rw [q] at p; exact ho d B1 w1 v H1 x s1 r (PostI.ext x p)
end
theorem Rd.uniq {H : Hp} {a : Addr} {u v : HO} (h : Rd H a u) (h' : Rd H a v) (hu : ∀ o x, u ≠ .frz o x) (hv : ∀ o x, v ≠ .frz o x) : u = v := by
  rcases h with h | ⟨o, h⟩ <;> rcases h' with h' | ⟨o', h'⟩ <;> rw [h] at h' <;> cases h'
  · rfl
  · exact (hu _ _ rfl).elim
  · exact (hv _ _ rfl).elim
  · rfl
section
variable {g : Gs} {w : Wd} {K : PySem.W.Frag}
theorem it_list {a : Addr} {vs : List V} {ds : List D} (hp : w.P a = some (.lst vs)) (r : Reps g w ds vs) : ItOk g w (Itl K a) ds where
  go := fun i H hi hs => by
    obtain ⟨v, e, _⟩ := Reps.get r (List.getElem?_eq_getElem hi)
    exact ⟨vs, v, .inl (.inl (hs _ _ hp)), e⟩
  stop := fun i H hi hs => ⟨vs, .inl (.inl (hs _ _ hp)), by rw [r.len]; exact Nat.le_of_eq hi.symm⟩
  yld := fun i H x H' d w1 B e l rb y => by
    obtain ⟨rfl, y⟩ := y
    obtain ⟨v, e2, rv⟩ := Reps.get r e
    have q := y vs (.inl (.inl (rb.sub _ _ (l.P _ _ hp))))
    rw [e2] at q; cases q
    exact ⟨w1, Ext.refl _ _, rb, Rep.mono l _ _ rv⟩
theorem it_scr {a : Addr} {vs : List V} {ds : List D} (hp : SqL K w.P a vs) (r : Reps g w ds vs) : ItOk g w (Itl K a) ds where
  go := fun i H hi hs => by
    obtain ⟨v, e, _⟩ := Reps.get r (List.getElem?_eq_getElem hi)
    exact ⟨vs, v, hs.seq hp, e⟩
  stop := fun i H hi hs => ⟨vs, hs.seq hp, by rw [r.len]; exact Nat.le_of_eq hi.symm⟩
  yld := fun i H x H' d w1 B e l rb y => by
    obtain ⟨rfl, y⟩ := y
    obtain ⟨v, e2, rv⟩ := Reps.get r e
    have q := y vs (rb.sub.seq (l.P.seq hp))
    rw [e2] at q; cases q
    exact ⟨w1, Ext.refl _ _, rb, Rep.mono l _ _ rv⟩
theorem it_tup {a : Addr} {vs : List V} {ds : List D} (hp : SqT K w.P a vs) (r : Reps g w ds vs) : ItOk g w (Itt K a) ds where
  go := fun i H hi hs => by
    obtain ⟨v, e, _⟩ := Reps.get r (List.getElem?_eq_getElem hi)
    exact ⟨vs, v, sqT_mono hs hp, e⟩
  stop := fun i H hi hs => ⟨vs, sqT_mono hs hp, by rw [r.len]; exact Nat.le_of_eq hi.symm⟩
  yld := fun i H x H' d w1 B e l rb y => by
    obtain ⟨rfl, y⟩ := y
    obtain ⟨v, e2, rv⟩ := Reps.get r e
    have q := y vs (sqT_mono rb.sub (sqT_mono l.P hp))
    rw [e2] at q; cases q
    exact ⟨w1, Ext.refl _ _, rb, Rep.mono l _ _ rv⟩
def rngD (lo : Int) (n : Nat) : List D := (List.range n).map fun i => .int (lo + (i : Nat))
theorem rngD_len (lo : Int) (n : Nat) : (rngD lo n).length = n := by simp [rngD]
theorem it_rng {lo : Int} {n : Nat} : ItOk g w (Itr lo n) (rngD lo n) where
  go := fun i H hi hs => by rw [rngD_len] at hi; exact hi
  stop := fun i H hi hs => by rw [rngD_len] at hi; exact Nat.le_of_eq hi.symm
  yld := fun i H x H' d w1 B e l rb y => by
    obtain ⟨rfl, rfl⟩ := y
    refine ⟨w1, Ext.refl _ _, rb, ?_⟩
    unfold rngD at e
    rw [List.getElem?_map] at e
    by_cases hi : i < n
    · rw [List.getElem?_range hi] at e
      cases e
      exact rep_int g w1 _
    · rw [List.getElem?_eq_none (by simp; omega)] at e; cases e
end
/-! ### sources: lists, tuples, texts -/
inductive Sk where
  | l (a : Addr) | t (a : Addr) | s (x : Str)
def Sk.v : Sk → V
  | .l a => .ref a
  | .t a => .ref a
  | .s x => .str x
def chV (x : Str) : List V := x.cps.toList.map fun c => V.str ⟨#[c]⟩
def chD (x : Str) : List D := x.cps.toList.map fun c => D.str ⟨#[c]⟩
def Sk.At (K : PySem.W.Frag) (H : Hp) : Sk → List V → Prop
  | .l a, xs => SqL K H a xs
  | .t a, xs => SqT K H a xs
  | .s x, xs => xs = chV x
def Sk.It (K : PySem.W.Frag) : Sk → L2.It
  | .l a => Itl K a
  | .t a => Itt K a
  | .s x => Its x
/-- the iterator at it stands before the item i -/
def Sk.St (it : Addr) (i : Nat) (h : Heap) : Sk → Prop
  | .l a => h.IsListIter it a i
  | .t a => h.IsTupleIter it a i
  | .s x => ∃ t, h.IsStrIter it (strIterType x) x t i
theorem Sk.St.at {it : Addr} {i : Nat} {h h' : Heap} {k : Sk} (x : k.St it i h) (e : ∀ o, h.get? it = some o → h'.get? it = some o) : k.St it i h' := by
  cases k with
  | l a => exact Heap.IsListIter.at x e
  | t a => exact Heap.IsTupleIter.at x e
  | s y =>
    obtain ⟨t, o, ho, r⟩ := x
    exact ⟨t, o, e o ho, r⟩
theorem Sk.St.obj {it : Addr} {i : Nat} {h : Heap} {k : Sk} (x : k.St it i h) : ∃ o, h.get? it = some o ∧ ∀ v, o.data ≠ .cell v := by
  cases k with
  | l a => obtain ⟨o, ho, hc, hd⟩ := x; exact ⟨o, ho, fun v z => by rw [hd] at z; cases z⟩
  | t a => obtain ⟨o, ho, hc, hd⟩ := x; exact ⟨o, ho, fun v z => by rw [hd] at z; cases z⟩
  | s y => obtain ⟨t, o, ho, hc, hd⟩ := x; exact ⟨o, ho, fun v z => by rw [hd] at z; cases z⟩
section
variable {X : Cx} {pins : List (Addr × Obj)} {σ : L2.St} {H : Hp} {s : Shared}
theorem src_ne (I : Inv X pins σ H s) {b c : Addr} (hf : FpOk X pins H c) (hb : (∃ o, H b = some o) ∨ ∃ o, X.K.lookup b = some o) : b ≠ c := fun e => by
  subst e
  obtain ⟨h1, _, _, h4, _⟩ := hf
  rcases hb with ⟨o, q⟩ | ⟨o, q⟩
  · rw [h1] at q; cases q
  · have q2 := I.ok.mod.kin _ _ q
    rcases h4 with h4 | h4
    · exact I.ok.noex _ _ q2 h4
    · exact absurd (Heap.lt_size (I.ok.bs _ _ q2).1) (Nat.not_lt_of_le h4)
/-- what the iterator of a source draws, and where it reads -/
theorem Sk.draws (I : Inv X pins σ H s) {k : Sk} {xs : List V} (hk : k.At X.K H xs) {it : Addr} {i : Nat} (hst : k.St it i s.heap) (A : Around) (hh : A.handled = none) (hf : FpOk X pins H it) :
    ∃ (fp : List Addr) (n : Nat) (P : Nat → Value → Prop) (St : Nat → Heap → Prop), Draws X.prog X.w A it (it :: fp) n P St ∧ n = xs.length ∧ St i s.heap ∧ (∀ j h, St j h → k.St it j h) ∧ (∀ j u, P j u → ∃ x, xs[j]? = some x ∧ RelV x u) ∧ ∀ b ∈ fp, (∃ o, H b = some o) ∨ ∃ o, X.K.lookup b = some o := by
  cases k with
  | l a =>
    have hk : SqL X.K H a xs := hk
    obtain ⟨its, rv, p, hz⟩ := I.list hk
    have ha : a ≠ it := by
      rcases hk with (q | ⟨o, q⟩) | ⟨o, _, _, q, _⟩
      · exact src_ne I hf (.inl ⟨_, q⟩)
      · exact src_ne I hf (.inl ⟨_, q⟩)
      · exact src_ne I hf (.inr ⟨_, q⟩)
    refine ⟨[a], _, _, _, Draws.list hh it a ha its.toArray, by simp [rv.length], ⟨hst, p.isList⟩, fun j h q => q.1, fun j u q => ?_, fun b hb => ?_⟩
    · have q : its[j]? = some u := by simpa using q
      have hj : j < its.length := (List.getElem?_eq_some_iff.mp q).1
      have hj2 : j < xs.length := by rw [rv.length]; exact hj
      obtain ⟨u', hu, ru⟩ := rv.get (List.getElem?_eq_getElem hj2)
      rw [q] at hu; cases hu
      exact ⟨_, List.getElem?_eq_getElem hj2, ru⟩
    · rw [List.mem_singleton.mp hb]
      rcases hk with (q | ⟨o, q⟩) | ⟨o, _, _, q, _⟩
      · exact .inl ⟨_, q⟩
      · exact .inl ⟨_, q⟩
      · exact .inr ⟨_, q⟩
  | t a =>
    have hk : SqT X.K H a xs := hk
    obtain ⟨its, rv, p, hz⟩ := I.tuple hk
    have ha : a ≠ it := by
      rcases hk with (q | ⟨o, q⟩) | ⟨o, _, _, q, _⟩
      · exact src_ne I hf (.inl ⟨_, q⟩)
      · exact src_ne I hf (.inl ⟨_, q⟩)
      · exact src_ne I hf (.inr ⟨_, q⟩)
    refine ⟨[a], _, _, _, Draws.tuple hh it a ha its.toArray, by simp [rv.length], ⟨hst, p⟩, fun j h q => q.1, fun j u q => ?_, fun b hb => ?_⟩
    · have q : its[j]? = some u := by simpa using q
      have hj : j < its.length := (List.getElem?_eq_some_iff.mp q).1
      have hj2 : j < xs.length := by rw [rv.length]; exact hj
      obtain ⟨u', hu, ru⟩ := rv.get (List.getElem?_eq_getElem hj2)
      rw [q] at hu; cases hu
      exact ⟨_, List.getElem?_eq_getElem hj2, ru⟩
    · rw [List.mem_singleton.mp hb]
      rcases hk with (q | ⟨o, q⟩) | ⟨o, _, _, q, _⟩
      · exact .inl ⟨_, q⟩
      · exact .inl ⟨_, q⟩
      · exact .inr ⟨_, q⟩
  | s x =>
    have hk : xs = chV x := hk
    subst hk
    obtain ⟨t, hst⟩ := hst
    refine ⟨[], _, _, _, Draws.text hh it x t, by simp [chV], hst, fun j h q => ⟨t, q⟩, fun j u q => ?_, fun b hb => nomatch hb⟩
    obtain ⟨c, u', h1, rfl⟩ := q
    exact ⟨.str ⟨#[c]⟩, by simp [chV, h1], _, rfl⟩
/-- how a source begins -/
theorem Sk.begins (I : Inv X pins σ H s) {k : Sk} {xs : List V} (hk : k.At X.K H xs) {u : Value} (ru : RelV k.v u) : ∃ (o : Obj) (HH : Heap → Prop), Begins u o HH ∧ HH s.heap ∧ ∀ (it : Addr) (h : Heap), h.get? it = some o → k.St it 0 h := by
  cases k with
  | l a =>
    cases ru
    obtain ⟨its, rv, p, hz⟩ := I.list hk
    exact ⟨_, _, begins_list a its.toArray, p.isList, fun it h e => ⟨_, e, rfl, rfl⟩⟩
  | t a =>
    cases ru
    obtain ⟨its, rv, p, hz⟩ := I.tuple hk
    exact ⟨_, _, begins_tuple a its.toArray, p, fun it h e => ⟨_, e, rfl, rfl⟩⟩
  | s x =>
    obtain ⟨t, rfl⟩ := ru
    exact ⟨_, _, begins_text x t, trivial, fun it h e => ⟨t, _, e, rfl, rfl⟩⟩
end
section
variable {g : Gs} {E : XK} {H0 : Hp} {X : Cx} {tg e a b : Expr} {m ma mb : Ev} {pos p1 : Pos} {bo b1 b2 : Bool}
/-- a list, a tuple, a text -/
def iAny (K : PySem.W.Frag) (tl : TE) : TI := fun σ H R => tl σ H fun x H1 => ∃ k xs, x = Sk.v k ∧ k.At K H1 xs ∧ R (k.It K) H1
theorem turn_any {P : Program} {w : World} {K : PySem.W.Frag} {tg : Expr} (k : Sk) (it : Addr) : Turn P w K tg (k.It K) [it] it fun i h => k.St it i h := by
  cases k with
  | l a => exact turn_list a it
  | t a => exact turn_tuple a it
  | s x =>
    have z : strIterType x = "str_ascii_iterator" ∨ strIterType x = "str_iterator" := by
      unfold strIterType
      split
      · exact .inl rfl
      · exact .inr rfl
    have T : ∀ t, Turn P w K tg (Its x) [it] it (fun i h => h.IsStrIter it (strIterType x) x t i) := fun t => turn_str it x t (strIterType x) z
    exact
      { mem := (T 0).mem
        obj := fun i h st => let ⟨t, q⟩ := st; (T t).obj i h q
        keep := fun i h h' st kk => let ⟨t, q⟩ := st; ⟨t, (T t).keep i h h' q kk⟩
        item := fun X hP hw hK hc i pins s σ H E I hf st hg => by
          obtain ⟨t, q⟩ := st
          refine wpAny_mono ((T t).item X hP hw hK hc i pins s σ H E I hf q hg) (fun r s1 h1 => ?_) fun _ _ h => h
          obtain ⟨u, e, h1⟩ := h1
          refine ⟨u, e, wpAny_mono h1 (fun _ s2 h2 => ?_) fun _ _ h => h⟩
          obtain ⟨x, H', a1, a2, a3, a4, a5⟩ := h2
          exact ⟨x, H', a1, a2, a3, ⟨t, a4⟩, a5⟩
        done := fun X hP hw hK hc i pins s σ H E I hf st hg => by
          obtain ⟨t, q⟩ := st
          exact (T t).done X hP hw hK hc i pins s σ H E I hf q hg
        self := fun A i s Q E st h => let ⟨t, q⟩ := st; (T t).self A i s Q E q h }
theorem pi_any {l : Expr} {tl : TE} (hl : PE X l tl) : PI X tg l (iAny X.K tl) := by
  refine ⟨fun pins s σ H R I h => ?_⟩
  refine thn (hl.run pins s σ H _ I h) fun v s1 ⟨x, H1, I1, r1, k, xs, ex, hk, q⟩ => ?_
  subst ex
  obtain ⟨o, HH, B, h1, hs⟩ := Sk.begins I1 hk r1
  refine B.iter _ _ _ _ _ _ h1 ?_
  refine ⟨s1.heap.objs.size, [s1.heap.objs.size], _, _, H1, rfl, I1.kept (t' := s1.toks) fun b o' e => Heap.get?_push_of_some _ e, turn_any k _, hs _ _ (Heap.get?_push_size _ B.free), fun c hc => ?_, q⟩
  rw [List.mem_singleton.mp hc]
  exact I1.fpOk (Nat.le_refl _) (I1.hok.fresh (Nat.le_refl _))
def itemsOf : D → Option (List D)
  | .tup ds => some ds
  | .lst ds => some ds
  | .scr ds => some ds
  | .str x => some (chD x)
  | _ => Option.none
def mItems (m : Ev) : Ei := fun σ B => (m σ B).bind fun d B1 => match itemsOf d with
  | some ds => .ok ds B1
  | Option.none => .bad
/-- a value as a source -/
def SkAt (g : Gs) (w : Wd) (k : Sk) (ds : List D) : Prop := ∃ vs, k.At g.K w.P vs ∧ Reps g w ds vs
theorem Sk.At.mono {K : PySem.W.Frag} {P P' : Hp} {k : Sk} {xs : List V} (hs : Same P P') (h : k.At K P xs) : k.At K P' xs := by
  cases k with
  | l a => exact hs.seq h
  | t a => exact sqT_mono hs h
  | s x => exact h
theorem reps_chs (g : Gs) (w : Wd) (x : Str) : Reps g w (chD x) (chV x) := by
  unfold chD chV
  induction x.cps.toList with
  | nil => simp only [List.map_nil, Reps]
  | cons c cs ih =>
    simp only [List.map_cons, Reps, Rep]
    exact ⟨_, _, rfl, rfl, ih⟩
theorem Rep.sk {w : Wd} {d : D} {v : V} {ds : List D} (r : Rep g w d v) (h : itemsOf d = some ds) : ∃ k, v = Sk.v k ∧ SkAt g w k ds := by
  cases d <;> simp only [itemsOf, reduceCtorEq, Option.some.injEq] at h <;> subst h <;> simp only [Rep] at r
  · subst r; exact ⟨.s _, rfl, _, rfl, reps_chs g w _⟩
  · obtain ⟨a, vs, rfl, q, r⟩ := r; exact ⟨.t a, rfl, vs, q.T, r⟩
  · obtain ⟨a, vs, rfl, q, r⟩ := r; exact ⟨.l a, rfl, vs, .inl (.inl q), r⟩
  · obtain ⟨a, vs, rfl, q, r⟩ := r; exact ⟨.l a, rfl, vs, q, r⟩
theorem it_any {w : Wd} {k : Sk} {ds : List D} (h : SkAt g w k ds) : ItOk g w (k.It g.K) ds := by
  obtain ⟨vs, hk, r⟩ := h
  cases k with
  | l a => exact it_scr hk r
  | t a => exact it_tup hk r
  | s x =>
    have hk : vs = chV x := hk
    subst hk
    have hl : x.cps.size = ds.length := by rw [← r.len]; simp [chV]
    exact
      { go := fun i H hi hs => by show i < x.cps.size; omega
        stop := fun i H hi hs => by show x.cps.size ≤ i; omega
        yld := fun i H y H' d w1 B e l rb yl => by
          obtain ⟨rfl, c, hc, rfl⟩ := yl
          obtain ⟨v, e2, rv⟩ := Reps.get r e
          have : v = .str ⟨#[c]⟩ := by
            unfold chV at e2
            rw [List.getElem?_map, Array.getElem?_toList, hc] at e2
            exact (Option.some.inj e2).symm
          subst this
          exact ⟨w1, Ext.refl _ _, rb, Rep.mono l _ _ rv⟩ }
theorem i_seq (c : Ok g X) (h : Snd g E H0 X false e m) : SndI g E H0 X tg e (mItems m) := by
  refine weakI (pi_any h) ?_
  rintro σ H R ⟨w, σI, B, s, p⟩
  refine tI_bindI s p fun d B1 w1 v H1 x1 s1 r p1 => ?_
  rw [c.K]
  cases hd : itemsOf d with
  | none => rw [hd] at p1; exact p1.elim
  | some ds =>
    rw [hd] at p1
    obtain ⟨k, rfl, hk⟩ := Rep.sk r hd
    obtain ⟨vs, hk2, _⟩ := id hk
    exact ⟨k, vs, rfl, hk2.mono s1.rb.sub, p1 w1 _ H1 (Ext.refl _ _) s1.rb (it_any hk)⟩
def rngB (i : Int) : Bool := decide (-(2 ^ 62) ≤ i) && decide (i < 2 ^ 62)
def mRng1 (m : Ev) : Ei := fun σ B => (m σ B).bind fun d B1 => (asI d B1).bind fun n B2 => if rngB n then .ok (rngD 0 n.toNat) B2 else .bad
def mRng2 (ma mb : Ev) : Ei := fun σ B => (ma σ B).bind fun d B1 => (asI d B1).bind fun i B2 => (mb σ B2).bind fun e B3 => (asI e B3).bind fun j B4 => if rngB i && rngB j then .ok (rngD i (j - i).toNat) B4 else .bad
theorem rngB_ok {i : Int} (h : rngB i = true) : -(2 ^ 62) ≤ i ∧ i < 2 ^ 62 := by
  unfold rngB at h
  simp only [Bool.and_eq_true, decide_eq_true_eq] at h
  exact h
theorem asI_goI {w : Wd} {σI : Sl} {B B2 : Bs} {σ : L2.St} {H : Hp} {R : It → Hp → Prop} {d : D} {v : V} {f : Int → Bs → Rs (List D)} (s : S0 g H0 w σI B2 σ H) (r : RepO g w σI σ d v) (p : PostI g E w H R ((asI d B).bind f)) :
    ∃ i, v = .int i ∧ PostI g E w H R (f i B) := by
  cases d <;> first | exact p.elim | skip
  exact ⟨_, r.int s, p⟩
theorem i_rng1 (c : Ok g X) (hm : g.mg "range" = none) (h : Snd g E H0 X b1 a ma) (hg : Gl X "range" := by rfl) (hs : starEach [a] X.env = [(false, eval a X.env)] := by rfl) : SndI g E H0 X tg (.Call (.Name "range" p1) [a] [] pos) (mRng1 ma) := by
  refine weakI (pi_range1 hg (c.mg ▸ hm) (pa_cons h pa_nil hs) hs) ?_
  rintro σ H R ⟨w, σI, B, s, p⟩
  refine tI_bindI s p fun d B1 w1 v H1 x1 s1 r p1 => ?_
  obtain ⟨n, rfl, p2⟩ := asI_goI s1 r.up p1
  split at p2
  · rename_i hb
    obtain ⟨h1, h2⟩ := rngB_ok hb
    exact ⟨n, rfl, h1, h2, p2 w1 _ H1 (Ext.refl _ _) s1.rb it_rng⟩
  · exact p2.elim
theorem i_rng2 (c : Ok g X) (hm : g.mg "range" = none) (h : Snd g E H0 X b1 a ma) (h' : Snd g E H0 X b2 b mb) (hg : Gl X "range" := by rfl) (hs : starEach [a, b] X.env = [(false, eval a X.env), (false, eval b X.env)] := by rfl) (hs2 : starEach [b] X.env = [(false, eval b X.env)] := by rfl) :
    SndI g E H0 X tg (.Call (.Name "range" p1) [a, b] [] pos) (mRng2 ma mb) := by
  refine weakI (pi_range2 hg (c.mg ▸ hm) (pa_cons h (pa_cons h' pa_nil hs2) (by rw [hs, hs2])) hs hs2) ?_
  rintro σ H R ⟨w, σI, B, s, p⟩
  refine tI_bindI s p fun d B1 w1 v H1 x1 s1 r p1 => ?_
  obtain ⟨i, rfl, p2⟩ := asI_goI s1 r.up p1
  refine tI_bindI s1 p2 fun e B2 w2 v2 H2 x2 s2 r2 p3 => ?_
  obtain ⟨j, rfl, p4⟩ := asI_goI s2 r2.up p3
  split at p4
  · rename_i hb
    obtain ⟨hb1, hb2⟩ := Bool.and_eq_true_iff.mp hb
    obtain ⟨h1, h2⟩ := rngB_ok hb1
    obtain ⟨h3, h4⟩ := rngB_ok hb2
    exact ⟨i, j, rfl, ⟨h1, h2, h3, h4⟩, p4 w2 _ H2 (Ext.refl _ _) s2.rb it_rng⟩
  · exact p4.elim
end

/-! ### for -/
def forL (t : Tg) (b : Ms) : List D → Sl → Bs → Ss
  | [], σ, B => .next σ B
  | d :: ds, σ, B => match t d σ with
    | some σ' => (b σ' B).seq (forL t b ds)
    | Option.none => .bad
def mFor (t : Tg) (mi : Ei) (b : Ms) : Ms := fun σ B => (mi σ B).st fun ds B1 => forL t b ds σ B1
section
variable {g : Gs} {E : XK} {w0 : Wd} {H0 : Hp} {X : Cx} {tg e c : Expr} {sts : List Stmt} {mi : Ei} {t : Tg} {b : Ms} {pos : Pos} {sl : List Nat} {mt : Et}
theorem z_for (k : Ok g X) (hp : PassesOwn (model X.prog X.w) X.A X.env X.xe) (hi : SndI g E H0 X tg e mi) (hg : SndG g H0 X tg t sl) (hb : SndB g E w0 H0 X sts b) (hs : ∀ x, foldedSetIterable e X.env x = pure x := by intro _; rfl) :
    SndS g E w0 H0 X (.For tg e sts [] pos) (mFor t mi b) := by
  refine weakS (ps_for hp k.calm hi hg hb hs) ?_
  rintro D σ H ⟨w, σI, B, s, x0, p⟩
  refine ⟨w, σI, B, s, ?_⟩
  unfold mFor at p
  revert p
  generalize mi σI B = q
  intro p
  cases q with
  | bad => exact p
  | exc cc y B1 => exact fun w' cls dd H' x' rb r => p w' cls dd H' rb (x0.trans x') r
  | ok ds B1 =>
    intro w1 J H1 x1 rb1 it
    have p : PostS g E w0 H0 w D (forL t b ds σI B1) := p
    have s1 := s.step x1 rb1
    refine ⟨fun i m σ H => m = ds.length - i ∧ i ≤ ds.length ∧ ∃ w σI B, Le w1 w ∧ S0 g H0 w σI B σ H ∧ Ext w0 H0 w H ∧ PostS g E w0 H0 w D (forL t b (ds.drop i) σI B), ⟨ds.length, by simp, Nat.zero_le _, w1, σI, B1, Le.refl _, s1, x0.trans x1, by simpa using PostS.le x1.le p⟩, ?_⟩
    rintro i m σ H ⟨rfl, hi, w, σI, B, l, s, x, p⟩
    by_cases hlt : i < ds.length
    · refine .inr ⟨it.go i H hlt (l.P.trans s.rb.sub), fun σ' H' => ∃ w σI B, Le w1 w ∧ S0 g H0 w σI B σ' H' ∧ Ext w0 H0 w H' ∧ PostS g E w0 H0 w D (forL t b (ds.drop (i + 1)) σI B), ?_, ?_⟩
      · rintro σ' H' q
        exact ⟨ds.length - (i + 1), by omega, rfl, hlt, q⟩
      · intro y H' yl
        obtain ⟨w2, x2, rb2, r2⟩ := it.yld i H y H' ds[i] w B (List.getElem?_eq_getElem hlt) l s.rb yl
        rw [List.drop_eq_getElem_cons hlt] at p
        simp only [forL] at p
        cases e : t ds[i] σI with
        | none => rw [e] at p; exact p.elim
        | some σ' =>
          rw [e] at p
          refine ⟨w2, ds[i], σI, B, σ', s.step x2 rb2, r2, e, fun σ2 s2 _ _ => ⟨w2, σ', B, s2, x.trans x2, ?_⟩⟩
          have p := PostS.le x2.le p
          revert p
          show PostS g E w0 H0 w2 D ((b σ' B).seq (forL t b (List.drop (i + 1) ds))) → _
          generalize b σ' B = q
          intro p
          cases q with
          | next σ3 B3 => exact fun w' σ'' H'' l' s' x' => ⟨w', σ3, B3, (l.trans x2.le).trans l', s', x', PostS.le l' p⟩
          | ret d B' => exact p
          | exc c y B' => exact p
          | bad => exact p
    · refine .inl ⟨it.stop i H (by omega) (l.P.trans s.rb.sub), ?_⟩
      rw [List.drop_eq_nil_of_le (by omega)] at p
      exact p w σ H (Le.refl _) s x
end
end Hf

set_option Elab.async false
set_option linter.all false
set_option maxRecDepth 100000
set_option maxHeartbeats 4000000
namespace Hf
open PySem PySem.Spec PyProof.Rows L2

/-! ### while -/
def whileL (t : Et) (b : Ms) : Nat → Sl → Bs → Ss
  | 0, _, _ => .bad
  | n + 1, σ, B => (t σ B).st fun k B1 => if k then (b σ B1).seq (whileL t b n) else .next σ B1
section
variable {g : Gs} {E : XK} {w0 : Wd} {H0 : Hp} {X : Cx} {tg e c : Expr} {sts : List Stmt} {mi : Ei} {t : Tg} {b : Ms} {pos : Pos} {sl : List Nat} {mt : Et}
theorem z_while (n : Nat) (hp : PassesOwn (model X.prog X.w) X.A X.env X.xe) (hc : SndT g E H0 X c mt) (hb : SndB g E w0 H0 X sts b) : SndS g E w0 H0 X (.While c sts [] pos) (whileL mt b n) := by
  refine weakS (ps_while hp hc hb) ?_
  rintro D σ H ⟨w, σI, B, s, x0, p⟩
  refine ⟨fun m σ H => ∃ w σI B, S0 g H0 w σI B σ H ∧ Ext w0 H0 w H ∧ PostS g E w0 H0 w D (whileL mt b m σI B), ⟨n, w, σI, B, s, x0, p⟩, ?_⟩
  rintro m σ H ⟨w, σI, B, s, x, p⟩
  cases m with
  | zero => exact p.elim
  | succ m =>
    refine st_goT s x p fun k B1 w1 H1 x1 s1 p1 => ?_
    cases k with
    | false => exact p1 w1 σ H1 (Le.refl _) s1 x1
    | true =>
      refine ⟨fun σ' H' => ∃ w σI B, S0 g H0 w σI B σ' H' ∧ Ext w0 H0 w H' ∧ PostS g E w0 H0 w D (whileL mt b m σI B), fun σ' H' q => ⟨m, Nat.lt_succ_self _, q⟩, w1, σI, B1, s1, x1, ?_⟩
      have p2 : PostS g E w0 H0 w1 D ((b σI B1).seq (whileL mt b m)) := p1
      revert p2
      generalize b σI B1 = q
      intro p2
      cases q with
      | next σ3 B3 => exact fun w' σ'' H'' l' s' x' => ⟨w', σ3, B3, s', x', PostS.le l' p2⟩
      | ret d B' => exact p2
      | exc c y B' => exact p2
      | bad => exact p2
end

/-! ### list comprehensions -/
def noX {α : Type} : Rs α → Rs α
  | .ok a B => .ok a B
  | _ => .bad
def lcL (t : Tg) (mt : Et) (me : Ev) (σ : Sl) : List D → Bs → Rs (List D)
  | [], B => .ok [] B
  | d :: ds, B => match t d σ with
    | some σ' => (mt σ' B).bind fun k B1 => if k then (me σ' B1).bind fun e B2 => (lcL t mt me σ ds B2).bind fun es B3 => .ok (e :: es) B3 else lcL t mt me σ ds B1
    | Option.none => .bad
def wipeI (σ : Sl) : List Nat → Sl
  | [] => σ
  | v :: vs => (wipeI σ vs).set v Option.none
def mLc (vs : List Nat) (t : Tg) (mi : Ei) (mt : Et) (me : Ev) : Ev := fun σ B => (mi σ B).bind fun ds B1 => (noX (lcL t mt me (wipeI σ vs) ds B1)).bind fun es B2 => if szL es then .ok (.lst es) B2 else .bad
theorem wipeI_length (σ : Sl) : ∀ vs : List Nat, (wipeI σ vs).length = σ.length
  | [] => rfl
  | v :: vs => by unfold wipeI; rw [List.length_set, wipeI_length σ vs]
theorem wipe_get (σ : L2.St) (j : Nat) : ∀ vs : List Nat, (wipe σ vs)[j]? = if j ∈ vs ∧ j < σ.length then some Option.none else σ[j]?
  | [] => by simp [wipe]
  | v :: vs => by
    unfold wipe
    by_cases e : v = j
    · subst e
      by_cases hl : v < σ.length
      · rw [List.getElem?_set_self (by rw [wipe_length]; exact hl), if_pos ⟨by simp, hl⟩]
      · rw [List.getElem?_eq_none (by rw [List.length_set, wipe_length]; omega), if_neg (fun z => hl z.2), List.getElem?_eq_none (by omega)]
    · rw [List.getElem?_set_ne e, wipe_get σ j vs]
      have : (j ∈ v :: vs) ↔ j ∈ vs := by simp [Ne.symm e]
      simp only [this]
theorem wipeI_get (σ : Sl) (j : Nat) : ∀ vs : List Nat, (wipeI σ vs)[j]? = if j ∈ vs ∧ j < σ.length then some Option.none else σ[j]?
  | [] => by simp [wipeI]
  | v :: vs => by
    unfold wipeI
    by_cases e : v = j
    · subst e
      by_cases hl : v < σ.length
      · rw [List.getElem?_set_self (by rw [wipeI_length]; exact hl), if_pos ⟨by simp, hl⟩]
      · rw [List.getElem?_eq_none (by rw [List.length_set, wipeI_length]; omega), if_neg (fun z => hl z.2), List.getElem?_eq_none (by omega)]
    · rw [List.getElem?_set_ne e, wipeI_get σ j vs]
      have : (j ∈ v :: vs) ↔ j ∈ vs := by simp [Ne.symm e]
      simp only [this]
theorem wipe_eq {σ σ2 : L2.St} {vs : List Nat} (hl : σ2.length = σ.length) (h : ∀ j : Nat, j ∉ vs → σ2[j]? = σ[j]?) : wipe σ2 vs = wipe σ vs := by
  apply List.ext_getElem?
  intro j
  rw [wipe_get, wipe_get, hl]
  by_cases hj : j ∈ vs
  · by_cases hk : j < σ.length
    · rw [if_pos ⟨hj, hk⟩, if_pos ⟨hj, hk⟩]
    · rw [if_neg (fun z => hk z.2), if_neg (fun z => hk z.2), List.getElem?_eq_none (by omega), List.getElem?_eq_none (by omega)]
  · rw [if_neg (fun z => hj z.1), if_neg (fun z => hj z.1), h j hj]
theorem wipe_wipe (σ : L2.St) (vs : List Nat) : wipe (wipe σ vs) vs = wipe σ vs := wipe_eq (wipe_length _ _) fun j hj => by rw [wipe_get, if_neg (fun z => hj z.1)]
section
variable {g : Gs} {E : XK} {w0 w w1 : Wd} {H H0 H1 : Hp} {σI : Sl} {σ : L2.St} {B : Bs} {X : Cx}
theorem S0.wipe (s : S0 g H0 w σI B σ H) (vs : List Nat) : S0 g H0 w (wipeI σI vs) B (L2.wipe σ vs) H where
  rb := s.rb
  len := by rw [wipeI_length, wipe_length]; exact s.len
  sl := fun j e h => by
    rw [wipeI_get] at h
    split at h
    · cases h
    · rename_i hj
      rw [wipe_get, if_neg (by rw [← s.len]; exact hj)]
      exact s.sl j e h
  ow := fun j e h => by
    rw [wipeI_get] at h
    split at h
    · cases h
    · rename_i hj
      rw [wipe_get, if_neg (by rw [← s.len]; exact hj)]
      exact s.ow j e h
  oi := fun i j e f a h1 h2 h3 h4 => by
    rw [wipeI_get] at h1 h2
    split at h1
    · cases h1
    split at h2
    · cases h2
    rename_i hi hj
    rw [wipe_get, if_neg (by rw [← s.len]; exact hi)] at h3
    rw [wipe_get, if_neg (by rw [← s.len]; exact hj)] at h4
    exact s.oi i j e f a h1 h2 h3 h4
  me := fun i c ds a h1 h2 => by
    rw [wipeI_get] at h1
    split at h1
    · cases h1
    rename_i hi
    rw [wipe_get, if_neg (by rw [← s.len]; exact hi)] at h2
    exact s.me i c ds a h1 h2
/-- something else is changed -/
theorem RB.other {a : Addr} {o : HO} (rb : RB g w B H) (np : w.P a = Option.none) (nb : ∀ n, w.io n ≠ some a) : RB g w B (upd H a o) where
  sub := fun b u e => by rw [upd_ne (fun z => by subst z; rw [np] at e; cases e)]; exact rb.sub b u e
  get := fun n b e => by
    obtain ⟨c, u, h1, h2, h3⟩ := rb.get n b e
    exact ⟨c, u, h1, by rw [upd_ne (fun z => nb n (by rw [← z]; exact h1))]; exact h2, h3⟩
  inj := rb.inj
  np := rb.np
  dom := rb.dom
theorem S0.other {a : Addr} {o : HO} (s : S0 g H0 w σI B σ H) (np : w.P a = Option.none) (nb : ∀ n, w.io n ≠ some a) (nw : ∀ (j : Nat) (e : D), σI[j]? = some (some (true, e)) → σ[j]? ≠ some (some (V.ref a))) : S0 g H0 w σI B σ (upd H a o) where
  rb := s.rb.other np nb
  len := s.len
  sl := s.sl
  ow := fun j e h => by
    obtain ⟨b, u, e1, e2, e3⟩ := s.ow j e h
    exact ⟨b, u, e1, by rw [upd_ne (fun z => nw j e h (by rw [← z]; exact e1))]; exact e2, e3⟩
  oi := s.oi
  me := s.me
theorem Ok.blk (k : Ok g X) (s : Shared) (H : Hp) (scope : Scope) (env : Env) (fp : List Addr) : Ok g (X.blk s H scope env fp) := ⟨k.K, k.mg, k.calm, k.un, k.prog, k.w, k.base, k.fx⟩
abbrev SndTs (g : Gs) (E : XK) (H0 : Hp) (X : Cx) (es : List Expr) (m : Et) : Prop := PTs X es (tIt g E H0 m)
def mYes : Et := fun _ B => .ok true B
theorem ts_nil : SndTs g E H0 X [] mYes := ⟨fun pins s σ H Q I q => pts_nil.run pins s σ H Q I (by
  obtain ⟨w, σI, B, s, p⟩ := q
  exact p w H (Ext.refl _ _) s.rb)⟩
theorem ts_one {c : Expr} {m : Et} (h : SndT g E H0 X c m) : SndTs g E H0 X [c] m := pts_one h
theorem lcL_cons {t : Tg} {mt : Et} {me : Ev} {σ : Sl} {d : D} {ds : List D} {B B' : Bs} {es : List D} (h : lcL t mt me σ (d :: ds) B = .ok es B') :
    ∃ σ' k B1, t d σ = some σ' ∧ mt σ' B = .ok k B1 ∧ ((k = true ∧ ∃ e B2 es', me σ' B1 = .ok e B2 ∧ lcL t mt me σ ds B2 = .ok es' B' ∧ es = e :: es') ∨ (k = false ∧ lcL t mt me σ ds B1 = .ok es B')) := by
  simp only [lcL] at h
  cases e1 : t d σ with
  | none => rw [e1] at h; cases h
  | some σ' =>
    rw [e1] at h
    simp only at h
    cases e2 : mt σ' B with
    | bad => rw [e2] at h; cases h
    | exc _ _ _ => rw [e2] at h; cases h
    | ok k B1 =>
      rw [e2] at h
      simp only [Rs.bind] at h
      refine ⟨σ', k, B1, rfl, e2, ?_⟩
      cases k with
      | false => exact .inr ⟨rfl, h⟩
      | true =>
        simp only [if_true] at h
        cases e3 : me σ' B1 with
        | bad => rw [e3] at h; cases h
        | exc _ _ _ => rw [e3] at h; cases h
        | ok e B2 =>
          rw [e3] at h
          simp only at h
          cases e4 : lcL t mt me σ ds B2 with
          | bad => rw [e4] at h; cases h
          | exc _ _ _ => rw [e4] at h; cases h
          | ok es' B3 =>
            rw [e4] at h
            cases h
            exact .inl ⟨rfl, e, B2, es', rfl, e4, rfl⟩
def LcInv (g : Gs) (H0 : Hp) (w : Wd) (H : Hp) (w1 : Wd) (σI : Sl) (σ : L2.St) (vs : List Nat) (t : Tg) (mt : Et) (me : Ev) (ds es : List D) (B' : Bs) (Da : Addr) (i : Nat) (H' : Hp) : Prop :=
  ∃ w' B2 acc es' av, Ext w H w' H' ∧ Le w1 w' ∧ S0 g H0 w' σI B2 σ H' ∧ H' Da = some (.lst av) ∧ Reps g w' acc av ∧ w'.P Da = Option.none ∧ (∀ n, w'.io n ≠ some Da) ∧ (∀ (j : Nat) (e : D), σI[j]? = some (some (true, e)) → σ[j]? ≠ some (some (V.ref Da))) ∧
    lcL t mt me (wipeI σI vs) (ds.drop i) B2 = .ok es' B' ∧ es = acc ++ es'
/-- the elements one by one: from what an element at the head means -/
theorem lc_at {t : Tg} {mt : Et} {me : Ev} {sl vs : List Nat} {mi : Ei} {wi : TI} (hwi : wi = tIi g E H0 mi) (hsl : ∀ j ∈ sl, j ∈ vs) {Q : VK} (s : S0 g H0 w σI B σ H) (p : PostF g E w H Q (mLc vs t mi mt me σI B)) :
    tLc wi (tG g H0 t sl) (tIt g E0 H0 mt) (tI g E0 H0 false me) vs σ H Q := by
  subst hwi
  refine ⟨w, σI, B, s, ?_⟩
  unfold mLc at p
  cases q : mi σI B with
  | bad => rw [q] at p; exact p
  | exc c y B1 => rw [q] at p; exact p
  | ok ds B1 =>
    rw [q] at p
    simp only [Rs.bind] at p
    intro w1 J H1 x1 rb1 it D hD
    have s1 := s.step x1 rb1
    cases q2 : lcL t mt me (wipeI σI vs) ds B1 with
    | bad => rw [q2] at p; exact p.elim
    | exc c y B1 => rw [q2] at p; exact p.elim
    | ok es B' =>
      rw [q2] at p
      simp only [noX] at p
      split at p
      · rename_i hz
        have hz : es.length ≤ sizeLine := of_decide_eq_true hz
        have nD : H D = Option.none := Classical.byContradiction fun z => x1.there D z hD
        have start : LcInv g H0 w H w1 σI σ vs t mt me ds es B' D 0 (upd H1 D (.lst [])) :=
          ⟨w1, B1, [], es, [], x1.mut nD, Le.refl _, s1.other (s1.rb.fresh_P hD) (s1.rb.fresh_io hD) (fun j e hj => s1.own_ne hj hD), upd_same, by simp only [Reps], s1.rb.fresh_P hD, s1.rb.fresh_io hD, fun j e hj => s1.own_ne hj hD, by simpa using q2, rfl⟩
        refine ⟨fun i m H' => m = ds.length - i ∧ i ≤ ds.length ∧ LcInv g H0 w H w1 σI σ vs t mt me ds es B' D i H', ⟨ds.length, by simp, Nat.zero_le _, start⟩, ?_⟩
        rintro i m H' ⟨rfl, hi, w', B2, acc, es', av, x', l', s', eD, ra, np, nb, nw, q3, hes⟩
        by_cases hlt : i < ds.length
        · refine .inr ⟨it.go i H' hlt (l'.P.trans s'.rb.sub), LcInv g H0 w H w1 σI σ vs t mt me ds es B' D (i + 1), fun H2 q => ⟨ds.length - (i + 1), by omega, rfl, hlt, q⟩, fun y H2 yl => ?_⟩
          obtain ⟨w2, x2, rb2, r2⟩ := it.yld i H' y H2 ds[i] w' B2 (List.getElem?_eq_getElem hlt) l' s'.rb yl
          have s2 := s'.step x2 rb2
          rw [List.drop_eq_getElem_cons hlt] at q3
          obtain ⟨σ', k, B3, et, em, q4⟩ := lcL_cons q3
          refine ⟨w2, ds[i], wipeI σI vs, B2, σ', s2.wipe vs, r2, et, fun σ2 s3 hl hk => ⟨(wipe_eq hl fun j hj => hk j fun z => hj (hsl j z)).trans (wipe_wipe _ _), ?_⟩⟩
          have keep : ∀ {wa wb : Wd} {Ha Hb : Hp}, Ext wa Ha wb Hb → Ha D = some (.lst av) → wa.P D = Option.none → (∀ n, wa.io n ≠ some D) → Hb D = some (.lst av) ∧ wb.P D = Option.none ∧ ∀ n, wb.io n ≠ some D := by
            intro wa wb Ha Hb x e n1 n2
            refine ⟨x.keep D _ e n2, ?_, fun n z => ?_⟩
            · cases q : wb.P D with
              | none => rfl
              | some u =>
                rcases x.pf D u q with z | z
                · rw [n1] at z; cases z
                · rw [e] at z; cases z
            · rcases x.iof n D z with z | z
              · exact n2 n z
              · rw [e] at z; cases z
          obtain ⟨eD2, np2, nb2⟩ := keep x2 eD np nb
          refine tIt_go s3 (fun c x B1 q => by rw [em] at q; cases q) (by rw [em]; simp) fun k' B4 q5 w3 H3 x3 s4 => ?_
          rw [em] at q5; cases q5
          obtain ⟨eD3, np3, nb3⟩ := keep x3 eD2 np2 nb2
          have sO := (s2.step x3 s4.rb)
          rcases q4 with ⟨rfl, e, B5, es2, e1, e2, rfl⟩ | ⟨rfl, e2⟩
          · rw [if_pos rfl]
            refine tI_go s4 (fun c x B1 q => by rw [e1] at q; cases q) (by rw [e1]; simp) fun d B6 q6 w4 v H4 x4 s5 r4 => ?_
            rw [e1] at q6; cases q6
            obtain ⟨eD4, np4, nb4⟩ := keep x4 eD3 np3 nb3
            have hl : av.length = acc.length := ra.len
            refine ⟨av, eD4, ?_, w4, B5, acc ++ [e], es2, av ++ [v], (((x'.trans x2).trans x3).trans x4).mut nD, ((l'.trans x2.le).trans x3.le).trans x4.le, (sO.step x4 s5.rb).other np4 nb4 nw, upd_same,
              Reps.app (Reps.mono ((x2.le.trans x3.le).trans x4.le) _ _ ra) (Reps.one r4), np4, nb4, nw, e2, by rw [hes]; simp⟩
            rw [hes, List.length_append, List.length_cons] at hz
            omega
          · rw [if_neg (by simp)]
            exact ⟨w3, B3, acc, es', av, (x'.trans x2).trans x3, (l'.trans x2.le).trans x3.le, sO, eD3, Reps.mono (x2.le.trans x3.le) _ _ ra, np3, nb3, nw, e2, hes⟩
        · rw [List.drop_eq_nil_of_le (by omega)] at q3
          simp only [lcL] at q3
          cases q3
          rw [List.append_nil] at hes
          subst hes
          exact .inl ⟨it.stop i H' (by omega) (l'.P.trans s'.rb.sub), p w' D _ H' x' s'.rb eD (by simp only [Cont]; exact ⟨av, rfl, ra⟩) nD np nb (by simp)⟩
      · exact p.elim
variable {elt tg iter : Expr} {ifs : List Expr} {scope : Scope} {own : List (Str × Nat)} {pos : Pos} {t : Tg} {mi : Ei} {mt : Et} {me : Ev} {sl : List Nat}
theorem f_lc (c : Ok g X) (hN : X.N.Nodup) (hi : SndI g E H0 X tg iter mi) (ok : BlkOk X.N X.env.scope scope own) (hsl : ∀ j ∈ sl, j ∈ own.map (·.2))
    (hg : ∀ (s : Shared) (H : Hp) (C : Addr) (cl : List (Str × Addr)) (fp : List Addr), SndG g H0 (X.blk s H scope (compEnvC scope cl C X.env) fp) tg t sl) (ht : ∀ (s : Shared) (H : Hp) (C : Addr) (cl : List (Str × Addr)) (fp : List Addr), SndTs g E0 H0 (X.blk s H scope (compEnvC scope cl C X.env) fp) ifs mt)
    (he : ∀ (s : Shared) (H : Hp) (C : Addr) (cl : List (Str × Addr)) (fp : List Addr), Snd g E0 H0 (X.blk s H scope (compEnvC scope cl C X.env) fp) false elt me) (hs : ∀ x, foldedSetIterable iter X.env x = pure x := by intro _; rfl) :
    SndF g E H0 X (.ListComp elt [⟨tg, iter, ifs, 0⟩] scope pos) (mLc (own.map (·.2)) t mi mt me) :=
  weak (pe_lc c.calm hN hi ok hg ht he hs) fun σ H Q ⟨w, σI, B, s, p⟩ => lc_at rfl hsl s p
/-- name = [..] on one line -/
theorem z_setLcO {i : Nat} {y : Str} {py spos : Pos} (c : Ok g X) (hN : X.N.Nodup) (hy : X.N[i]? = some y) (hyl : X.env.scope.names.lookup y = some .local) (hsw : swapsWith (.ListComp elt [⟨tg, iter, ifs, 0⟩] scope pos) (some (.Name y py)) spos.line X.env = pure true)
    (hi : SndI g E H0 X tg iter mi) (ok : BlkOk X.N X.env.scope scope own) (hsl : ∀ j ∈ sl, j ∈ own.map (·.2))
    (hg : ∀ (s : Shared) (H : Hp) (C : Addr) (cl : List (Str × Addr)) (fp : List Addr), SndG g H0 (X.blk s H scope (compEnvC scope cl C X.env) fp) tg t sl) (ht : ∀ (s : Shared) (H : Hp) (C : Addr) (cl : List (Str × Addr)) (fp : List Addr), SndTs g E0 H0 (X.blk s H scope (compEnvC scope cl C X.env) fp) ifs mt)
    (he : ∀ (s : Shared) (H : Hp) (C : Addr) (cl : List (Str × Addr)) (fp : List Addr), Snd g E0 H0 (X.blk s H scope (compEnvC scope cl C X.env) fp) false elt me) (hs : ∀ x, foldedSetIterable iter X.env x = pure x := by intro _; rfl) :
    SndS g E w0 H0 X (.Assign [.Name y py] (.ListComp elt [⟨tg, iter, ifs, 0⟩] scope pos) spos) (mSetO i (mLc (own.map (·.2)) t mi mt me)) := by
  refine weakS (ps_setLc c.calm hN hy hyl hsw hi ok hg ht he hs) ?_
  rintro D σ H ⟨w, σI, B, s, x, p⟩
  have h : tF g E H0 (mLc (own.map (·.2)) t mi mt me) σ H (fun x H1 => gName i x σ H1 D.nx) :=
    st_goF s x p fun d B1 w1 a o H1 x1 x2 s1 e c n pp io z p1 => p1 w1 _ H1 (Le.refl _) (s1.setO i e c pp io (x.none0 n) (fun j f hj => s.own_ne hj n) z) x1
  obtain ⟨w', σI', B', s', p'⟩ := h
  exact lc_at rfl hsl s' p'
theorem z_setLc {i : Nat} {y : Str} {py spos : Pos} (c : Ok g X) (hN : X.N.Nodup) (hy : X.N[i]? = some y) (hyl : X.env.scope.names.lookup y = some .local) (hsw : swapsWith (.ListComp elt [⟨tg, iter, ifs, 0⟩] scope pos) (some (.Name y py)) spos.line X.env = pure true)
    (hi : SndI g E H0 X tg iter mi) (ok : BlkOk X.N X.env.scope scope own) (hsl : ∀ j ∈ sl, j ∈ own.map (·.2))
    (hg : ∀ (s : Shared) (H : Hp) (C : Addr) (cl : List (Str × Addr)) (fp : List Addr), SndG g H0 (X.blk s H scope (compEnvC scope cl C X.env) fp) tg t sl) (ht : ∀ (s : Shared) (H : Hp) (C : Addr) (cl : List (Str × Addr)) (fp : List Addr), SndTs g E0 H0 (X.blk s H scope (compEnvC scope cl C X.env) fp) ifs mt)
    (he : ∀ (s : Shared) (H : Hp) (C : Addr) (cl : List (Str × Addr)) (fp : List Addr), Snd g E0 H0 (X.blk s H scope (compEnvC scope cl C X.env) fp) false elt me) (hs : ∀ x, foldedSetIterable iter X.env x = pure x := by intro _; rfl) :
    SndS g E w0 H0 X (.Assign [.Name y py] (.ListComp elt [⟨tg, iter, ifs, 0⟩] scope pos) spos) (mSet i (mLc (own.map (·.2)) t mi mt me)) := by
  refine weakS (ps_setLc c.calm hN hy hyl hsw hi ok hg ht he hs) ?_
  rintro D σ H ⟨w, σI, B, s, x, p⟩
  have h : tI g E H0 false (mLc (own.map (·.2)) t mi mt me) σ H (fun x H1 => gName i x σ H1 D.nx) :=
    st_go s x p fun d B1 w1 v H1 x1 x2 s1 r p1 => p1 w1 _ H1 (Le.refl _) (s1.set i r) x1
  obtain ⟨w', σI', B', s', p'⟩ := h
  exact lc_at rfl hsl s' (PostF.of p')
end
end Hf

set_option Elab.async false
set_option linter.all false
set_option maxRecDepth 100000
set_option maxHeartbeats 4000000
namespace Hf
open PySem PySem.Spec PyProof.Rows L2

/-! ### a name's own list is changed -/
section
variable {g : Gs} {E : XK} {w0 w : Wd} {H0 H : Hp} {X : Cx} {e : Expr} {me : Ev} {pos p1 p2 apos : Pos} {bo : Bool} {x : Str} {i : Nat} {σI : Sl} {σ : L2.St} {B : Bs} {D : Ends}
def upO (i : Nat) (f : List Hf.D → Option (List Hf.D)) (σ : Sl) (B : Bs) : Ss := match σ[i]? with
  | some (some (true, .lst ds)) => match f ds with
    | some es => .next (σ.set i (some (true, .lst es))) B
    | Option.none => .bad
  | _ => .bad
theorem upO_go {f : List Hf.D → Option (List Hf.D)} (s : S0 g H0 w σI B σ H) (x : Ext w0 H0 w H) (p : PostS g E w0 H0 w D (upO i f σI B)) :
    ∃ a vs ds es, σ[i]? = some (some (.ref a)) ∧ H a = some (.lst vs) ∧ Reps g w ds vs ∧ σI[i]? = some (some (true, .lst ds)) ∧ f ds = some es ∧ ∀ us, Reps g w es us → D.nx σ (upd H a (.lst us)) := by
  unfold upO at p
  split at p
  · rename_i ds hi
    obtain ⟨a, o, e1, ha, c, np, nb, n0⟩ := s.ow i _ hi
    simp only [Cont] at c
    obtain ⟨vs, rfl, r⟩ := c
    split at p
    · rename_i es hf
      exact ⟨a, vs, ds, es, e1, ha, r, hi, hf, fun us ru => p w σ _ (Le.refl _) (s.mut hi e1 (by simp only [Cont]; exact ⟨us, rfl, ru⟩) (by intro _ _ z; cases z)) (x.mut n0)⟩
    · exact p.elim
  · exact p.elim
def mApp (i : Nat) (m : Ev) : Ms := fun σ B => match σ[i]? with
  | some (some (true, .lst _)) => (m σ B).st fun d B1 => upO i (fun ds => if ds.length < sizeLine then some (ds ++ [d]) else Option.none) σ B1
  | _ => .bad
theorem tyL {K : PySem.W.Frag} {H : Hp} {a : Addr} {xs : List V} (h : H a = some (.lst xs)) : tyV K "list" (.ref a) H := .inl ⟨rfl, xs, .inl (.inl h)⟩
theorem own_at {P : Prop} (s : S0 g H0 w σI B σ H) (hi : ∀ a vs, σ[i]? = some (some (.ref a)) → H a = some (.lst vs) → P) (h : ∃ ds, σI[i]? = some (some (true, .lst ds))) : P := by
  obtain ⟨ds, h⟩ := h
  obtain ⟨a, o, e1, ha, c, _⟩ := s.ow i _ h
  simp only [Cont] at c
  obtain ⟨vs, rfl, r⟩ := c
  exact hi a vs e1 ha
theorem z_app (he : Snd g E H0 X false e me) (hN : X.N[i]? = some x := by rfl) (hv : Vis X.env.scope x := by first | exact Or.inl rfl | exact Or.inr (Or.inl rfl) | exact Or.inr (Or.inr rfl)) (hd : (x == ("__debug__" : Str)) = false := by decide) (hcd : (x == ("__classdict__" : Str)) = false := by decide)
    (hbase : attributeBase (.Name x p1) "append" X.env (eval (.Name x p1) X.env) = eval (.Name x p1) X.env := by rfl)
    (hfew : ((backTo p2 (starEach [e] X.env)).all (fun x => !x.1) && (backToKw p2 (keywordEach [] X.env)).all (fun x => x.1.isSome) && decide ([e].length + ([] : List Keyword).length + (if ([] : List Keyword).isEmpty then 0 else 1) < 30)) = true := by rfl)
    (hline : (apos.endLine == p2.line) = true := by rfl) (hs : starEach [e] X.env = (false, eval e X.env) :: starEach [] X.env := by rfl) (hpl : (backTo p2 (starEach [] X.env)).any (·.1) = false := by rfl) (hsw : swapsWith (.Call (.Attribute (.Name x p1) "append" apos) [e] [] p2) none pos.line X.env = pure false := by rfl) :
    SndS g E w0 H0 X (.Expr (.Call (.Attribute (.Name x p1) "append" apos) [e] [] p2) pos) (mApp i me) := by
  refine weakS (ps_expr (pe_bm PySem.F.plainAttrs_list PySem.F.slot_list_append PySem.F.type_list_append mt_append (pe_var hN hv hd hcd) (pa_cons he pa_nil hs) hbase hfew hline hs hpl) hsw) ?_
  rintro D σ H ⟨w, σI, B, s, x0, p⟩
  unfold mApp at p
  split at p
  · rename_i ds0 hi
    refine own_at s (fun a vs e1 ha => ⟨_, e1, tyL ha, ?_⟩) ⟨ds0, hi⟩
    refine st_go s x0 p fun d B1 w1 v H1 x1 x2 s1 r p1 => ?_
    obtain ⟨a', vs', ds, es, f1, f2, f3, f4, f5, k⟩ := upO_go s1 x1 p1
    rw [e1] at f1; cases f1
    split at f5
    · rename_i hl
      cases f5
      exact ⟨a, vs', v, rfl, rfl, f2, by rw [f3.len]; exact hl, k _ (Reps.app f3 (Reps.one r))⟩
    · cases f5
  · exact p.elim
def mExt (i : Nat) (m : Ev) : Ms := fun σ B => match σ[i]? with
  | some (some (true, .lst _)) => (m σ B).st fun d B1 => match d with
    | .lst zs => upO i (fun ds => if ds.length + zs.length ≤ sizeLine then some (ds ++ zs) else Option.none) σ B1
    | _ => .bad
  | _ => .bad
theorem z_ext (he : Snd g E H0 X bo e me) (hN : X.N[i]? = some x := by rfl) (hv : Vis X.env.scope x := by first | exact Or.inl rfl | exact Or.inr (Or.inl rfl) | exact Or.inr (Or.inr rfl)) (hd : (x == ("__debug__" : Str)) = false := by decide) (hcd : (x == ("__classdict__" : Str)) = false := by decide)
    (hbase : attributeBase (.Name x p1) "extend" X.env (eval (.Name x p1) X.env) = eval (.Name x p1) X.env := by rfl)
    (hfew : ((backTo p2 (starEach [e] X.env)).all (fun x => !x.1) && (backToKw p2 (keywordEach [] X.env)).all (fun x => x.1.isSome) && decide ([e].length + ([] : List Keyword).length + (if ([] : List Keyword).isEmpty then 0 else 1) < 30)) = true := by rfl)
    (hline : (apos.endLine == p2.line) = true := by rfl) (hs : starEach [e] X.env = (false, eval e X.env) :: starEach [] X.env := by rfl) (hpl : (backTo p2 (starEach [] X.env)).any (·.1) = false := by rfl) (hsw : swapsWith (.Call (.Attribute (.Name x p1) "extend" apos) [e] [] p2) none pos.line X.env = pure false := by rfl) :
    SndS g E w0 H0 X (.Expr (.Call (.Attribute (.Name x p1) "extend" apos) [e] [] p2) pos) (mExt i me) := by
  refine weakS (ps_expr (pe_bm PySem.F.plainAttrs_list PySem.F.slot_list_extend PySem.F.type_list_extend mt_extend (pe_var hN hv hd hcd) (pa_cons he pa_nil hs) hbase hfew hline hs hpl) hsw) ?_
  rintro D σ H ⟨w, σI, B, s, x0, p⟩
  unfold mExt at p
  split at p
  · rename_i ds0 hi
    refine own_at s (fun a vs e1 ha => ⟨_, e1, tyL ha, ?_⟩) ⟨ds0, hi⟩
    refine st_go s x0 p fun d B1 w1 v H1 x1 x2 s1 r p1 => ?_
    split at p1
    · rename_i zs
      obtain ⟨b, us, rfl, g1, g2⟩ := r.up.lst s1
      obtain ⟨a', vs', ds, es, f1, f2, f3, f4, f5, k⟩ := upO_go s1 x1 p1
      rw [e1] at f1; cases f1
      split at f5
      · rename_i hl
        cases f5
        exact ⟨a, b, vs', us, rfl, rfl, f2, g1, by rw [f3.len, g2.len]; exact hl, k _ (Reps.app f3 g2)⟩
      · cases f5
    · exact p1.elim
  · exact p.elim
/-- y = x.pop() -/
def mPop (i j : Nat) : Ms := fun σ B => match σ[i]? with
  | some (some (true, .lst ds)) => match ds[ds.length - 1]? with
    | some d => .next ((σ.set i (some (true, .lst ds.dropLast))).set j (some (false, d))) B
    | Option.none => .bad
  | _ => .bad
theorem Reps.dropLast {g : Gs} {w : Wd} {ds : List Hf.D} {vs : List V} (r : Reps g w ds vs) : Reps g w ds.dropLast vs.dropLast := by
  rw [List.dropLast_eq_take, List.dropLast_eq_take, r.len]
  exact Reps.take _ r
theorem Reps.erase {g : Gs} {w : Wd} : ∀ {ds : List Hf.D} {vs : List V} (k : Nat), Reps g w ds vs → Reps g w (ds.eraseIdx k) (vs.eraseIdx k)
  | [], vs, k, h => by simp only [Reps] at h; subst h; simp [Reps]
  | d :: ds, vs, 0, h => by
    simp only [Reps] at h
    obtain ⟨v, us, rfl, r, rs⟩ := h
    simpa using rs
  | d :: ds, vs, k + 1, h => by
    simp only [Reps] at h
    obtain ⟨v, us, rfl, r, rs⟩ := h
    simp only [List.eraseIdx_cons_succ, Reps]
    exact ⟨v, _, rfl, r, Reps.erase k rs⟩
theorem z_pop {j : Nat} {y : Str} {p3 : Pos} (hnd : X.N.Nodup) (hN : X.N[i]? = some x := by rfl) (hv : Vis X.env.scope x := by first | exact Or.inl rfl | exact Or.inr (Or.inl rfl) | exact Or.inr (Or.inr rfl)) (hy : X.N[j]? = some y := by rfl) (hyl : Loc X.env.scope y := by first | exact .inl rfl | exact .inr rfl) (hf : X.fn y = true := by rfl) (hd : (x == ("__debug__" : Str)) = false := by decide) (hcd : (x == ("__classdict__" : Str)) = false := by decide)
    (hbase : attributeBase (.Name x p1) "pop" X.env (eval (.Name x p1) X.env) = eval (.Name x p1) X.env := by rfl) (hline : (apos.endLine == p2.line) = true := by rfl)
    (hsw : swapsWith (.Call (.Attribute (.Name x p1) "pop" apos) [] [] p2) (some (.Name y p3)) pos.line X.env = pure false := by rfl) :
    SndS g E w0 H0 X (.Assign [.Name y p3] (.Call (.Attribute (.Name x p1) "pop" apos) [] [] p2) pos) (mPop i j) := by
  refine weakS (ps_set hnd hy hyl (pe_bm0 PySem.F.plainAttrs_list PySem.F.slot_list_pop PySem.F.type_list_pop mt_pop (pe_var hN hv hd hcd) hbase hline) hsw (.inl hf)) ?_
  rintro D σ H ⟨w, σI, B, s, x0, p⟩
  unfold mPop at p
  split at p
  · rename_i ds hi
    split at p
    · rename_i d hd'
      obtain ⟨a, o, e1, ha, c, np, nb, n0⟩ := s.ow i _ hi
      simp only [Cont] at c
      obtain ⟨vs, rfl, r⟩ := c
      obtain ⟨v, e2, rv⟩ := Reps.get r hd'
      refine ⟨_, e1, tyL ha, a, vs, v, rfl, rfl, ha, by rw [r.len]; exact e2, ?_⟩
      exact p w _ _ (Le.refl _) ((s.mut hi e1 (by simp only [Cont]; exact ⟨_, rfl, r.dropLast⟩) (d' := .lst ds.dropLast) (by intro _ _ z; cases z)).set j rv) (x0.mut n0)
    · exact p.elim
  · exact p.elim
/-! ### a box is changed: x[e] = v -/
def mSetIx (ob ix v : Ev) : Ms := fun σ B => (v σ B).st fun d B1 => (ob σ B1).st fun o B2 => (ix σ B2).st fun i B3 => match o, i with
  | .box n, .int k => match B3[n]? with
    | some (.lst ds) => match ixN ds.length k with
      | some j => .next σ (B3.set n (.lst (ds.set j d)))
      | Option.none => .bad
    | _ => .bad
  | _, _ => .bad
theorem z_setIx {o ix : Expr} {mo mi : Ev} {b1 : Bool} (he : Snd g E H0 X false e me) (ho : Snd g E H0 X false o mo) (hi : Snd g E H0 X b1 ix mi) (hs : swapsWithSole [.Subscript o ix p1] e pos.line X.env = pure false := by rfl) (hw : swappedStores [.Subscript o ix p1] e X.env = pure none := by rfl)
    (h1 : (assignEach [.Subscript o ix p1] X.env).map (·.2) = [assign (.Subscript o ix p1) X.env] := by rfl)
    (ha : ∀ v, assign (.Subscript o ix p1) X.env v = (do
      let ov ← holding [v] (eval o X.env)
      let iv ← holding [v, ov] (eval ix X.env)
      standAt p1
      holding [v, ov, iv] (setItem ov iv v)
      release [v, ov, iv] []) := by intro _; rfl) : SndS g E w0 H0 X (.Assign [.Subscript o ix p1] e pos) (mSetIx mo mi me) := by
  refine weakS (ps_asg he (pg_sub ho hi set_list ha) hs hw h1) ?_
  rintro D σ H ⟨w, σI, B, s, x0, p⟩
  refine st_go s x0 p fun d B1 w1 v H1 x1 x2 s1 r p1 => ?_
  refine st_go s1 x1 p1 fun o B2 w2 ov H2 y1 y2 s2 r2 p2 => ?_
  refine st_go s2 y1 p2 fun i B3 w3 iv H3 z1 z2 s3 r3 p3 => ?_
  split at p3
  · rename_i n k
    split at p3
    · rename_i ds hb
      split at p3
      · rename_i j hj
        obtain ⟨a, rfl, hn⟩ := (RepB.up (r2 : RepB g w2 σI σ false (.box n) ov)).mono z2.le |>.box s3
        obtain ⟨a', oo, h1, h2, c⟩ := s3.rb.get _ _ hb
        rw [hn] at h1; cases h1
        simp only [Cont] at c
        obtain ⟨vs, rfl, rr⟩ := c
        have rv : Rep g w3 d v := Rep.mono (y2.le.trans z2.le) _ _ r
        refine ⟨a, vs, k, j, rfl, r3.up.int s3, h2, by rw [rr.len]; exact hj, ?_⟩
        exact p3 w3 σ _ (Le.refl _) (s3.mutB hn (by simp only [Cont]; exact ⟨_, rfl, Reps.set j rr rv⟩)) (z1.mutB hn)
      · exact p3.elim
    · exact p3.elim
  · exact p3.elim
/-! own list by place: x[k] = v -/
def mSetOwn (i : Nat) (ix v : Ev) : Ms := fun σ B => (v σ B).st fun d B1 => match σ[i]? with
  | some (some (true, .lst _)) => (ix σ B1).st fun k B2 => match k with
    | .int k => upO i (fun ds => (ixN ds.length k).map fun j => ds.set j d) σ B2
    | _ => .bad
  | _ => .bad
theorem z_setOwn {ix : Expr} {mi : Ev} {b1 : Bool} (he : Snd g E H0 X false e me) (hi : Snd g E H0 X b1 ix mi) (hN : X.N[i]? = some x := by rfl) (hv : Vis X.env.scope x := by first | exact Or.inl rfl | exact Or.inr (Or.inl rfl) | exact Or.inr (Or.inr rfl)) (hd : (x == ("__debug__" : Str)) = false := by decide) (hcd : (x == ("__classdict__" : Str)) = false := by decide)
    (hs : swapsWithSole [.Subscript (.Name x p2) ix p1] e pos.line X.env = pure false := by rfl) (hw : swappedStores [.Subscript (.Name x p2) ix p1] e X.env = pure none := by rfl)
    (h1 : (assignEach [.Subscript (.Name x p2) ix p1] X.env).map (·.2) = [assign (.Subscript (.Name x p2) ix p1) X.env] := by rfl)
    (ha : ∀ v, assign (.Subscript (.Name x p2) ix p1) X.env v = (do
      let ov ← holding [v] (eval (.Name x p2) X.env)
      let iv ← holding [v, ov] (eval ix X.env)
      standAt p1
      holding [v, ov, iv] (setItem ov iv v)
      release [v, ov, iv] []) := by intro _; rfl) : SndS g E w0 H0 X (.Assign [.Subscript (.Name x p2) ix p1] e pos) (mSetOwn i mi me) := by
  refine weakS (ps_asg he (pg_sub (pe_var hN hv hd hcd) hi set_list ha) hs hw h1) ?_
  rintro D σ H ⟨w, σI, B, s, x0, p⟩
  refine st_go s x0 p fun d B1 w1 v H1 x1 x2 s1 r p1 => ?_
  split at p1
  · rename_i ds0 hi
    refine own_at s1 (fun a vs e1 ha => ⟨_, e1, ?_⟩) ⟨ds0, hi⟩
    refine st_go s1 x1 p1 fun k B2 w2 kv H2 y1 y2 s2 r2 p2 => ?_
    split at p2
    · rename_i k
      obtain ⟨a', vs', ds, es, f1, f2, f3, f4, f5, kk⟩ := upO_go s2 y1 p2
      rw [e1] at f1; cases f1
      obtain ⟨j, hj, rfl⟩ := Option.map_eq_some_iff.mp f5
      exact ⟨a, vs', k, j, rfl, r2.up.int s2, f2, by rw [f3.len]; exact hj, kk _ (Reps.set j f3 (Rep.mono y2.le _ _ r))⟩
    · exact p2.elim
  · exact p1.elim
end

/-! ### calls -/
def PostC (g : Gs) (E : XK) (w : Wd) (H : Hp) (Q : VK) : Rs D → Prop
  | .ok d B' => ∀ w' v H', Ext w H w' H' → RB g w' B' H' → Rep g w' d v → Q v H'
  | .exc c x B' => ∀ w' cls dd H', Ext w H w' H' → RB g w' B' H' → ExcR g w' c x cls dd H' → E cls dd H'
  | .bad => False
/-- the promise of a def whose meaning is f -/
def spF (g : Gs) (f : Fn) : Sp := fun vs H Q E => ∃ w ds B, RB g w B H ∧ Reps g w ds vs ∧ PostC g E w H Q (f ds B)
/-- a body's end as a call's result -/
def Ss.fin : Ss → Rs D
  | .next _ B => .ok .none B
  | .ret d B => .ok d B
  | .exc c x B => .exc c x B
  | .bad => .bad
/-- the meaning of a def: n parameters, k names in all -/
def mkFn (n k : Nat) (b : Ms) : Fn := fun ds B => if ds.length = n then (b (ds.map (fun d => some (false, d)) ++ List.replicate (k - n) Option.none) B).fin else .bad
/-- what a body may count on -/
structure OkC (g : Gs) (E : XK) (lv : Nat) (X : Cx) : Prop extends Ok g X where
  room : Room lv X.A
  hx : Passes (L2.CX X.prog X.w) X E
theorem OkC.blk {g : Gs} {E : XK} {lv : Nat} {X : Cx} (k : OkC g E lv X) (s : Shared) (H : Hp) (scope : Scope) (env : Env) (fp : List Addr) : OkC g E0 lv (X.blk s H scope env fp) := ⟨k.toOk.blk s H scope env fp, k.room, passL⟩
/-- a def of the module -/
def Def (g : Gs) (k : Nat) (x : Str) (dfl : List D) (f : Fn) : Prop := ∃ (fa : Addr) (fd : FuncData) (ps : List Str) (dvs : List V) (ds : List Value), FnOk g.prog g.w g.K g.mg g.base (L2.CX g.prog g.w) k fa fd ps (spF g f) ∧ g.mg x = some (.ref fa) ∧ PySem.W.keepIn g.K (.ref fa) = true ∧ Binds g.K fd ps ds ∧ Vals dvs ds ∧ ∀ w, Reps g w dfl dvs
section
variable {g : Gs} {E : XK} {w0 w : Wd} {H0 H : Hp} {X : Cx} {e : Expr} {es : List Expr} {ms : Evs} {pos p : Pos} {x : Str} {f : Fn} {lv k : Nat} {dfl : List D} {σI : Sl} {σ : L2.St} {B : Bs} {Q : VK}
def mCall (f : Fn) (dfl : List D) (ms : Evs) : Ev := fun σ B => (ms σ B).bind fun ds B1 => f (ds ++ dfl) B1
theorem PostC.of (s : S0 g H0 w σI B σ H) : ∀ {m : Rs D}, PostE g E w H σI σ false Q m → PostC g E w H Q m
  | .ok _ _, h => h
  | .exc _ _ _, h => h
  | .bad, h => h
theorem call_go {sp : Sp} {dvs : List V} (hsp : sp = spF g f) (hd : ∀ w, Reps g w dfl dvs) : ∀ σ H Q, tI g E H0 false (mCall f dfl ms) σ H Q → tCall sp dvs E (tIs g E H0 ms) σ H Q := by
  subst hsp
  rintro σ H Q ⟨w, σI, B, s, p⟩
  exact tIs_bind s p fun ds B1 w1 vs H1 x1 s1 r1 p1 => ⟨w1, ds ++ dfl, B1, s1.rb, Reps.app r1 (hd w1), PostC.of s1 p1⟩
theorem s_call (c : OkC g E lv X) (d : Def g k x dfl f) (hk : k ≤ lv) (ha : Snds g E H0 X (e :: es) ms) (hg : Gl X x := by rfl) (hdb : (x == ("__debug__" : Str)) = false := by decide) (he : starEach (e :: es) X.env = (false, eval e X.env) :: starEach es X.env := by rfl) (hpl : (backTo pos (starEach es X.env)).any (·.1) = false := by rfl) :
    Snd g E H0 X false (.Call (.Name x p) (e :: es) [] pos) (mCall f dfl ms) := by
  obtain ⟨fa, fd, ps, dvs, ds, F, hm, kp, b, hd, hr⟩ := d
  obtain ⟨prog, w', K, mg, base, A, N, s_0, H_0, env, outer, stack, ex, fn, calm, pn, xe⟩ := X
  obtain ⟨⟨h1, h2, h3, h4, h5, h6, h7, hfx⟩, h8, h9⟩ := c
  simp only at h1 h2 h5 h6 h7
  subst h1 h2 h5 h6 h7
  exact weak (pe_call F (h8.mono hk) hg hm kp b hd h9 ha hdb he hpl) (call_go rfl hr)
theorem s_call0 (c : OkC g E lv X) (d : Def g k x dfl f) (hk : k ≤ lv) (hg : Gl X x := by rfl) (hdb : (x == ("__debug__" : Str)) = false := by decide) : Snd g E H0 X false (.Call (.Name x p) [] [] pos) (mCall f dfl mNil) := by
  obtain ⟨fa, fd, ps, dvs, ds, F, hm, kp, b, hd, hr⟩ := d
  obtain ⟨prog, w', K, mg, base, A, N, s_0, H_0, env, outer, stack, ex, fn, calm, pn, xe⟩ := X
  obtain ⟨⟨h1, h2, h3, h4, h5, h6, h7, hfx⟩, h8, h9⟩ := c
  simp only at h1 h2 h5 h6 h7
  subst h1 h2 h5 h6 h7
  refine weak (pe_call0 F (h8.mono hk) hg hm kp b hd h9 hdb) ?_
  rintro σ H Q ⟨w, σI, B, s, p⟩
  exact ⟨w, [] ++ dfl, B, s.rb, Reps.app (by simp only [Reps]) (hr w), PostC.of s p⟩
/-! ### a def keeps its promise -/
variable {P : Program} {K : PySem.W.Frag} {base : Heap}
theorem start_at {N : List Str} {ds : List D} {vs : List V} {n : Nat} (rb : RB g w B H) (r : Reps g w ds vs) (hn : ds.length = n) (hN : n ≤ N.length) : S0 g H w (ds.map (fun d => some (false, d)) ++ List.replicate (N.length - n) Option.none) B (L2.start N vs) H where
  rb := rb
  len := by simp [L2.start, r.len, hn]
  sl := fun i d h => by
    by_cases hi : i < ds.length
    · rw [List.getElem?_append_left (by simpa using hi), List.getElem?_map] at h
      cases q : ds[i]? with
      | none => rw [q] at h; cases h
      | some d' =>
        rw [q] at h; cases h
        obtain ⟨v, e1, rv⟩ := Reps.get r q
        refine ⟨v, ?_, rv⟩
        unfold L2.start
        rw [List.getElem?_append_left (by rw [List.length_map, r.len]; exact hi), List.getElem?_map, e1]; rfl
    · rw [List.getElem?_append_right (by simp; omega)] at h
      rw [List.getElem?_replicate] at h
      split at h <;> cases h
  ow := fun i d h => by
    by_cases hi : i < ds.length
    · rw [List.getElem?_append_left (by simpa using hi), List.getElem?_map] at h
      cases q : ds[i]? with
      | none => rw [q] at h; cases h
      | some d' => rw [q] at h; cases h
    · rw [List.getElem?_append_right (by simp; omega)] at h
      rw [List.getElem?_replicate] at h
      split at h <;> cases h
  oi := fun i j d e a h => by
    by_cases hi : i < ds.length
    · rw [List.getElem?_append_left (by simpa using hi), List.getElem?_map] at h
      cases q : ds[i]? with
      | none => rw [q] at h; cases h
      | some d' => rw [q] at h; cases h
    · rw [List.getElem?_append_right (by simp; omega)] at h
      rw [List.getElem?_replicate] at h
      split at h <;> cases h
  me := fun i c es a h => by
    by_cases hi : i < ds.length
    · rw [List.getElem?_append_left (by simpa using hi), List.getElem?_map] at h
      cases q : ds[i]? with
      | none => rw [q] at h; cases h
      | some d' => rw [q] at h; cases h
    · rw [List.getElem?_append_right (by simp; omega)] at h
      rw [List.getElem?_replicate] at h
      split at h <;> cases h
/-- a def of the text whose body means b -/
theorem def_ok {x qual : Str} {st : Stmt} {fa : Addr} {fd : FuncData} {N ps : List Str} {n : Nat} {b : Ms} (F : L2.Fun g.K x qual st fa fd) (S : FnScope N ps (defScope st)) (hn : ps.length = n) (hN : n ≤ N.length)
    (fx : Fx g) (hb : ∀ (E : XK) (w0 : Wd) (H0 : Hp) (X : Cx), OkC g E k X → PassesOwn (model X.prog X.w) X.A X.env X.xe → Takes X (fun cls d _ H => E cls d H) → X.N = N → X.env.scope = defScope st → X.fn = (fun _ => true) → SndB g E w0 H0 X (defBody st) b) :
    FnOk g.prog g.w g.K g.mg g.base (L2.CX g.prog g.w) (k + 1) fa fd ps (spF g (mkFn n N.length b)) := by
  refine F.okX S (fun vs H Q E h => ?_) (fun cdv A outer s H vs Q E hr h => ?_)
  · obtain ⟨w, ds, B, rb, r, p⟩ := h
    unfold mkFn at p
    split at p
    · rename_i e; rw [r.len, e, hn]
    · exact p.elim
  · obtain ⟨w, ds, B, rb, r, p⟩ := h
    unfold mkFn at p
    split at p
    · rename_i e
      refine ⟨_, hb E w H _ ⟨⟨rfl, rfl, rfl, ?_, rfl, rfl, rfl, fx⟩, hr, ?_⟩ (passes_of rfl) (takes_of rfl rfl rfl rfl) rfl rfl rfl, ?_⟩
      · have := hr.un; show A.units + 3 + 100 < cLine; have h2 : A.units + 3 + 16 * k + 200 < cLine := this; omega
      · exact passes_call (takes_of rfl rfl rfl rfl) (fun _ _ _ _ h => h)
      · refine ⟨w, _, B, start_at rb r e hN, Ext.refl _ _, ?_⟩
        revert p
        generalize b _ B = q
        intro p
        cases q with
        | next σI' B' => exact fun w' σ H' _ s x => p w' .non H' x s.rb (rep_none g w')
        | ret d B' => exact fun w' v H' rb x r => p w' v H' x rb r
        | exc c y B' => exact fun w' cls dd H' rb x r => p w' cls dd H' x rb r
        | bad => exact p
    · exact p.elim
end
end Hf

set_option Elab.async false
set_option linter.all false
set_option maxRecDepth 100000
set_option maxHeartbeats 4000000
namespace Hf
open PySem PySem.Spec PyProof.Rows L2

section
variable {g : Gs} {w : Wd} {H H0 : Hp} {σI : Sl} {σ : L2.St} {B : Bs} {x : V} {c : Nat} {ds : List D}
theorem RepO.inst (s : S0 g H0 w σI B σ H) (h : RepO g w σI σ (.inst c ds) x) : ∃ a dx vs, x = .ref a ∧ H a = some (.ins (g.cl c) dx ((fldN c).zip vs)) ∧ ds.length ≤ (fldN c).length ∧ g.has c = true ∧ Reps g w ds vs := by
  rcases h with h | ⟨i, h1, h2⟩
  · simp only [Rep] at h
    obtain ⟨a, dx, vs, rfl, p, l, hc, r⟩ := h
    exact ⟨a, dx, vs, rfl, s.rb.sub _ _ p, by omega, hc, r⟩
  · obtain ⟨a, o, e, ha, ct, _⟩ := s.ow i _ h1
    rw [h2] at e
    cases e
    simp only [Cont] at ct
    obtain ⟨dx, vs, rfl, l, hc, r⟩ := ct
    exact ⟨a, dx, vs, rfl, ha, l, hc, r⟩
theorem zip_lookup : ∀ {ns : List Str} {vs : List V} {j : Nat} {f : Str} {v : V}, ns.Nodup → ns[j]? = some f → vs[j]? = some v → (ns.zip vs).lookup f = some v
  | [], _, _, _, _, _, h, _ => by simp at h
  | n :: ns, [], j, f, v, _, _, h => by simp at h
  | n :: ns, u :: us, 0, f, v, nd, h1, h2 => by
    simp at h1 h2; subst h1 h2
    simp [List.lookup]
  | n :: ns, u :: us, j + 1, f, v, nd, h1, h2 => by
    simp only [List.getElem?_cons_succ] at h1 h2
    have hne : f ≠ n := fun e => by
      subst e
      exact (List.nodup_cons.mp nd).1 (List.mem_of_getElem? h1)
    simp only [List.zip_cons_cons, List.lookup]
    rw [show (f == n) = false from beq_eq_false_iff_ne.mpr hne]
    exact zip_lookup (List.nodup_cons.mp nd).2 h1 h2
theorem zip_lookup_none : ∀ {ns : List Str} {vs : List V} {f : Str}, f ∉ ns → (ns.zip vs).lookup f = none
  | [], _, _, _ => by simp
  | n :: ns, [], f, _ => by simp
  | n :: ns, u :: us, f, h => by
    simp only [List.mem_cons, not_or] at h
    simp only [List.zip_cons_cons, List.lookup]
    rw [show (f == n) = false from beq_eq_false_iff_ne.mpr h.1]
    exact zip_lookup_none h.2
theorem putF_zip : ∀ {ns : List Str} {vs : List V} {f : Str} {v : V}, ns.Nodup → ns[vs.length]? = some f → putF f v (ns.zip vs) = ns.zip (vs ++ [v])
  | [], vs, f, v, _, h => by simp at h
  | n :: ns, [], f, v, _, h => by simp at h; subst h; simp [putF]
  | n :: ns, u :: us, f, v, nd, h => by
    simp only [List.length_cons, List.getElem?_cons_succ] at h
    have hne : n ≠ f := fun e => by
      subst e
      exact (List.nodup_cons.mp nd).1 (List.mem_of_getElem? h)
    simp only [List.zip_cons_cons, List.cons_append, putF]
    rw [if_neg hne, putF_zip (List.nodup_cons.mp nd).2 h]
end
section
variable {g : Gs} {E : XK} {w0 w : Wd} {H0 H : Hp} {X : Cx} {e o : Expr} {es : List Expr} {m : Ev} {ms : Evs} {pos p p1 p2 : Pos} {x : Str} {f : Fn} {lv k c : Nat} {dfl : List D} {σI : Sl} {σ : L2.St} {B : Bs} {Q : VK} {b1 : Bool} {i : Nat}
/-! ### fields -/
def mFld (c j : Nat) (m : Ev) : Ev := fun σ B => (m σ B).bind fun d B1 => match d with
  | .inst c' ds => if c' = c then okIf ds[j]? B1 else .bad
  | _ => .bad
theorem s_fld (ok : Ok g X) {j : Nat} {n : Str} (hj : (fldN c)[j]? = some n) (he : Snd g E H0 X b1 e m) (hb : attributeBase e n X.env (eval e X.env) = eval e X.env := by rfl) : Snd g E H0 X false (.Attribute e n pos) (mFld c j m) := by
  refine weak (pe_fld he hb) ?_
  rintro σ H Q ⟨w, σI, B, s, p⟩
  refine tI_bind s p fun d B1 w1 v H1 x1 s1 r1 p1 => ?_
  split at p1
  · rename_i c' ds
    split at p1
    · rename_i hc
      subst hc
      obtain ⟨d, hd, p2⟩ := okIf_go p1
      obtain ⟨a, dx, vs, rfl, ha, hl, hh, r⟩ := r1.up.inst s1
      have C := ok.fx.cls _ hh
      obtain ⟨u, e1, ru⟩ := Reps.get r hd
      rw [ok.K]
      exact ⟨a, _, dx, _, u, rfl, ha, C.cls, C.na _ (List.mem_of_getElem? hj), zip_lookup C.nd hj e1, p2.nowR s1 ru⟩
    · exact p1.elim
  · exact p1.elim
/-- self.f = e in an __init__: self is the own instance in slot 0 -/
def mFldSet (c : Nat) (m : Ev) : Ms := fun σ B => (m σ B).st fun d B1 => match σ[(0 : Nat)]? with
  | some (some (true, .inst c' ds)) => if c' = c ∧ ds.length < (fldN c).length then .next (σ.set 0 (some (true, .inst c (ds ++ [d])))) B1 else .bad
  | _ => .bad
theorem fldN_len (c : Nat) : (fldN c).length ≤ 3 := by
  unfold fldN
  split <;> simp
theorem z_fldSet (ok : Ok g X) {j : Nat} {n : Str} (hj : (fldN c)[j]? = some n) (he : Snd g E H0 X false e m) (hN : X.N[0]? = some x := by rfl) (hv : Vis X.env.scope x := by first | exact Or.inl rfl | exact Or.inr (Or.inl rfl) | exact Or.inr (Or.inr rfl)) (hd : (x == ("__debug__" : Str)) = false := by decide) (hcd : (x == ("__classdict__" : Str)) = false := by decide)
    (hs : swapsWith e (some (.Attribute (.Name x p1) n p2)) pos.line X.env = pure false := by rfl) : SndS g E w0 H0 X (.Assign [.Attribute (.Name x p1) n p2] e pos) (fun σ B => match σ[(0 : Nat)]? with
      | some (some (true, .inst _ ds)) => if ds.length = j then mFldSet c m σ B else .bad
      | _ => .bad) := by
  refine weakS (ps_fld (pe_var hN hv hd hcd) he hs) ?_
  rintro D σ H ⟨w, σI, B, s, x0, p⟩
  unfold mFldSet at p
  simp only at p
  split at p
  · rename_i c0 ds hi
    split at p
    · rename_i hl0
      subst hl0
      refine st_go s x0 p fun d B1 w1 v H1 x1 x2 s1 r p1 => ?_
      simp only at p1
      split at p1
      · rename_i h
        obtain ⟨hc, hl⟩ := h
        subst hc
        obtain ⟨a, o, e1, ha, ct, np, nb, n0⟩ := s1.ow 0 _ hi
        simp only [Cont] at ct
        obtain ⟨dx, vs, rfl, l, hh, rr⟩ := ct
        have C := ok.fx.cls _ hh
        refine ⟨_, e1, a, _, dx, _, rfl, ha, ok.K ▸ C.cls, ok.K ▸ C.na _ (List.mem_of_getElem? hj), ?_, ?_⟩
        · have := fldN_len c0; rw [List.length_zip]; omega
        · rw [putF_zip C.nd (by rw [rr.len]; exact hj)]
          exact p1 w1 σ _ (Le.refl _) (s1.mut hi e1 (by simp only [Cont]; exact ⟨dx, _, rfl, by simp; omega, hh, Reps.app rr (Reps.one r)⟩) (fun _ _ _ => ⟨_, _, rfl⟩)) (x1.mut n0)
      · exact p1.elim
    · exact p.elim
  · exact p.elim
end
end Hf

set_option Elab.async false
set_option linter.all false
set_option maxRecDepth 100000
set_option maxHeartbeats 4000000
namespace Hf
open PySem PySem.Spec PyProof.Rows L2

/-- a constant of the module -/
def GlobC (g : Gs) (x : Str) (d : D) : Prop := ∃ v u, g.mg x = some u ∧ RelV v u ∧ ∀ w, Rep g w d v
theorem nbs {g : Gs} {X : Cx} (ok : Ok g X) {x : String} (h : x ∈ ["len", "range", "isinstance", "tuple", "list", "all", "any", "max", "min", "set", "sorted", "enumerate", "zip", "repr", "str", "int", "sum", "dict", "bool"] := by decide) : X.mg (Str.ofString x) = Option.none := by
  rw [ok.mg]
  exact ok.fx.nb x h
section
variable {g : Gs} {E : XK} {w0 w : Wd} {H0 H : Hp} {X : Cx} {e o a b : Expr} {es : List Expr} {m ma mb : Ev} {ms : Evs} {pos p p1 p2 apos : Pos} {x : Str} {f : Fn} {lv k c : Nat} {dfl : List D} {σI : Sl} {σ : L2.St} {B : Bs} {Q : VK} {b1 b2 : Bool} {i : Nat}
theorem s_glob (ok : Ok g X) {d : D} (G : GlobC g x d) (hg : Gl X x := by rfl) (hd : (x == ("__debug__" : Str)) = false := by decide) : Snd g E H0 X false (.Name x pos) (mC d) := by
  obtain ⟨v, u, hm, r, h⟩ := G
  exact s_const (pe_glob hg (by rw [ok.mg]; exact hm) r hd) h
/-! ### isinstance -/
def isB : Bt → D → Option Bool
  | .int, .int _ => some true
  | .int, .bool _ => some true
  | .bool, .bool _ => some true
  | .tuple, .tup _ => some true
  | .str, .str _ => some true
  | .list, .lst _ => some true
  | .list, .scr _ => some true
  | _, .prs _ => Option.none
  | _, .dct _ _ => Option.none
  | _, .box _ => Option.none
  | _, .cls _ => Option.none
  | _, _ => some false
def tyN : D → Option String
  | .none => some "NoneType"
  | .int _ => some "int"
  | .bool _ => some "bool"
  | .str _ => some "str"
  | .lst _ => some "list"
  | .scr _ => some "list"
  | .tup _ => some "tuple"
  | _ => Option.none
theorem tyX_of (s : S0 g H0 w σI B σ H) {d : D} {v : V} {n : String} (r : RepO g w σI σ d v) (h : tyN d = some n) : TyX g.K H v (.type n) := by
  cases d <;> simp only [tyN, Option.some.injEq, reduceCtorEq] at h <;> subst h
  · rw [r.none s]; exact .base .non
  · rw [r.bool s]; exact .base (.bl _)
  · rw [r.int s]; exact .base (.int _)
  · rw [r.str s]; exact .base (.str _)
  · obtain ⟨a, vs, rfl, q, _⟩ := r.tup s
    rcases q with (q | ⟨o, q⟩) | ⟨o, its, n, q, q2, _⟩
    · exact .base (.tup q)
    · exact .fTuple q
    · exact .kTuple q q2
  · obtain ⟨a, vs, rfl, q, _⟩ := r.lst s
    exact .base (.lst q)
  · obtain ⟨a, vs, rfl, q, _⟩ := r.scr s
    rcases q with (q | ⟨o, q⟩) | ⟨o, its, n, q, q2, _⟩
    · exact .base (.lst q)
    · exact .base (.frz q)
    · exact .kList q q2
theorem tyX_ins (ok : Ok g X) (s : S0 g H0 w σI B σ H) {ds : List D} {v : V} (r : RepO g w σI σ (.inst c ds) v) : g.has c = true ∧ TyX g.K H v (.ref (g.cl c)) := by
  obtain ⟨a, dx, vs, rfl, ha, hl, hh, r⟩ := r.inst s
  have C := ok.fx.cls _ hh
  exact ⟨hh, .base (.ins ha C.cls C.ha ok.fx.hn ok.fx.htk C.hm)⟩
theorem kit_tab : ∀ T : Bt, ∀ n ∈ ["NoneType", "int", "bool", "str", "list", "tuple", "dict"], kitB n T.nm = some (n == T.nm || (n == "bool" && T == .int)) := by
  intro T
  cases T <;> decide +kernel
theorem tyN_mem {d : D} {n : String} (h : tyN d = some n) : n ∈ ["NoneType", "int", "bool", "str", "list", "tuple", "dict"] := by
  cases d <;> simp only [tyN, Option.some.injEq, reduceCtorEq] at h <;> subst h <;> decide
theorem isB_ty (T : Bt) {d : D} {n : String} (h : tyN d = some n) : isB T d = some (n == T.nm || (n == "bool" && T == .int)) := by
  cases d <;> simp only [tyN, Option.some.injEq, reduceCtorEq] at h <;> subst h <;> cases T <;> rfl
theorem isB_kit (ok : Ok g X) (T : Bt) (s : S0 g H0 w σI B σ H) {d : D} {v : V} {r : Bool} (hr : RepO g w σI σ d v) (h : isB T d = some r) : ∃ t, TyX g.K H v t ∧ PySem.W.kitOne g.K t (.type T.nm) = some r := by
  cases q : tyN d with
  | some n =>
    refine ⟨_, tyX_of s hr q, ?_⟩
    rw [isB_ty T q] at h
    cases h
    exact kit_ty (kit_tab T n (tyN_mem q))
  | none =>
    cases d <;> simp only [tyN, reduceCtorEq] at q
    · cases T <;> simp [isB] at h
    · cases T <;> simp [isB] at h
    · obtain ⟨hh, ty⟩ := tyX_ins ok s hr
      refine ⟨_, ty, ?_⟩
      have : r = false := by cases T <;> simp [isB] at h <;> first | exact h | exact h.symm
      subst this
      exact (ok.fx.cls _ hh).isB T
    · cases T <;> simp [isB] at h
    · cases T <;> simp [isB] at h
def mIsB (T : Bt) (m : Ev) : Ev := m1 (fun d B => match isB T d with
  | some r => .ok (.bool r) B
  | Option.none => .bad) m
theorem boot_bt (T : Bt) : bootBuiltins (Str.ofString T.nm) = some (.type T.nm) := by cases T <;> decide +kernel
theorem nm_mem (T : Bt) : T.nm ∈ ["len", "range", "isinstance", "tuple", "list", "all", "any", "max", "min", "set", "sorted", "enumerate", "zip", "repr", "str", "int", "sum", "dict", "bool"] := by cases T <;> decide
theorem s_isB (ok : Ok g X) (T : Bt) {tn : Str} (ht : tn = Str.ofString T.nm) (he : Snd g E H0 X b1 e m) (hg : Gl X "isinstance" := by rfl) (hg2 : Gl X tn := by rfl) (hd : (tn == ("__debug__" : Str)) = false := by decide) (hn : tn ≠ "__name__" := by decide)
    (h1 : starEach [e, .Name tn p2] X.env = (false, eval e X.env) :: starEach [.Name tn p2] X.env := by rfl) (h2 : starEach [.Name tn p2] X.env = (false, eval (.Name tn p2) X.env) :: starEach [] X.env := by rfl) (hpl : (backTo pos (starEach [.Name tn p2] X.env)).any (·.1) = false := by rfl) :
    Snd g E H0 X false (.Call (.Name "isinstance" p1) [e, .Name tn p2] [] pos) (mIsB T m) := by
  subst ht
  refine weak (pe_callB call_isi hg (nbs ok) PyProof.Rows.boot_isinstance (pa_cons he (pa_cons (pe_bltn (v := .ty T.nm) hg2 (by rw [ok.mg]; exact ok.fx.nb _ (nm_mem T)) (boot_bt T) rfl hn hd) pa_nil h2) h1) (by decide) (by decide) h1 hpl) ?_
  rintro σ H Q ⟨w, σI, B, s, p⟩
  refine tI_bind s p fun d B1 w1 v H1 x1 s1 r1 p1 => ?_
  split at p1
  · rename_i r hr
    obtain ⟨t, ty, kt⟩ := isB_kit ok T s1 r1.up hr
    exact ⟨v, _, t, _, r, rfl, .ty _, ok.K ▸ ty, ok.K ▸ kt, p1.nowR s1 (rep_bool g w1 _)⟩
  · exact p1.elim
def isC (c : Nat) : D → Option Bool
  | .inst c' _ => some (subC c' c)
  | .prs _ => Option.none
  | .dct _ _ => Option.none
  | .box _ => Option.none
  | .cls _ => Option.none
  | _ => some false
def mIsC (c : Nat) (m : Ev) : Ev := m1 (fun d B => match isC c d with
  | some r => .ok (.bool r) B
  | Option.none => .bad) m
/-- a class of the module by its name -/
structure ClsN (g : Gs) (c : Nat) (x : Str) : Prop where
  has : g.has c = true
  mg : g.mg x = some (.ref (g.cl c))
theorem s_isC (ok : Ok g X) (N : ClsN g c x) (he : Snd g E H0 X b1 e m) (hg : Gl X "isinstance" := by rfl) (hg2 : Gl X x := by rfl) (hd : (x == ("__debug__" : Str)) = false := by decide)
    (h1 : starEach [e, .Name x p2] X.env = (false, eval e X.env) :: starEach [.Name x p2] X.env := by rfl) (h2 : starEach [.Name x p2] X.env = (false, eval (.Name x p2) X.env) :: starEach [] X.env := by rfl) (hpl : (backTo pos (starEach [.Name x p2] X.env)).any (·.1) = false := by rfl) :
    Snd g E H0 X false (.Call (.Name "isinstance" p1) [e, .Name x p2] [] pos) (mIsC c m) := by
  refine weak (pe_callB call_isi hg (nbs ok) PyProof.Rows.boot_isinstance (pa_cons he (pa_cons (pe_glob (v := .ref (g.cl c)) hg2 (by rw [ok.mg]; exact N.mg) rfl hd) pa_nil h2) h1) (by decide) (by decide) h1 hpl) ?_
  rintro σ H Q ⟨w, σI, B, s, p⟩
  refine tI_bind s p fun d B1 w1 v H1 x1 s1 r1 p1 => ?_
  split at p1
  · rename_i r hr
    have key : ∃ t, TyX g.K H1 v t ∧ PySem.W.kitOne g.K t (.ref (g.cl c)) = some r := by
      cases q : tyN d with
      | some n =>
        have e : r = false := by cases d <;> simp [isC, tyN] at hr q <;> first | exact hr | exact hr.symm
        subst e
        exact ⟨_, tyX_of s1 r1.up q, (ok.fx.cls _ N.has).isO n (tyN_mem q)⟩
      | none =>
        cases d <;> simp only [tyN, reduceCtorEq] at q
        · simp [isC] at hr
        · simp [isC] at hr
        · obtain ⟨hh, ty⟩ := tyX_ins ok s1 r1.up
          simp only [isC, Option.some.injEq] at hr
          subst hr
          exact ⟨_, ty, ok.fx.sub _ _ hh N.has⟩
        · simp [isC] at hr
        · simp [isC] at hr
    obtain ⟨t, ty, kt⟩ := key
    exact ⟨v, _, t, _, r, rfl, .own _, ok.K ▸ ty, ok.K ▸ kt, p1.nowR s1 (rep_bool g w1 _)⟩
  · exact p1.elim
/-! ### methods and properties of instances -/
/-- a method of a class; what is handed in is self and the rest -/
def Mth (g : Gs) (k c : Nat) (n : Str) (dfl : List D) (f : Fn) : Prop := ∃ (fa : Addr) (fd : FuncData) (ps : List Str) (dvs : List V) (ds : List Value), FnOk g.prog g.w g.K g.mg g.base (L2.CX g.prog g.w) k fa fd ps (spF g f) ∧ Meth g.K (g.cl c) n fa ∧ Binds g.K fd ps ds ∧ Vals dvs ds ∧ (∀ w, Reps g w dfl dvs) ∧ n ∉ fldN c ∧ g.has c = true
def Prp (g : Gs) (k c : Nat) (n : Str) (f : Fn) : Prop := ∃ (pa fa : Addr) (fd : FuncData) (ps : List Str), FnOk g.prog g.w g.K g.mg g.base (L2.CX g.prog g.w) k fa fd ps (spF g f) ∧ PropOf g.K (g.cl c) n pa fa ∧ Binds g.K fd ps [] ∧ g.has c = true
def prpK (c : Nat) (f : Fn) : D → Bs → Rs D
  | .inst c' ds, B1 => if c' = c then noX (f [.inst c' ds] B1) else .bad
  | _, _ => .bad
theorem prpK_or (c : Nat) (f : Fn) (d : D) (B : Bs) : prpK c f d B = .bad ∨ ∃ ds, d = .inst c ds ∧ prpK c f d B = noX (f [.inst c ds] B) := by
  cases d <;> first | exact .inl rfl | skip
  rename_i c' ds
  by_cases e : c' = c
  · subst e; exact .inr ⟨ds, rfl, if_pos rfl⟩
  · exact .inl (if_neg e)
def mPrp (c : Nat) (f : Fn) (m : Ev) : Ev := fun σ B => (m σ B).bind (prpK c f)
theorem noX_go (s : S0 g H0 w σI B σ H) : ∀ {r : Rs D}, PostE g E w H σI σ false Q (noX r) → PostC g E0 w H Q r
  | .ok _ _, h => h
  | .exc _ _ _, h => h.elim
  | .bad, h => h
theorem pass_nox {P : Program} {w : World} {X : Cx} : Passes (L2.CX P w) X E0 := fun _ _ _ _ _ _ _ h => by
  obtain ⟨_, _, _, _, _, _, _, _, _, _, _, _, z⟩ := h
  exact z.elim
theorem s_prp (ok : OkC g E lv X) {n : Str} (D : Prp g k c n f) (hk : k + 1 ≤ lv) (he : Snd g E H0 X false e m) (hab : attributeBase e n X.env (eval e X.env) = eval e X.env := by rfl) : Snd g E H0 X false (.Attribute e n pos) (mPrp c f m) := by
  obtain ⟨pa, fa, fd, ps, F, hp, b, hc⟩ := D
  have C := ok.fx.cls _ hc
  obtain ⟨prog, w', K, mg, base, A, N, s_0, H_0, env, outer, stack, ex, fn, calm, pn, xe⟩ := X
  obtain ⟨⟨h1, h2, h3, h4, h5, h6, h7, hfx⟩, h8, h9⟩ := ok
  simp only at h1 h2 h5 h6 h7
  subst h1 h2 h5 h6 h7
  refine weak (pe_prop he C.cls hp F (h8.mono hk) b .nil (E := E0) pass_nox hab) ?_
  rintro σ H Q ⟨w, σI, B, s, p⟩
  refine tI_bind s p fun d B1 w1 v H1 x1 s1 r1 p1 => ?_
  rcases prpK_or c f d B1 with e | ⟨ds, rfl, e⟩
  · rw [e] at p1; exact p1.elim
  · rw [e] at p1
    obtain ⟨a, dx, vs, e1, ha, hl, hh, rr⟩ := (RepB.up r1).inst s1
    subst e1
    exact ⟨a, dx, _, rfl, ha, w1, _, B1, s1.rb, Reps.one r1, noX_go s1 p1⟩
def mMth (c : Nat) (f : Fn) (dfl : List D) (m : Ev) (ms : Evs) : Ev := fun σ B => (m σ B).bind fun d B1 => match d with
  | .inst c' ds => if c' = c then (ms σ B1).bind fun es B2 => f (.inst c' ds :: (es ++ dfl)) B2 else .bad
  | _ => .bad
end
end Hf

set_option Elab.async false
set_option linter.all false
set_option maxRecDepth 100000
set_option maxHeartbeats 8000000
namespace Hf
open PySem PySem.Spec PyProof.Rows L2
theorem sub_tuple_set : isSubtype (.type "tuple") (.type "set") = pure false := by
  rw [isSubtype_type]; kernel_rfl
theorem sub_tuple_frozenset : isSubtype (.type "tuple") (.type "frozenset") = pure false := by
  rw [isSubtype_type]; kernel_rfl
abbrev newSet (w : World) : Obj := { cls := .type "set", dict := none, data := .set #[] 0 (.fresh 0 0 (!w.params.followText "set-order")) }
theorem heap_none {h : Heap} {b : Addr} (hb : h.objs.size ≤ b) : h.get? b = Option.none := by
  cases q : h.get? b with
  | none => rfl
  | some o => exact (Nat.lt_irrefl _ (Nat.lt_of_lt_of_le (Heap.lt_size q) hb)).elim
section
variable {P : Program} {w : World} {A : Around} {E : Value → Shared → Prop} {s : Shared}
/-- set(x), x a list or a tuple: what its loop leaves, by whatever invariant the loop's lemma has -/
theorem set_of {Fin : Heap → Prop} {l : Addr} {T : String} {odict : Option Addr} {odata : Data} {oslots : Array (Option Value)} {ito : Obj} {Q : Value → Shared → Prop}
    (hol : s.heap.get? l = some { cls := .type T, dict := odict, data := odata, slots := oslots }) (sl1 : isSubtype (.type T) (.type "set") = pure false) (sl2 : isSubtype (.type T) (.type "frozenset") = pure false) (hne : (Value.type T == Value.type "dict") = false)
    (iter : ∀ (A' : Around) (E' : Value → Shared → Prop) (s1 : Shared) (Q' : Value → Shared → Prop), s1.heap.get? l = some { cls := .type T, dict := odict, data := odata, slots := oslots } → Q' (.ref s1.heap.objs.size) { s1 with heap := s1.heap.push ito } → wpAny (model P w) A' (pyIter (.ref l)) Q' E' s1)
    (loop : ∀ (R : Result → Shared → Prop), (∀ (h' : Heap) (tk : Nat), Fin h' → (∀ b o, s.heap.get? b = some o → h'.get? b = some o) → R (.ok (.ret .none)) { s with heap := h', toks := tk }) →
      codeAny (model P w) A.in1.in1 (.builtin "set.update.loop" ⟨[.ref s.heap.objs.size, .ref (s.heap.push (newSet w)).objs.size], []⟩) R { s with heap := (s.heap.push (newSet w)).push ito })
    (h : ∀ (h' : Heap) (tk : Nat), Fin h' → (∀ b o, s.heap.get? b = some o → h'.get? b = some o) → Q (.ref s.heap.objs.size) { s with heap := h', toks := tk }) :
    wpAny (model P w) A (call (.type "set") [.ref l]) Q E s := by
  obtain ⟨mc, mt, hmro⟩ := F.called_set.mro
  have hmade := F.called_set.made
  have hsub := F.called_set.sub
  refine wpAny_call (codeAny_of_tree ?_)
  show wpAny _ _ (callAny (.type "set") _) _ _ _
  refine wpAny_pure ⟨Code.quiet_builtin _ (by decide +kernel), ?_⟩
  refine codeAny_builtin F.entry_type_call ?_
  rw [Around.under_plain (weight_type_call_type "set" [Value.ref l] []) rfl]
  have nt := F.called_set.notType
  have cc := F.called_set.canCreate
  have ct1 := F.typeCall_set_1 (Value.ref l)
  repeat (any_goals (first | assumption | wp_step))
  let W1 : Value → Shared → Prop := fun obj s₁ => obj = .ref s.heap.objs.size ∧ s₁ = { s with heap := s.heap.push (newSet w) }
  refine codeAny_mono (code_set_led1 (Value.ref l) (E := E) (Q₁ := W1) ⟨rfl, rfl⟩) fun r s₁ hr => ?_
  cases r with
  | error e => exact hr
  | ok fl =>
    cases fl with
    | ret obj =>
      obtain ⟨rfl, rfl⟩ := hr
      have hS : (s.heap.push (newSet w)).get? s.heap.objs.size = some (newSet w) := Heap.get?_push_size _ rfl
      have hT : Shared.TypeIs { s with heap := s.heap.push (newSet w) } (.ref s.heap.objs.size) "set" := ⟨_, hS, rfl⟩
      have li := F.called_set.init.lookup
      have bi := F.called_set.init.bind (.ref s.heap.objs.size)
      repeat (any_goals (first | assumption | wp_step))
      let W2 : Value → Shared → Prop := fun r s₂ => r = .none ∧ ∃ h' tk, s₂ = { s with heap := h', toks := tk } ∧ Fin h' ∧ ∀ b o, s.heap.get? b = some o → h'.get? b = some o
      refine codeAny_mono (codeAny_call_builtin (R := wants W2 E) F.called_set.init.plain F.entry_set_init (check_set_init_1 hT ?_)) fun r₂ s₂ hr₂ => ?_
      · have hol' : (s.heap.push (newSet w)).get? l = some { cls := .type T, dict := odict, data := odata, slots := oslots } := Heap.get?_push_of_some _ hol
        unfold Builtin.«set.__init__» noKeywords Builtin.Frozenset.updateFrom
        generalize hPI : pyIter = PI
        wp_walk
        subst hPI
        refine iter _ _ _ _ hol' ?_
        refine wpAny_bind (wpAny_runValue ?_)
        refine loop _ fun h' tk' hF hkp => ?_
        refine wpAny_pure ?_
        show wpAny _ _ (ret Value.none) _ _ _
        exact wpAny_pure ⟨rfl, h', tk', rfl, hF, hkp⟩
      · cases r₂ with
        | error e => exact hr₂
        | ok fl₂ =>
          cases fl₂ with
          | ret r =>
            obtain ⟨rfl, h', tk, rfl, hF, hk'⟩ := hr₂
            repeat (any_goals (first | assumption | wp_step))
            exact h _ _ hF hk'
          | next => exact hr₂.elim
          | brk => exact hr₂.elim
          | cont => exact hr₂.elim
    | next => exact hr.elim
    | brk => exact hr.elim
    | cont => exact hr.elim
end
end Hf

set_option Elab.async false
set_option linter.all false
set_option maxRecDepth 100000
set_option maxHeartbeats 4000000
namespace Hf
open PySem PySem.Spec PyProof.Rows L2
/-! ### how many different ones -/
def dd {α : Type} [DecidableEq α] : List α → List α
  | [] => []
  | x :: xs => if x ∈ xs then dd xs else x :: dd xs
theorem mem_dd {α : Type} [DecidableEq α] {a : α} : ∀ {l : List α}, a ∈ dd l ↔ a ∈ l
  | [] => by simp [dd]
  | x :: xs => by
    unfold dd
    split
    · rename_i h
      rw [mem_dd, List.mem_cons]
      constructor
      · exact .inr
      · rintro (rfl | h')
        · exact h
        · exact h'
    · rw [List.mem_cons, List.mem_cons, mem_dd]
theorem nodup_dd {α : Type} [DecidableEq α] : ∀ l : List α, (dd l).Nodup
  | [] => by simp [dd]
  | x :: xs => by
    unfold dd
    split
    · exact nodup_dd xs
    · rename_i h
      exact List.nodup_cons.mpr ⟨fun z => h (mem_dd.mp z), nodup_dd xs⟩
theorem dd_of_nodup {α : Type} [DecidableEq α] : ∀ {l : List α}, l.Nodup → dd l = l
  | [], _ => rfl
  | x :: xs, h => by
    unfold dd
    rw [if_neg (List.nodup_cons.mp h).1, dd_of_nodup (List.nodup_cons.mp h).2]
theorem dd_le {α : Type} [DecidableEq α] : ∀ l : List α, (dd l).length ≤ l.length
  | [] => Nat.le_refl _
  | x :: xs => by
    unfold dd
    split
    · exact Nat.le_succ_of_le (dd_le xs)
    · exact Nat.succ_le_succ (dd_le xs)
theorem nodup_of_dd {α : Type} [DecidableEq α] : ∀ {l : List α}, (dd l).length = l.length → l.Nodup
  | [], _ => List.nodup_nil
  | x :: xs, h => by
    unfold dd at h
    split at h
    · have := dd_le xs
      simp only [List.length_cons] at h
      omega
    · rename_i hx
      exact List.nodup_cons.mpr ⟨hx, nodup_of_dd (by simpa using h)⟩
theorem nodup_sub_le {α : Type} [DecidableEq α] : ∀ {l m : List α}, l.Nodup → (∀ a ∈ l, a ∈ m) → l.length ≤ m.length
  | [], _, _, _ => Nat.zero_le _
  | x :: xs, m, h, s => by
    have h1 := nodup_sub_le (l := xs) (m := m.erase x) (List.nodup_cons.mp h).2 fun a ha => by
      have ne : a ≠ x := fun e => (List.nodup_cons.mp h).1 (e ▸ ha)
      exact (List.mem_erase_of_ne ne).mpr (s a (List.mem_cons_of_mem _ ha))
    have hx := s x List.mem_cons_self
    rw [List.length_erase_of_mem hx] at h1
    have := List.length_pos_of_mem hx
    simp only [List.length_cons]
    omega
theorem nodup_len {α : Type} [DecidableEq α] {l m : List α} (h : l.Nodup) (h' : m.Nodup) (e : ∀ a, a ∈ l ↔ a ∈ m) : l.length = m.length :=
  Nat.le_antisymm (nodup_sub_le h fun a ha => (e a).mp ha) (nodup_sub_le h' fun a ha => (e a).mpr ha)

/-! ### len(set(t)), t a tuple of tuples of whole numbers -/
def intA : D → Option Int
  | .int i => some i
  | _ => Option.none
def intsA : List D → Option (List Int)
  | [] => some []
  | d :: ds => match intA d, intsA ds with
    | some k, some ks => some (k :: ks)
    | _, _ => Option.none
def tupA : D → Option (List Int)
  | .tup ds => intsA ds
  | _ => Option.none
def tupsA : List D → Option (List (List Int))
  | [] => some []
  | d :: ds => match tupA d, tupsA ds with
    | some k, some ks => some (k :: ks)
    | _, _ => Option.none
theorem intsA_map {ds : List D} {ns : List Int} (h : intsA ds = some ns) : ds = ns.map D.int := by
  induction ds generalizing ns with
  | nil => cases h; rfl
  | cons d ds ih =>
    unfold intsA at h
    split at h
    · rename_i k ks e1 e2
      cases h
      rw [ih e2]
      cases d <;> simp [intA] at e1
      subst e1; rfl
    · cases h
theorem Reps.ints {g : Gs} {w : Wd} : ∀ {ns : List Int} {vs : List V}, Reps g w (ns.map D.int) vs → vs = ns.map V.int
  | [], vs, h => by simpa only [List.map_nil, Reps] using h
  | n :: ns, vs, h => by
    simp only [List.map_cons, Reps, Rep] at h
    obtain ⟨v, us, rfl, rfl, r⟩ := h
    rw [Reps.ints r]; rfl
theorem reps_ints (g : Gs) (w : Wd) : ∀ ns : List Int, Reps g w (ns.map D.int) (ns.map V.int)
  | [] => by simp only [List.map_nil, Reps]
  | n :: ns => by
    simp only [List.map_cons, Reps, Rep]
    exact ⟨_, _, rfl, rfl, reps_ints g w ns⟩
/-- tuples of whole numbers with their addresses -/
theorem Reps.tups {g : Gs} {w : Wd} : ∀ {ds : List D} {vs : List V} {ks : List (List Int)}, Reps g w ds vs → tupsA ds = some ks → ∃ ps : List (Addr × List Int), vs = ps.map (fun p => V.ref p.1) ∧ ks = ps.map (·.2) ∧ ∀ p ∈ ps, SqT g.K w.P p.1 (p.2.map V.int)
  | [], vs, ks, h, e => by
    simp only [Reps] at h
    cases e
    exact ⟨[], h, rfl, by simp⟩
  | d :: ds, vs, ks, h, e => by
    simp only [Reps] at h
    obtain ⟨v, us, rfl, r, rs⟩ := h
    unfold tupsA at e
    split at e
    · rename_i k ks' e1 e2
      cases e
      obtain ⟨ps, h1, h2, h3⟩ := Reps.tups rs e2
      cases d <;> simp [tupA] at e1
      rw [intsA_map e1] at r
      simp only [Rep] at r
      obtain ⟨a, vs, rfl, q, rr⟩ := r
      have ev := rr.ints
      refine ⟨(a, k) :: ps, by simp [h1], by simp [h2], fun p hp => ?_⟩
      rcases List.mem_cons.mp hp with rfl | hp
      · exact ev ▸ q.T
      · exact h3 p hp
    · cases e
def fLenSet : D → Bs → Rs D
  | .tup ds, B => match tupsA ds with
    | some ks => if ks.length < 64 then .ok (.int (dd ks).length) B else .bad
    | Option.none => .bad
  | _, _ => .bad
section
variable {g : Gs} {E : XK} {H0 : Hp} {X : Cx} {e : Expr} {m : Ev} {b1 : Bool} {p p2 q pos : Pos}
def tLS (K : PySem.W.Frag) (ta : TE) : TE := fun σ H Q => ta σ H fun x H1 => ∃ (l : Addr) (ps : List (Addr × List Int)), x = V.ref l ∧ SqT K H1 l (ps.map fun p => V.ref p.1) ∧ (∀ p ∈ ps, SqT K H1 p.1 (p.2.map V.int)) ∧ ps.length < 64 ∧ Q (.int (dd (ps.map (·.2))).length) H1
theorem pe_ls {ta : TE} (hu : X.A.units + 64 < cLine) (hc : X.calm = true) (hg : Gl X "len") (hm : X.mg "len" = none) (hg2 : Gl X "set") (hm2 : X.mg "set" = none) (ha : PE X e ta) (na : starEach [e] X.env = (false, eval e X.env) :: starEach [] X.env) :
    PE X (.Call (.Name "len" p) [.Call (.Name "set" p2) [e] [] q] [] pos) (tLS X.K ta) := by
  refine ⟨fun pins s σ H Q I h => ?_⟩
  refine Call_ (ld_blt I hg hm PySem.boot_len (PyProof.Rows.callWith_builtin1 (PyProof.Rows.args_cons ?_ rfl) rfl rfl))
  refine Call_ (ld_blt I hg2 hm2 PyProof.Rows.boot_set (PyProof.Rows.callWith_type1 (PyProof.Rows.args_cons (thn (ha.run pins s σ H _ I h) fun v s1 ⟨x, H1, I1, r1, q1⟩ => PyProof.Rows.args_nil ?_) na) na rfl))
  obtain ⟨l, ps, rfl, hq, hk, hf, q1⟩ := q1
  cases r1
  obtain ⟨its, rv, ⟨⟨cls, od, data, sl⟩, ho, hcl, n, hd⟩, hz⟩ := I1.tuple hq
  simp only at hcl hd
  subst hcl hd
  have hit : its = ps.map fun p => Value.ref p.1 := refs_of_vals rv
  have hh : X.A.handled = Option.none := I1.ok.hd hc
  have hlS : l < s1.heap.objs.size := Heap.lt_size ho
  have hz1 : (s1.heap.push (newSet X.w)).objs.size = s1.heap.objs.size + 1 := Heap.size_push ..
  have hS : (s1.heap.push (newSet X.w)).get? s1.heap.objs.size = some (newSet X.w) := Heap.get?_push_size _ rfl
  have hsz : its.toArray.size = ps.length := by rw [List.size_toArray, hit, List.length_map]
  refine set_of (P := X.prog) (w := X.w) (Fin := fun h => ∃ L es ep t, SetTR X.prog X.w h s1.heap.objs.size L es ep t ∧ Got ps ps.length L) ho sub_tuple_set sub_tuple_frozenset (by decide) (fun A' E' s2 Q' h1 h2 => wpAny_pyIter_tuple ⟨_, h1, rfl, _, rfl⟩ h2) (fun R hR => ?_) fun h' tk ⟨L, es, ep, t, hT, gt⟩ hk' => ?_
  · have Wk := (Walks.tuple (prog := X.prog) (w := X.w) (A := X.A.in1.in1.in1) (by simp [hh]) (s1.heap.push (newSet X.w)).objs.size l (Nat.ne_of_lt (by rw [hz1]; exact Nat.lt_succ_of_lt hlS)) its.toArray).toS
    refine set_update_tups Wk s1.heap.objs.size ?_ ps hsz hf (fun i v hv => ?_) s1.heap (fun p hp => I1.isT (hk p hp)) (heap_none (Nat.le_refl _)) (fun b hb => ?_) (by show X.A.units + 1 + 1 + 1 < cLine; omega) (its.toArray.size - 0) 0 _ (by omega) (Nat.zero_le _)
      ⟨⟨_, Heap.get?_push_size _ rfl, rfl, rfl⟩, ⟨_, Heap.get?_push_of_some _ (Heap.get?_push_of_some _ ho), rfl, _, rfl⟩⟩ (fun b o e => Heap.get?_push_of_some _ (Heap.get?_push_of_some _ e)) ⟨[], #[], 0, _, setTR_fresh (Heap.get?_push_of_some _ hS), Got.zero ps⟩ ?_
    · simp only [List.mem_cons, List.not_mem_nil, or_false, not_or]
      exact ⟨Nat.ne_of_lt (by rw [hz1]; exact Nat.lt_succ_self _), Nat.ne_of_gt hlS⟩
    · have q : its[i]? = some v := by simpa using hv
      rw [hit, List.getElem?_map] at q
      obtain ⟨p, e1, e2⟩ := Option.map_eq_some_iff.mp q
      exact ⟨p, e1, e2.symm⟩
    · rw [List.mem_singleton.mp hb]
      exact heap_none (by rw [hz1]; exact Nat.le_succ _)
    · rintro ⟨h', g2, d', tk', os'⟩ L es ep t hm' hT gt hkp
      have eg : g2 = s1.gens := hm'.gens
      have ed : d' = s1.drawn := hm'.drawn
      have eo : os' = s1.os := hm'.os
      subst eg ed eo
      rw [hsz] at gt
      exact hR h' tk' ⟨L, es, ep, t, hT, gt⟩ hkp
  · obtain ⟨o, ho', hex, hd'⟩ := hT.ob
    have I2 : Inv X pins σ H1 { s1 with heap := h', toks := tk } := I1.kept fun b o e => hk' b o e
    have hlen : es.size = (dd (ps.map (·.2))).length := by
      rw [SetTR.size (s := { s1 with heap := h', toks := tk }) hT, ← List.length_map (f := (·.2)) (as := L)]
      refine nodup_len hT.nd (nodup_dd _) fun k => ?_
      rw [mem_dd]
      constructor
      · intro hk2
        obtain ⟨p, hp, rfl⟩ := List.mem_map.mp hk2
        exact List.mem_map_of_mem (List.mem_of_mem_take (gt.sub p hp))
      · intro hk2
        obtain ⟨p, hp, rfl⟩ := List.mem_map.mp hk2
        exact gt.all p (by rw [List.take_length]; exact hp)
    have hle : es.size ≤ 64 := by rw [SetTR.size (s := { s1 with heap := h', toks := tk }) hT]; have := hT.few; omega
    refine PyProof.Rows.args_nil (call_len_set (s := { s1 with heap := h', toks := tk }) ho' hex hd' (SetTR.fits (s := { s1 with heap := h', toks := tk }) hT) (by omega) ⟨.int _, H1, I2.tok _, ⟨_, by rw [hlen]⟩, q1⟩)
theorem s_lenSet (ok : Ok g X) (ha : Snd g E H0 X b1 e m) (hg : Gl X "len" := by rfl) (hg2 : Gl X "set" := by rfl) (na : starEach [e] X.env = (false, eval e X.env) :: starEach [] X.env := by rfl) :
    Snd g E H0 X false (.Call (.Name "len" p) [.Call (.Name "set" p2) [e] [] q] [] pos) (m1 fLenSet m) := by
  refine weak (pe_ls (by have := ok.un; omega) ok.calm hg (nbs ok) hg2 (nbs ok) ha na) ?_
  rintro σ H Q ⟨w, σI, B, s, p⟩
  refine tI_bind s p fun d B1 w1 v H1 x1 s1 r1 p1 => ?_
  unfold fLenSet at p1
  split at p1
  · rename_i ds
    split at p1
    · rename_i ks hks
      split at p1
      · rename_i hl
        obtain ⟨a, vs, rfl, q1, r⟩ := r1.up.tup s1
        obtain ⟨ps, rfl, rfl, h3⟩ := Reps.tups r hks
        exact ⟨a, ps, rfl, ok.K ▸ q1, fun p hp => ok.K ▸ sqT_mono s1.rb.sub (h3 p hp), by simpa using hl, p1.nowR s1 (rep_int g w1 _)⟩
      · exact p1.elim
    · exact p1.elim
  · exact p1.elim
end
end Hf

set_option Elab.async false
set_option linter.all false
set_option maxRecDepth 100000
set_option maxHeartbeats 4000000
namespace Hf
open PySem PySem.Spec PyProof.Rows L2

/-! ### a < b < c as a test -/
section
variable {g : Gs} {E : XK} {H0 : Hp} {X : Cx} {a b c : Expr} {ma mb mc : Ev} {pos : Pos} {b1 b2 b3 bo : Bool} {op op' : CmpOp} {f f' : D → D → Bs → Rs D}
theorem chainT_at (P : Cmp g E H0 X op f) {w : Wd} {H : Hp} {σI : Sl} {σ : L2.St} {B : Bs} {Q : Bool → Hp → Prop} {x y : D} {k : Bool → Bs → Rs Bool} (p : PostT g E w H Q ((toB (f x y B)).bind k)) :
    PostE g E w H σI σ false (fun z H' => ∃ b w' B', z = .bl b ∧ Ext w H w' H' ∧ RB g w' B' H' ∧ PostT g E w' H' Q (k b B')) (f x y B) := by
  rcases P.bl x y B with e | ⟨b, B', e⟩
  · rw [e] at p; exact p.elim
  · rw [e] at p ⊢
    intro w' v H' x rb r
    simp only [RepB, Rep] at r
    exact ⟨b, w', B', r, x, rb, PostT.ext x p⟩
theorem t_chain (P : Cmp g E H0 X op f) (P' : Cmp g E H0 X op' f') (ha : Snd g E H0 X b1 a ma) (hb : Snd g E H0 X b2 b mb) (hc : Snd g E H0 X b3 c mc) (hm : lastMarks [op, op'] [b, c] = false := by with_unfolding_all rfl) :
    SndT g E H0 X (.Compare a [op, op'] [b, c] pos) (mChainT f f' ma mb mc) := by
  obtain ⟨r, h1, h2⟩ := id P.ex
  obtain ⟨r', h1', h2'⟩ := id P'.ex
  refine weakT (pt_chain h1 h1' ha hb hc hm) ?_
  rintro σ H Q ⟨w, σI, B, s, p⟩
  refine tI_bindT s p fun d B1 w1 v H1 x1 s1 r1 p1 => ?_
  refine tI_bindT s1 p1 fun d2 B2 w2 v2 H2 x2 s2 r2 p2 => ?_
  refine h2 w2 σI B2 σ H2 _ v v2 d d2 s2 (r1.up.mono x2.le) r2.up ?_
  have p3 := chainT_at (σI := σI) (σ := σ) P p2
  revert p3
  generalize hm : f d d2 B2 = m
  intro p3
  cases m with
  | bad => exact p3
  | exc _ _ _ => exact p3
  | ok e B3 =>
    intro w' v' H' x rb rr
    obtain ⟨k, w3, B4, rfl, x3, rb3, p4⟩ := p3 w' v' H' x rb rr
    refine ⟨k, rfl, ?_⟩
    have s3 := s2.step x3 rb3
    cases k with
    | false => exact ⟨false, rfl, p4 w3 H' (Ext.refl _ _) rb3⟩
    | true =>
      refine tI_bindT s3 p4 fun d5 B5 w5 v5 H5 x5 s5 r5 p5 => ?_
      exact h2' w5 σI B5 σ H5 _ v2 v5 d2 d5 s5 (r2.up.mono (x3.le.trans x5.le)) r5.up (cmp_end P' p5)
end

/-! ### all, any, sum, max, min of a list -/
def boolA : D → Option Bool
  | .bool i => some i
  | _ => Option.none
def boolsA : List D → Option (List Bool)
  | [] => some []
  | d :: ds => match boolA d, boolsA ds with
    | some k, some ks => some (k :: ks)
    | _, _ => Option.none
theorem boolsA_map {ds : List D} {ns : List Bool} (h : boolsA ds = some ns) : ds = ns.map D.bool := by
  induction ds generalizing ns with
  | nil => cases h; rfl
  | cons d ds ih =>
    unfold boolsA at h
    split at h
    · rename_i k ks e1 e2
      cases h
      rw [ih e2]
      cases d <;> simp [boolA] at e1
      subst e1; rfl
    · cases h
theorem boolsA_of (ns : List Bool) : boolsA (ns.map D.bool) = some ns := by
  induction ns with
  | nil => rfl
  | cons n ns ih => simp [boolsA, boolA, ih]
theorem intsA_of (ns : List Int) : intsA (ns.map D.int) = some ns := by
  induction ns with
  | nil => rfl
  | cons n ns ih => simp [intsA, intA, ih]
theorem Reps.bools {g : Gs} {w : Wd} : ∀ {ns : List Bool} {vs : List V}, Reps g w (ns.map D.bool) vs → vs = ns.map V.bl
  | [], vs, h => by simpa only [List.map_nil, Reps] using h
  | n :: ns, vs, h => by
    simp only [List.map_cons, Reps, Rep] at h
    obtain ⟨v, us, rfl, rfl, r⟩ := h
    rw [Reps.bools r]; rfl
def strA : D → Option Str
  | .str i => some i
  | _ => Option.none
def strsA : List D → Option (List Str)
  | [] => some []
  | d :: ds => match strA d, strsA ds with
    | some k, some ks => some (k :: ks)
    | _, _ => Option.none
theorem strsA_map {ds : List D} {ns : List Str} (h : strsA ds = some ns) : ds = ns.map D.str := by
  induction ds generalizing ns with
  | nil => cases h; rfl
  | cons d ds ih =>
    unfold strsA at h
    split at h
    · rename_i k ks e1 e2
      cases h
      rw [ih e2]
      cases d <;> simp [strA] at e1
      subst e1; rfl
    · cases h
theorem strsA_of (ns : List Str) : strsA (ns.map D.str) = some ns := by
  induction ns with
  | nil => rfl
  | cons n ns ih => simp [strsA, strA, ih]
theorem Reps.strs {g : Gs} {w : Wd} : ∀ {ns : List Str} {vs : List V}, Reps g w (ns.map D.str) vs → vs = ns.map V.str
  | [], vs, h => by simpa only [List.map_nil, Reps] using h
  | n :: ns, vs, h => by
    simp only [List.map_cons, Reps, Rep] at h
    obtain ⟨v, us, rfl, rfl, r⟩ := h
    rw [Reps.strs r]; rfl
theorem reps_strs (g : Gs) (w : Wd) : ∀ ns : List Str, Reps g w (ns.map D.str) (ns.map V.str)
  | [] => by simp only [List.map_nil, Reps]
  | n :: ns => by
    simp only [List.map_cons, Reps, Rep]
    exact ⟨_, _, rfl, rfl, reps_strs g w ns⟩
def fAll : D → Bs → Rs D
  | .lst ds, B => match boolsA ds with
    | some bs => .ok (.bool (bs.all id)) B
    | Option.none => .bad
  | _, _ => .bad
def fAny : D → Bs → Rs D
  | .lst ds, B => match boolsA ds with
    | some bs => .ok (.bool (bs.any id)) B
    | Option.none => .bad
  | _, _ => .bad
def fSum : D → Bs → Rs D
  | .lst ds, B => match intsA ds with
    | some bs => .ok (.int bs.sum) B
    | Option.none => .bad
  | _, _ => .bad
def maxL : List Int → Int
  | [] => 0
  | [x] => x
  | x :: y :: r => if x ≤ maxL (y :: r) then maxL (y :: r) else x
def minL : List Int → Int
  | [] => 0
  | [x] => x
  | x :: y :: r => if minL (y :: r) ≤ x then minL (y :: r) else x
theorem maxL_ge : ∀ {l : List Int} {y : Int}, y ∈ l → y ≤ maxL l
  | [x], y, h => by simp at h; subst h; exact Int.le_refl _
  | x :: z :: r, y, h => by
    unfold maxL
    rcases List.mem_cons.mp h with rfl | h
    · split
      · assumption
      · exact Int.le_refl _
    · have := maxL_ge h
      split <;> omega
theorem minL_le : ∀ {l : List Int} {y : Int}, y ∈ l → minL l ≤ y
  | [x], y, h => by simp at h; subst h; exact Int.le_refl _
  | x :: z :: r, y, h => by
    unfold minL
    rcases List.mem_cons.mp h with rfl | h
    · split
      · assumption
      · exact Int.le_refl _
    · have := minL_le h
      split <;> omega
theorem maxL_mem : ∀ {l : List Int}, l ≠ [] → maxL l ∈ l
  | [x], _ => by simp [maxL]
  | x :: y :: r, _ => by
    unfold maxL
    split
    · exact List.mem_cons_of_mem _ (maxL_mem (by simp))
    · exact List.mem_cons_self
theorem minL_mem : ∀ {l : List Int}, l ≠ [] → minL l ∈ l
  | [x], _ => by simp [minL]
  | x :: y :: r, _ => by
    unfold minL
    split
    · exact List.mem_cons_of_mem _ (minL_mem (by simp))
    · exact List.mem_cons_self
def fMax1 : D → Bs → Rs D
  | .lst ds, B => match intsA ds with
    | some (b :: bs) => .ok (.int (maxL (b :: bs))) B
    | _ => .bad
  | _, _ => .bad
def fMin1 : D → Bs → Rs D
  | .lst ds, B => match intsA ds with
    | some (b :: bs) => .ok (.int (minL (b :: bs))) B
    | _ => .bad
  | _, _ => .bad
section
variable {g : Gs} {E : XK} {H0 : Hp} {X : Cx}
theorem o_all (c : Ok g X) : One g E H0 X (.builtin "all") fAll := ⟨_, cr_all c.calm, fun w σI B σ H Q x d s r p => by
  unfold fAll at p
  split at p
  · split at p
    · rename_i bs hb
      rw [boolsA_map hb] at r
      obtain ⟨a, vs, rfl, q, r⟩ := r.lst s
      rw [r.bools] at q
      exact ⟨a, bs, rfl, .inl (.inl q), p.nowR s (rep_bool g w _)⟩
    · exact p.elim
  · exact p.elim⟩
theorem o_any (c : Ok g X) : One g E H0 X (.builtin "any") fAny := ⟨_, cr_any c.calm, fun w σI B σ H Q x d s r p => by
  unfold fAny at p
  split at p
  · split at p
    · rename_i bs hb
      rw [boolsA_map hb] at r
      obtain ⟨a, vs, rfl, q, r⟩ := r.lst s
      rw [r.bools] at q
      exact ⟨a, bs, rfl, .inl (.inl q), p.nowR s (rep_bool g w _)⟩
    · exact p.elim
  · exact p.elim⟩
theorem o_sum (c : Ok g X) : One g E H0 X (.builtin "sum") fSum := ⟨_, cr_sum c.calm, fun w σI B σ H Q x d s r p => by
  unfold fSum at p
  split at p
  · split at p
    · rename_i bs hb
      rw [intsA_map hb] at r
      obtain ⟨a, vs, rfl, q, r⟩ := r.lst s
      rw [r.ints] at q
      exact ⟨a, bs, rfl, .inl (.inl q), p.nowR s (rep_int g w _)⟩
    · exact p.elim
  · exact p.elim⟩
theorem o_max1 (c : Ok g X) : One g E H0 X (.builtin "max") fMax1 := ⟨_, cr_max c.calm, fun w σI B σ H Q x d s r p => by
  unfold fMax1 at p
  split at p
  · split at p
    · rename_i b bs hb
      rw [intsA_map hb] at r
      obtain ⟨a, vs, rfl, q, r⟩ := r.lst s
      rw [r.ints] at q
      refine ⟨a, b :: bs, rfl, .inl (.inl q), by simp, fun m h1 h2 => ?_⟩
      have e : m = maxL (b :: bs) := Int.le_antisymm (maxL_ge h1) (h2 _ (maxL_mem (by simp)))
      rw [e]
      exact p.nowR s (rep_int g w _)
    · exact p.elim
  · exact p.elim⟩
theorem o_min1 (c : Ok g X) : One g E H0 X (.builtin "min") fMin1 := ⟨_, cr_min c.calm, fun w σI B σ H Q x d s r p => by
  unfold fMin1 at p
  split at p
  · split at p
    · rename_i b bs hb
      rw [intsA_map hb] at r
      obtain ⟨a, vs, rfl, q, r⟩ := r.lst s
      rw [r.ints] at q
      refine ⟨a, b :: bs, rfl, .inl (.inl q), by simp, fun m h1 h2 => ?_⟩
      have e : m = minL (b :: bs) := Int.le_antisymm (h2 _ (minL_mem (by simp))) (minL_le h1)
      rw [e]
      exact p.nowR s (rep_int g w _)
    · exact p.elim
  · exact p.elim⟩
end

/-! ### sorted(a list or a tuple of whole numbers) -/
def ins (x : Int) : List Int → List Int
  | [] => [x]
  | y :: r => if x ≤ y then x :: y :: r else y :: ins x r
def srt : List Int → List Int
  | [] => []
  | x :: r => ins x (srt r)
theorem ins_perm (x : Int) : ∀ l : List Int, (ins x l).Perm (x :: l)
  | [] => .refl _
  | y :: r => by
    unfold ins
    split
    · exact .refl _
    · exact ((ins_perm x r).cons y).trans (.swap ..)
theorem srt_perm : ∀ l : List Int, (srt l).Perm l
  | [] => .refl _
  | x :: r => (ins_perm x (srt r)).trans ((srt_perm r).cons x)
theorem ins_sorted (x : Int) : ∀ {l : List Int}, l.Pairwise (· ≤ ·) → (ins x l).Pairwise (· ≤ ·)
  | [], _ => List.pairwise_singleton _ _
  | y :: r, h => by
    unfold ins
    obtain ⟨h1, h2⟩ := List.pairwise_cons.mp h
    split
    · rename_i hx
      exact List.pairwise_cons.mpr ⟨fun z hz => by
        rcases List.mem_cons.mp hz with rfl | hz
        · exact hx
        · exact Int.le_trans hx (h1 z hz), h⟩
    · rename_i hx
      refine List.pairwise_cons.mpr ⟨fun z hz => ?_, ins_sorted x h2⟩
      rcases List.mem_cons.mp ((ins_perm x r).mem_iff.mp hz) with rfl | hz
      · omega
      · exact h1 z hz
theorem srt_sorted : ∀ l : List Int, (srt l).Pairwise (· ≤ ·)
  | [] => List.Pairwise.nil
  | x :: r => ins_sorted x (srt_sorted r)
theorem sorted_uniq : ∀ {l m : List Int}, l.Perm m → l.Pairwise (· ≤ ·) → m.Pairwise (· ≤ ·) → l = m
  | [], m, h, _, _ => (List.Perm.nil_eq h)
  | x :: l, [], h, _, _ => by simpa using h.length_eq
  | x :: l, y :: m, h, h1, h2 => by
    obtain ⟨a1, a2⟩ := List.pairwise_cons.mp h1
    obtain ⟨b1, b2⟩ := List.pairwise_cons.mp h2
    have e : x = y := by
      have i1 : y ∈ x :: l := h.mem_iff.mpr List.mem_cons_self
      have i2 : x ∈ y :: m := h.mem_iff.mp List.mem_cons_self
      rcases List.mem_cons.mp i1 with e | i1
      · exact e.symm
      · rcases List.mem_cons.mp i2 with e | i2
        · exact e
        · exact Int.le_antisymm (a1 y i1) (b1 x i2)
    subst e
    rw [sorted_uniq (h.cons_inv) a2 b2]
theorem srt_uniq {l m : List Int} (h : l.Perm m) (s : l.Pairwise (· ≤ ·)) : l = srt m := sorted_uniq (h.trans (srt_perm m).symm) s (srt_sorted m)
section
variable {prog : Program} {w : World} {A : Around} {E : Value → Shared → Prop} {s : Shared}
theorem sorted_any {it : Addr} {T : String} {o : Obj} {vs : List Value} {n : Nat} {ltv : Value → Value → Bool} {Q : Value → Shared → Prop} (O : SrtO.Swo ltv) (hT : T = "list" ∨ T = "tuple") (ho : s.heap.get? it = some o) (hc : o.cls = .type T) (hd : o.data = .seq vs.toArray n)
    (hz : vs.length ≤ sizeLine) (hS : 2 ≤ vs.length → ∀ (h₁ : Heap) (a : Addr), h₁.get? a = some (seqObj "list" vs.toArray 0) → (∀ b o, s.heap.get? b = some o → b ≠ a ∧ h₁.get? b = some o) → SrtO.SortableO prog w A.in1.in1 { s with heap := h₁ } a vs ltv)
    (h : ∀ (out : List Value) (h1 h' : Heap), SrtO.Srtd ltv out → SrtO.Stb ltv out vs → (∀ b o, s.heap.get? b = some o → h1.get? b = some o) → (∀ b o, h1.get? b = some o → h'.get? b = some o) → (∃ ep, h'.get? h1.objs.size = some (seqObj "list" out.toArray ep)) → Q (.ref h1.objs.size) { s with heap := h' }) :
    wpAny (model prog w) A (call (.builtin "sorted") [.ref it]) Q E s := by
  refine Calls.call_function_entry kind_sorted plain_sorted entry_sorted (args_sorted1 _) ?_
  unfold Builtin.«sorted»
  refine wpAny_bind (m := checkCount "sorted" 1 1 _) (wpAny_pure ?_)
  refine wpAny_bind (wpAny_collect_seq it hT ho hc hd (fun h1 hk => ?_) (by simpa using hz))
  rw [show vs.toArray.toList = vs by simp]
  refine wpAny_bind (wpAny_newList ?_ hz)
  have keep : ∀ b o, s.heap.get? b = some o → b ≠ h1.objs.size ∧ (h1.push (seqObj "list" vs.toArray 0)).get? b = some o := fun b o q =>
    ⟨Nat.ne_of_lt (Heap.lt_size (hk b o q)), Heap.get?_push_of_some _ (hk b o q)⟩
  have hoL : (h1.push (seqObj "list" vs.toArray 0)).get? h1.objs.size = some (seqObj "list" vs.toArray 0) := Heap.get?_push_size _ rfl
  refine wpAny_bind (wpAny_holding (wpAny_call_entry slot_list_sort ⟨_, hoL, rfl⟩ entry_list_sort (SrtO.list_sort_ord O hoL hz (fun h2 => hS h2 _ _ hoL keep) fun out hs hb => ⟨_, rfl, ?_⟩) (args_list_sort _)))
  obtain ⟨ep, he⟩ := PyProof.Rows.sortedHeap_at (vs := vs) (out := out.toArray) hoL
  have old : ∀ b o, h1.get? b = some o → (PyProof.Rows.sortedHeap (h1.push (seqObj "list" vs.toArray 0)) h1.objs.size vs out.toArray).get? b = some o := fun b o q => by
    have q2 := Heap.get?_push_of_some (seqObj "list" vs.toArray 0) q
    rw [PyProof.Rows.sortedHeap_old (Nat.ne_of_lt (Heap.lt_size q)) (Heap.lt_size q2)]; exact q2
  exact wpAny_pure ⟨_, rfl, h out h1 _ hs hb hk old ⟨ep, he⟩⟩
end
section
variable {g : Gs} {E : XK} {H0 : Hp} {X : Cx}
def rSrt (K : PySem.W.Frag) : List V → Hp → VK → Prop := fun vs H Q => ∃ (a : Addr) (ns : List Int), vs = [V.ref a] ∧ (SqL K H a (ns.map V.int) ∨ SqT K H a (ns.map V.int)) ∧ ∀ p, H p = none → Q (.ref p) (upd H p (.lst ((srt ns).map V.int)))
theorem cr_srt : CallR X (.builtin "sorted") (rSrt X.K) := by
  intro pins s σ H vs us Q I r h
  obtain ⟨a, ns, rfl, hs, q⟩ := h
  rw [Vals.ref1 r]
  have key : ∃ (T : String) (o : Obj) (its : List Value) (n : Nat), (T = "list" ∨ T = "tuple") ∧ s.heap.get? a = some o ∧ o.cls = .type T ∧ o.data = .seq its.toArray n ∧ Vals (ns.map V.int) its ∧ (ns.map V.int).length ≤ sizeLine := by
    rcases hs with hs | hs
    · obtain ⟨its, rv, p, hz⟩ := I.list hs
      obtain ⟨o, ho, hc, n, hd⟩ := p.isList
      exact ⟨"list", o, its, n, .inl rfl, ho, hc, hd, rv, hz⟩
    · obtain ⟨its, rv, ⟨o, ho, hc, n, hd⟩, hz⟩ := I.tuple hs
      exact ⟨"tuple", o, its, n, .inr rfl, ho, hc, hd, rv, hz⟩
  obtain ⟨T, o, its, n, hT, ho, hc, hd, rv, hz⟩ := key
  have hi := rv.ints
  refine sorted_any SrtO.swo_int hT ho hc hd (by rw [← rv.length]; exact hz) (fun h2 h₁ a' _ _ => SrtO.ints_sortable hi h2) fun out h1 h' k1 k2 keep old he => ?_
  obtain ⟨j1, j2, j3⟩ := SrtO.ints_out hi k1 k2
  obtain ⟨ep, he⟩ := he
  have I1 : Inv X pins σ H { s with heap := h1 } := I.kept (t' := s.toks) keep
  have e : out.map SrtO.iv = srt ns := srt_uniq j2 j3
  have hlen : ((srt ns).map V.int).length ≤ sizeLine := by
    rw [List.length_map, (srt_perm ns).length_eq]
    rw [List.length_map] at hz
    exact hz
  exact ⟨.ref _, upd H h1.objs.size (.lst ((srt ns).map V.int)), I1.laid (t' := s.toks) old (Nat.le_refl _) ⟨hlen, out, ep, by rw [← e]; exact vals_of_ints j1, he⟩, rfl, q _ (I1.hok.fresh (Nat.le_refl _))⟩
def fSrt : D → Bs → Rs D
  | .lst ds, B => match intsA ds with
    | some ns => .ok (.lst ((srt ns).map D.int)) B
    | Option.none => .bad
  | .tup ds, B => match intsA ds with
    | some ns => .ok (.lst ((srt ns).map D.int)) B
    | Option.none => .bad
  | _, _ => .bad
theorem o_sorted (c : Ok g X) : OneF g E H0 X (.builtin "sorted") fSrt := ⟨_, cr_srt, fun w σI B σ H Q x d s r p => by
  unfold fSrt at p
  split at p
  · split at p
    · rename_i ns hn
      rw [intsA_map hn] at r
      obtain ⟨a, vs, rfl, q, r⟩ := r.lst s
      rw [r.ints] at q
      exact ⟨a, ns, rfl, .inl (.inl (.inl q)), fun l hl => p.newL s (reps_ints g w _) hl⟩
    · exact p.elim
  · split at p
    · rename_i ns hn
      rw [intsA_map hn] at r
      obtain ⟨a, vs, rfl, q, r⟩ := r.tup s
      rw [r.ints] at q
      exact ⟨a, ns, rfl, .inr (c.K ▸ q), fun l hl => p.newL s (reps_ints g w _) hl⟩
    · exact p.elim
  · exact p.elim⟩
end
end Hf

set_option Elab.async false
set_option linter.all false
set_option maxRecDepth 100000
set_option maxHeartbeats 4000000
namespace Hf
open PySem PySem.Spec PyProof.Rows L2 HT

/-! ### texts: join, split, a constant tuple's index -/
def strsOf : D → Option (List Str)
  | .lst ds => strsA ds
  | .tup ds => strsA ds
  | _ => Option.none
def fJoin : D → D → Bs → Rs D
  | .str a, d, B => match strsOf d with
    | some ys => if (ys.map (·.length)).sum + ys.length * a.length ≤ 16777216 then .ok (.str (Txt.join a ys)) B else .bad
    | Option.none => .bad
  | _, _, _ => .bad
def fSplit : D → D → Bs → Rs D
  | .str a, .str b, B => if (b.length == 0) = false ∧ a.length + 2 ≤ sizeLine then .ok (.lst ((Txt.split a b).map D.str)) B else .bad
  | _, _, _ => .bad
def isS (d : D) (B : Bs) : Rs D := match d with
  | .str _ => .ok d B
  | _ => .bad
def mMeth (f : D → D → Bs → Rs D) (mo me : Ev) : Ev := fun σ B => (mo σ B).bind fun o B1 => (isS o B1).bind fun o B2 => (me σ B2).bind fun d B3 => f o d B3
def ixS (z : Str) : List Str → Option Nat
  | [] => Option.none
  | y :: r => if y = z then some 0 else (ixS z r).map (· + 1)
theorem ixS_some {z : Str} : ∀ {l : List Str} {j : Nat}, ixS z l = some j → l[j]? = some z ∧ ∀ m, m < j → l[m]? ≠ some z
  | y :: r, j, h => by
    unfold ixS at h
    split at h
    · rename_i e
      cases h
      exact ⟨by simp [e], fun m hm => absurd hm (Nat.not_lt_zero _)⟩
    · rename_i e
      obtain ⟨i, h1, rfl⟩ := Option.map_eq_some_iff.mp h
      obtain ⟨a, b⟩ := ixS_some h1
      refine ⟨by simpa using a, fun m hm => ?_⟩
      cases m with
      | zero => simpa using e
      | succ m => simpa using b m (by omega)
def fIxS (ys : List Str) : D → Bs → Rs D
  | .str z, B => match ixS z ys with
    | some j => .ok (.int (j : Nat)) B
    | Option.none => .bad
  | _, _ => .bad
/-- a constant tuple of texts of the module -/
def GlobT (g : Gs) (x : Str) (ys : List Str) : Prop := ∃ a, g.mg x = some (.ref a) ∧ (∃ o, g.K.lookup a = some o ∧ o.cls = .type "tuple" ∧ o.dict = none) ∧ ∀ w, Rep g w (.tup (ys.map D.str)) (.ref a)
section
variable {g : Gs} {E : XK} {w0 w : Wd} {H0 H : Hp} {X : Cx} {o e a b : Expr} {mo me m ma mb : Ev} {pos p p1 p2 p3 apos cpos : Pos} {x : Str} {σI : Sl} {σ : L2.St} {B : Bs} {Q : VK} {b1 b2 bo : Bool}
theorem isS_go {d : D} {f : D → Bs → Rs D} (s : S0 g H0 w σI B σ H) {v : V} (r : RepO g w σI σ d v) (p : PostE g E w H σI σ bo Q ((isS d B).bind f)) : ∃ z, d = .str z ∧ v = .str z ∧ PostE g E w H σI σ bo Q (f (.str z) B) := by
  cases d <;> first | exact p.elim | skip
  exact ⟨_, rfl, r.str s, p⟩
theorem s_join (ok : Ok g X) (ho : Snd g E H0 X b1 o mo) (he : Snd g E H0 X b2 e me) (hs : starEach [e] X.env = [(false, eval e X.env)] := by rfl) (hbase : attributeBase o "join" X.env (eval o X.env) = eval o X.env := by rfl) (hline : (apos.endLine == pos.line) = true := by rfl) :
    Snd g E H0 X false (.Call (.Attribute o "join" apos) [e] [] pos) (mMeth fJoin mo me) := by
  refine weak (pe_join ho he hs hbase hline) ?_
  rintro σ H Q ⟨w, σI, B, s, p⟩
  refine tI_bind s p fun d B1 w1 v H1 x1 s1 r1 p1 => ?_
  obtain ⟨z, rfl, rfl, p1⟩ := isS_go s1 r1.up p1
  refine ⟨⟨z, rfl⟩, tI_bind s1 p1 fun d2 B2 w2 v2 H2 x2 s2 r2 p2 => ?_⟩
  unfold fJoin at p2
  simp only at p2
  split at p2
  · rename_i ys hy
    split at p2
    · rename_i hz
      cases d2 <;> simp only [strsOf, reduceCtorEq] at hy
      · have r2 := r2.up
        rw [strsA_map hy] at r2
        obtain ⟨a, vs, rfl, q, r⟩ := r2.tup s2
        rw [r.strs] at q
        exact ⟨z, a, ys, rfl, rfl, .inr (ok.K ▸ q), hz, p2.nowR s2 (rep_str g w2 _)⟩
      · have r2 := r2.up
        rw [strsA_map hy] at r2
        obtain ⟨a, vs, rfl, q, r⟩ := r2.lst s2
        rw [r.strs] at q
        exact ⟨z, a, ys, rfl, rfl, .inl (.inl (.inl q)), hz, p2.nowR s2 (rep_str g w2 _)⟩
    · exact p2.elim
  · exact p2.elim
theorem f_split (ho : Snd g E H0 X b1 o mo) (he : Snd g E H0 X b2 e me) (hs : starEach [e] X.env = [(false, eval e X.env)] := by rfl) (hbase : attributeBase o "split" X.env (eval o X.env) = eval o X.env := by rfl) (hline : (apos.endLine == pos.line) = true := by rfl) :
    Snd g E H0 X false (.Call (.Attribute o "split" apos) [e] [] pos) (mMeth fSplit mo me) := by
  refine weak (pe_split ho he hs hbase hline) ?_
  rintro σ H Q ⟨w, σI, B, s, p⟩
  refine tI_bind s p fun d B1 w1 v H1 x1 s1 r1 p1 => ?_
  obtain ⟨z, rfl, rfl, p1⟩ := isS_go s1 r1.up p1
  refine ⟨⟨z, rfl⟩, tI_bind s1 p1 fun d2 B2 w2 v2 H2 x2 s2 r2 p2 => ?_⟩
  unfold fSplit at p2
  split at p2
  · rename_i z' y e1
    cases e1
    split at p2
    · rename_i hz
      exact ⟨z, y, rfl, by rw [r2.up.str s2], hz.1, hz.2, fun l hl => p2.newL s2 (reps_strs g w2 _) hl⟩
    · exact p2.elim
  · exact p2.elim
theorem s_gIx {ys : List Str} (ok : Ok g X) (G : GlobT g x ys) (he : Snd g E H0 X b1 e me) (hg : Gl X x := by rfl) (hd : (x == ("__debug__" : Str)) = false := by decide)
    (hbase : attributeBase (.Name x p1) "index" X.env (eval (.Name x p1) X.env) = eval (.Name x p1) X.env := by rfl)
    (hfew : ((backTo cpos (starEach [e] X.env)).all (fun x => !x.1) && (backToKw cpos (keywordEach [] X.env)).all (fun x => x.1.isSome) && decide ([e].length + ([] : List Keyword).length + (if ([] : List Keyword).isEmpty then 0 else 1) < 30)) = true := by rfl)
    (hline : (apos.endLine == cpos.line) = true := by rfl) (hs : starEach [e] X.env = (false, eval e X.env) :: starEach [] X.env := by rfl) (hpl : (backTo cpos (starEach [] X.env)).any (·.1) = false := by rfl) :
    Snd g E H0 X false (.Call (.Attribute (.Name x p1) "index" apos) [e] [] cpos) (m1 (fIxS ys) me) := by
  obtain ⟨a, hm, ⟨ob, hk, hc, hdd⟩, hr⟩ := G
  refine weak (pe_bm PySem.F.plainAttrs_tuple PySem.F.slot_tuple_index PySem.F.type_tuple_index mt_tup_index (pe_glob (v := .ref a) hg (by rw [ok.mg]; exact hm) rfl hd) (pa_cons he pa_nil hs) hbase hfew hline hs hpl) ?_
  rintro σ H Q ⟨w, σI, B, s, p⟩
  refine ⟨.inr (.inl ⟨rfl, ob, by rw [ok.K]; exact hk, hc, hdd⟩), tI_bind s p fun d B1 w1 v H1 x1 s1 r1 p1 => ?_⟩
  unfold fIxS at p1
  split at p1
  · rename_i z
    split at p1
    · rename_i j hj
      obtain ⟨h1, h2⟩ := ixS_some hj
      have r2 := hr w1
      simp only [Rep] at r2
      obtain ⟨a', vs, e1, q, r⟩ := r2
      cases e1
      rw [r.strs] at q
      exact ⟨a, ys, z, j, rfl, by rw [r1.up.str s1], ok.K ▸ sqT_mono s1.rb.sub q.T, h1, h2, p1.nowR s1 (rep_int g w1 _)⟩
    · exact p1.elim
  · exact p1.elim

/-! ### list(range(..)), tuple(range(..)) -/
theorem reps_rg (g : Gs) (w : Wd) (a : Int) (n : Nat) : Reps g w (rngD a n) ((List.range n).map fun i => V.int (a + (i : Nat))) := by
  have e1 : rngD a n = ((List.range n).map fun i => a + ((i : Nat) : Int)).map D.int := by simp [rngD]
  have e2 : ((List.range n).map fun i => V.int (a + (i : Nat))) = ((List.range n).map fun i => a + ((i : Nat) : Int)).map V.int := by simp
  rw [e1, e2]
  exact reps_ints g w _
def rgOk (a b : Int) : Bool := decide (-(2 ^ 62) ≤ a) && decide (a < 2 ^ 62) && decide (-(2 ^ 62) ≤ b) && decide (b < 2 ^ 62) && decide ((b - a).toNat ≤ 2 ^ 24)
theorem rgOk_ok {a b : Int} (h : rgOk a b = true) : RgOk a b := by
  unfold rgOk at h
  simp only [Bool.and_eq_true, decide_eq_true_eq] at h
  exact ⟨h.1.1.1.1, h.1.1.1.2, h.1.1.2, h.1.2, h.2⟩
def fRg1 (k : List D → D) : D → Bs → Rs D
  | .int b, B => if rgOk 0 b then .ok (k (rngD 0 (b - 0).toNat)) B else .bad
  | _, _ => .bad
def fRg2 (k : List D → D) : D → D → Bs → Rs D
  | .int a, .int b, B => if rgOk a b then .ok (k (rngD a (b - a).toNat)) B else .bad
  | _, _, _ => .bad
theorem f_lstRg1 (ok : Ok g X) (ha : Snd g E H0 X b1 a ma) (hg : Gl X "list" := by rfl) (hg2 : Gl X "range" := by rfl) (na : starEach [a] X.env = (false, eval a X.env) :: starEach [] X.env := by rfl)
    (nb : starEach [.Call (.Name "range" p2) [a] [] p3] X.env = (false, eval (.Call (.Name "range" p2) [a] [] p3) X.env) :: starEach [] X.env := by rfl) :
    SndF g E H0 X (.Call (.Name "list" p) [.Call (.Name "range" p2) [a] [] p3] [] pos) (m1 (fRg1 D.lst) ma) := by
  refine weak (pe_listRg ok.calm hg (nbs ok) (prg_1 hg2 (nbs ok) ha na) nb) ?_
  rintro σ H Q ⟨w, σI, B, s, p⟩
  refine tI_bindF s p fun d B1 w1 v H1 x1 s1 r1 p1 => ?_
  unfold fRg1 at p1
  split at p1
  · split at p1
    · rename_i b hb
      exact ⟨b, r1.up.int s1, rgOk_ok hb, fun q hq => p1.newL s1 (reps_rg g w1 0 (b - 0).toNat) hq⟩
    · exact p1.elim
  · exact p1.elim
/-- tuple(range(..)) -/
def tTupRgN (te : L2.St → Hp → (Int → Int → Hp → Prop) → Prop) : TE := fun σ H Q => te σ H fun a b H1 => RgOk a b ∧ ∀ p (ob : Obj), H1 p = none → ob.dict = none → Q (.ref p) (upd H1 p (.frz ob (.tup (rgV a b))))
theorem pe_tupRgN {te : L2.St → Hp → (Int → Int → Hp → Prop) → Prop} (hc : X.calm = true) (hg : Gl X "tuple") (hm : X.mg "tuple" = none) (he : PRg X e te) (na : starEach [e] X.env = (false, eval e X.env) :: starEach [] X.env := by rfl) : PE X (.Call (.Name "tuple" p) [e] [] pos) (tTupRgN te) := by
  refine ⟨fun pins s σ H Q I h => ?_⟩
  refine Call_ (ld_blt I hg hm boot_tuple (PyProof.Rows.callWith_type1 (args_cons (thn (he pins s σ H _ I h) fun x s1 ⟨r, i, j, t, u, v, H1, ex, hr, I1, ok, q⟩ => args_nil ?_) na) na))
  subst ex
  obtain ⟨c1, c2, c3, c4, c5⟩ := ok
  refine call_tuple_range (n := (j - i).toNat) (I1.ok.hd hc) hr (small_one c1 c2 c3 c4) (rangeSize_nat i j) c5 fun h1 tk acc hk hi => ?_
  have I2 : Inv X pins σ H1 { s1 with heap := h1, toks := tk } := I1.kept hk
  have hz : (rgV i j).length ≤ sizeLine := by rw [rgV_length, sizeLine_eq]; omega
  exact ⟨.ref h1.objs.size, upd H1 h1.objs.size _, I2.laid (t' := tk) (o := .frz { cls := .type "tuple", data := .seq acc.toList.toArray } (.tup (rgV i j))) (fun c oc qc => Heap.get?_push_of_some _ qc) (Nat.le_refl _)
    (frz_tup hz (vals_rg hi) (by rw [Array.toArray_toList]; exact Heap.get?_push_size _ rfl)), rfl, q _ _ (I2.hok.fresh (Nat.le_refl _)) rfl⟩
theorem s_tupRg1 (ok : Ok g X) (ha : Snd g E H0 X b1 a ma) (hg : Gl X "tuple" := by rfl) (hg2 : Gl X "range" := by rfl) (na : starEach [a] X.env = (false, eval a X.env) :: starEach [] X.env := by rfl)
    (nb : starEach [.Call (.Name "range" p2) [a] [] p3] X.env = (false, eval (.Call (.Name "range" p2) [a] [] p3) X.env) :: starEach [] X.env := by rfl) :
    Snd g E H0 X false (.Call (.Name "tuple" p) [.Call (.Name "range" p2) [a] [] p3] [] pos) (m1 (fRg1 D.tup) ma) := by
  refine weak (pe_tupRgN ok.calm hg (nbs ok) (prg_1 hg2 (nbs ok) ha na) nb) ?_
  rintro σ H Q ⟨w, σI, B, s, p⟩
  refine tI_bind s p fun d B1 w1 v H1 x1 s1 r1 p1 => ?_
  unfold fRg1 at p1
  split at p1
  · split at p1
    · rename_i b hb
      exact ⟨b, r1.up.int s1, rgOk_ok hb, fun q ob hq ho => p1.newT s1 (reps_rg g w1 0 (b - 0).toNat) hq ho⟩
    · exact p1.elim
  · exact p1.elim
end

/-! ### xs[::-1], t[:0:-1] -/
theorem pick_back (l : List Value) : ∀ k, k ≤ l.length → (List.range k).filterMap (fun m => l[l.length - 1 - m]?) = (l.drop (l.length - k)).reverse
  | 0, _ => by simp
  | k + 1, h => by
    rw [List.range_succ, List.filterMap_append, pick_back l k (by omega)]
    have hlt : l.length - (k + 1) < l.length := by omega
    have e : l.length - (k + 1) = l.length - 1 - k := by omega
    rw [List.drop_eq_getElem_cons hlt, List.reverse_cons]
    have e2 : l.length - (k + 1) + 1 = l.length - k := by omega
    rw [e2]
    congr 1
    simp only [List.filterMap_cons, List.filterMap_nil]
    rw [← e, List.getElem?_eq_getElem hlt]
theorem fm_congr {α β : Type} {f h : α → Option β} : ∀ {l : List α}, (∀ a ∈ l, f a = h a) → l.filterMap f = l.filterMap h
  | [], _ => rfl
  | a :: l, e => by
    rw [List.filterMap_cons, List.filterMap_cons, e a List.mem_cons_self, fm_congr fun b hb => e b (List.mem_cons_of_mem _ hb)]
/-- how many of the first are left out -/
def bk : Option Int → Nat
  | Option.none => 0
  | some _ => 1
section
variable {prog : Program} {w : World} {A : Around} {E : Value → Shared → Prop} {s : Shared}
theorem adjust_back {hi : Option Int} (n : Nat) (h : hi = none ∨ hi = some 0) : ∃ j, Builtin.Slice.sliceAdjust none hi (-1) (n : Int) = ((n : Int) - 1, j) ∧ Builtin.Slice.slicePlaces ((n : Int) - 1) j (-1) = n - bk hi := by
  rcases h with rfl | rfl
  · refine ⟨-1, rfl, ?_⟩
    show (if (n : Int) - 1 > -1 then ((n : Int) - 1 - -1 - 1) / (- -1) + 1 else 0).toNat = n - 0
    rw [show (- -1 : Int) = 1 by decide, Int.ediv_one]
    split <;> omega
  · refine ⟨min 0 ((n : Int) - 1), rfl, ?_⟩
    show (if (n : Int) - 1 > min 0 ((n : Int) - 1) then ((n : Int) - 1 - min 0 ((n : Int) - 1) - 1) / (- -1) + 1 else 0).toNat = n - 1
    rw [show (- -1 : Int) = 1 by decide, Int.ediv_one]
    split <;> omega
theorem sliceApplied_back {sl : Addr} {vl vu vs : Value} {hi : Option Int} {n : Nat} {Q : Int × Int × Nat → Shared → Prop} (hs : s.heap.IsSliceOf sl vl vu vs) (pl : IsPart vl none) (pu : IsPart vu hi) (ps : IsPart vs (some (-1))) (hh : hi = none ∨ hi = some 0)
    (h : Q ((n : Int) - 1, -1, n - bk hi) s) : wpAny (model prog w) A (Builtin.Slice.sliceApplied (.ref sl) (pure (n : Int))) Q E s := by
  obtain ⟨os, hos, hcs, hds⟩ := id hs
  obtain ⟨j, e1, e2⟩ := adjust_back n hh
  unfold Builtin.Slice.sliceApplied Builtin.Slice.sliceFields
  refine wpAny_bind (wpAny_bind (wpAny_field hos hds (x := vl) rfl (wpAny_bind (wpAny_field hos hds (x := vu) rfl (wpAny_bind (wpAny_field hos hds (x := vs) rfl (wpAny_pure ?_)))))))
  refine wpAny_bind (slicePart_ ps ?_)
  show wpAny _ _ (if ((-1 : Int) == 0) = true then _ else _) _ _ s
  rw [if_neg (by decide)]
  refine wpAny_bind (slicePart_ pl (wpAny_bind (slicePart_ pu (wpAny_bind (wpAny_pure ?_)))))
  show wpAny _ _ (match Builtin.Slice.sliceAdjust none hi (-1) (n : Int) with | (lo, hi) => pure (lo, (-1 : Int), Builtin.Slice.slicePlaces lo hi (-1))) _ _ s
  rw [e1]
  show wpAny _ _ (pure (((n : Int) - 1), (-1 : Int), Builtin.Slice.slicePlaces ((n : Int) - 1) j (-1))) _ _ s
  rw [e2]
  exact wpAny_pure h
theorem getItem_tuple_back {t sl : Addr} {items : Array Value} {vl vu vs : Value} {hi : Option Int} {Q : Value → Shared → Prop} (ht : IsTup s.heap t items) (hs : s.heap.IsSliceOf sl vl vu vs) (pl : IsPart vl none) (pu : IsPart vu hi) (ps : IsPart vs (some (-1))) (hh : hi = none ∨ hi = some 0)
    (h : Q (.ref s.heap.objs.size) { s with heap := s.heap.push { cls := .type "tuple", data := .seq (items.toList.drop (bk hi)).reverse.toArray } })
    (hsz : items.size ≤ sizeLine) : wpAny (model prog w) A (getItem (.ref t) (.ref sl)) Q E s := by
  have htake : sizeOk (.seq (items.toList.drop (bk hi)).reverse.toArray) := by
    show (items.toList.drop (bk hi)).reverse.toArray.size ≤ sizeLine
    rw [List.size_toArray, List.length_reverse, List.length_drop, Array.length_toList]
    omega
  obtain ⟨os, hos, hcs, hds⟩ := id hs
  have hTs : s.TypeIs (.ref sl) "slice" := ⟨os, hos, hcs⟩
  unfold getItem
  try with_reducible refine wpAny_holding ?_
  first | refine wpAny_bind (wpAny_pure ?_) | skip
  refine wpAny_bind (wpAny_sequenceKey ht.typeIs (by decide) ?_)
  refine wpAny_bind (wpAny_callSpecial?_slot (name := Str.ofString "__getitem__") ht.typeIs PyProof.Rows.slot_tuple_getitem
    (wpAny_call_entry PyProof.Rows.slot_tuple_getitem ht.typeIs entry_tuple_getitem ?_ (args_tuple_getitem _ _)))
  show wpAny _ _ (Builtin.Tuple.tupleItemsOf (.ref t) >>= _) _ _ s
  refine wpAny_bind (tupleItemsOf_ ht ?_)
  refine wpAny_bind (wpAny_typeOf hTs ?_)
  rw [if_pos (by decide)]
  refine wpAny_bind (sliceApplied_back hs pl pu ps hh ?_)
  have hno : ¬ (((((items.size : Nat) : Int) - 1) == 0 && (-1 : Int) == 1 && (items.size - bk hi) == items.size) = true) := by
    intro q
    rw [Bool.and_eq_true, Bool.and_eq_true] at q
    exact absurd q.1.2 (by decide)
  show wpAny _ _ (if ((((items.size : Nat) : Int) - 1) == 0 && (-1 : Int) == 1 && (items.size - bk hi) == items.size) = true then _ else _) _ _ s
  rw [if_neg hno]
  have hb : bk hi ≤ 1 := by rcases hh with rfl | rfl <;> simp [bk]
  have pk : ((List.range (items.size - bk hi)).filterMap fun (m : Nat) => items[(((items.size : Nat) : Int) - 1 + (m : Int) * -1).toNat]?).toArray = (items.toList.drop (bk hi)).reverse.toArray := by
    congr 1
    have h1 := pick_back items.toList (items.size - bk hi) (by rw [Array.length_toList]; omega)
    by_cases hz : items.size = 0
    · have e0 : items.size - bk hi = 0 := by omega
      rw [e0]
      have : items.toList = [] := List.eq_nil_of_length_eq_zero (by rw [Array.length_toList]; exact hz)
      rw [this]; simp
    · rw [Array.length_toList] at h1
      have e3 : items.size - (items.size - bk hi) = bk hi := by omega
      rw [e3] at h1
      rw [← h1]
      refine fm_congr fun m hm => ?_
      have hm' := List.mem_range.mp hm
      have e4 : (((items.size : Nat) : Int) - 1 + (m : Int) * -1).toNat = items.size - 1 - m := by omega
      rw [e4, Array.getElem?_toList]
  rw [pk]
  first
    | exact wpAny_bind (m := Builtin.Tuple.tupleExact _) (wpAny_newObj_type (wpAny_pure ⟨_, rfl, wpAny_pure h⟩) htake)
    | exact wpAny_bind (m := Builtin.Tuple.tupleExact _) (wpAny_newObj_type (wpAny_bind (wpAny_pure (wpAny_pure ⟨_, rfl, wpAny_pure h⟩))) htake)
    | exact wpAny_bind (wpAny_bind (m := Builtin.Tuple.tupleExact _) (wpAny_newObj_type (wpAny_pure (wpAny_pure ⟨_, rfl, wpAny_pure h⟩)) htake))
    | exact wpAny_bind (wpAny_bind (m := Builtin.Tuple.tupleExact _) (wpAny_newObj_type (wpAny_pure ⟨_, rfl, wpAny_pure h⟩) htake))
end
section
variable {g : Gs} {E : XK} {w0 w : Wd} {H0 H : Hp} {X : Cx} {e : Expr} {m : Ev} {pos p1 p2 p3 p4 : Pos} {B : Bs} {b1 : Bool} {hi : Option Expr} {kc : Nat}
def rBk (K : PySem.W.Frag) : V → Option Int → Hp → VK → Prop := fun x o H Q => ∃ a xs, x = .ref a ∧ ((o = none ∧ SqL K H a xs ∧ ∀ p, H p = none → Q (.ref p) (upd H p (.lst xs.reverse))) ∨ ((o = none ∨ o = some 0) ∧ SqT K H a xs ∧ ∀ p (ob : Obj), H p = none → ob.dict = none → Q (.ref p) (upd H p (.frz ob (.tup (xs.drop (bk o)).reverse)))))
def tBk (K : PySem.W.Frag) (te : TE) (th : TO) : TE := fun σ H Q => te σ H fun x H1 => th σ H1 fun o H2 => rBk K x o H2 Q
theorem pe_bk {te : TE} {th : TO} (he : PE X e te) (hh : PO X hi th) : PE X (.Subscript e (.Slice none hi (some (.UnaryOp .USub (.Constant (.int 1) kc p1) p2)) p3) pos) (tBk X.K te th) := by
  refine ⟨fun pins s σ H Q I h => ?_⟩
  refine Subscript_ (thn (he.run pins s σ H _ I h) fun v s1 ⟨x, H1, I1, r1, q1⟩ => ?_)
  have hst : PO X (some (.UnaryOp .USub (.Constant (.int 1) kc p1) p2)) (tPart (tUn (rU fun i => .int (-i)) (tC (.int 1)))) := po_some (pe_un un_neg pe_int)
  refine wpAny_Slice (thn (po_none.run pins s1 σ H1 (fun o H2 => o = none ∧ H2 = H1) I1 ⟨rfl, rfl⟩) fun vl s2 ⟨l, H2, I2, pl, el, e2⟩ => ?_)
  subst el e2
  refine thn (hh.run pins s2 σ H2 _ I2 q1) fun vu s3 ⟨u, H3, I3, pu, q3⟩ => ?_
  refine thn (hst.run pins s3 σ H3 (fun o H4 => o = some (-1) ∧ H4 = H3) I3 ⟨1, rfl, -1, rfl, rfl, rfl⟩) fun vs s4 ⟨o, H4, I4, ps, eo, e4⟩ => ?_
  subst eo e4
  have I5 : Inv X pins σ H4 { s4 with heap := s4.heap.push { cls := .type "slice", data := .fields #[vl, vu, vs] } } := I4.kept (t' := s4.toks) fun b ob q => Heap.get?_push_of_some _ q
  obtain ⟨a, xs, rfl, q⟩ := q3
  cases r1
  rcases q with ⟨rfl, hx, q⟩ | ⟨ho, hx, q⟩
  · obtain ⟨its, r, ht, hz⟩ := I5.list hx
    have hlen := r.length
    show wpAny (model X.prog X.w) X.A (subscriptTail e (.Slice none hi (some (.UnaryOp .USub (.Constant (.int 1) kc p1) p2)) p3) (.ref a) (.ref s4.heap.objs.size)) (EP X pins σ Q) X.xe { s4 with heap := s4.heap.push { cls := .type "slice", data := .fields #[vl, vu, vs] } }
    refine tail_any (ops := [.ref a, .ref s4.heap.objs.size]) ht.isList.typeIs (PySem.slot_list_getitem.lookup) ?_ (by with_unfolding_all rfl)
    refine wpAny_getItem_list_slice ht.isList (Heap.IsSliceOf.new _ vl vu vs) pl pu ps (by decide) ?_ (by rw [List.size_toArray]; omega)
    rw [PySem.W.krv_pick]
    refine ⟨.ref _, _, I5.laid (t' := s4.toks) (o := .lst xs.reverse) (fun b ob q => Heap.get?_push_of_some _ q) (Nat.le_refl _) ?_, rfl, q _ (I5.hok.fresh (Nat.le_refl _))⟩
    exact ⟨by rw [List.length_reverse]; exact hz, _, 0, r.reverse, Heap.get?_push_size _ rfl⟩
  · obtain ⟨its, r, ht, hz⟩ := I5.tuple hx
    have hlen := r.length
    show wpAny (model X.prog X.w) X.A (subscriptTail e (.Slice none hi (some (.UnaryOp .USub (.Constant (.int 1) kc p1) p2)) p3) (.ref a) (.ref s4.heap.objs.size)) (EP X pins σ Q) X.xe { s4 with heap := s4.heap.push { cls := .type "slice", data := .fields #[vl, vu, vs] } }
    refine tail_any (ops := [.ref a, .ref s4.heap.objs.size]) ht.typeIs (PyProof.Rows.slot_tuple_getitem.lookup) ?_ (by with_unfolding_all rfl)
    refine getItem_tuple_back ht (Heap.IsSliceOf.new _ vl vu vs) pl pu ps ho ?_ (by rw [List.size_toArray]; omega)
    exact ⟨.ref _, upd H4 _ _, I5.laid (t' := s4.toks) (o := .frz { cls := .type "tuple", data := .seq (its.drop (bk u)).reverse.toArray } (.tup (xs.drop (bk u)).reverse)) (fun c oc qc => Heap.get?_push_of_some _ qc) (Nat.le_refl _)
      (frz_tup (by rw [List.length_reverse, List.length_drop]; omega) (r.drop (bk u)).reverse (Heap.get?_push_size _ rfl)), rfl, q _ _ (I5.hok.fresh (Nat.le_refl _)) rfl⟩
def fRev : D → Bs → Rs D
  | .lst ds, B => .ok (.lst ds.reverse) B
  | .tup ds, B => .ok (.tup ds.reverse) B
  | _, _ => .bad
def fBk1 : D → Bs → Rs D
  | .tup ds, B => .ok (.tup (ds.drop 1).reverse) B
  | _, _ => .bad
theorem Reps.reverse {g : Gs} {w : Wd} : ∀ {ds : List D} {vs : List V}, Reps g w ds vs → Reps g w ds.reverse vs.reverse
  | [], vs, h => by simp only [Reps] at h; subst h; simp [Reps]
  | d :: ds, vs, h => by
    simp only [Reps] at h
    obtain ⟨v, us, rfl, r, rs⟩ := h
    rw [List.reverse_cons, List.reverse_cons]
    exact Reps.app (Reps.reverse rs) (Reps.one r)
theorem s_rev (ok : Ok g X) (he : Snd g E H0 X b1 e m) : Snd g E H0 X false (.Subscript e (.Slice none none (some (.UnaryOp .USub (.Constant (.int 1) kc p1) p2)) p3) pos) (m1 fRev m) := by
  refine weak (pe_bk he po_none) ?_
  rintro σ H Q ⟨w, σI, B, s, p⟩
  refine tI_bind s p fun d B1 w1 v H1 x1 s1 r1 p1 => ?_
  unfold fRev at p1
  split at p1
  · obtain ⟨a, vs, rfl, q, r⟩ := r1.up.lst s1
    exact ⟨a, vs, rfl, .inl ⟨rfl, .inl (.inl q), fun l hl => p1.newL s1 r.reverse hl⟩⟩
  · obtain ⟨a, vs, rfl, q, r⟩ := r1.up.tup s1
    exact ⟨a, vs, rfl, .inr ⟨.inl rfl, ok.K ▸ q, fun l ob hl ho => p1.newT s1 (by simpa [bk] using r.reverse) hl ho⟩⟩
  · exact p1.elim
theorem s_bk1 {k2 : Nat} (ok : Ok g X) (he : Snd g E H0 X b1 e m) : Snd g E H0 X false (.Subscript e (.Slice none (some (.Constant (.int 0) k2 p4)) (some (.UnaryOp .USub (.Constant (.int 1) kc p1) p2)) p3) pos) (m1 fBk1 m) := by
  refine weak (pe_bk he (po_some pe_int)) ?_
  rintro σ H Q ⟨w, σI, B, s, p⟩
  refine tI_bind s p fun d B1 w1 v H1 x1 s1 r1 p1 => ?_
  unfold fBk1 at p1
  split at p1
  · obtain ⟨a, vs, rfl, q, r⟩ := r1.up.tup s1
    exact ⟨0, rfl, a, vs, rfl, .inr ⟨.inr rfl, ok.K ▸ q, fun l ob hl ho => p1.newT s1 (Reps.reverse (Reps.drop 1 r)) hl ho⟩⟩
  · exact p1.elim
end
end Hf

set_option Elab.async false
set_option linter.all false
set_option maxRecDepth 100000
set_option maxHeartbeats 4000000
namespace Hf
open PySem PySem.Spec PyProof.Rows L2

/-! ### enumerate, zip -/
section
variable {X : Cx} {pins : List (Addr × Obj)} {σ : L2.St} {H : Hp} {s : Shared}
theorem Sk.At.inj (I : Inv X pins σ H s) {k : Sk} {xs ys : List V} (h : k.At X.K H xs) (h' : k.At X.K H ys) : xs = ys := by
  cases k with
  | l a => exact I.list_inj h h'
  | t a => exact I.tuple_inj h h'
  | s x =>
    have h : xs = chV x := h
    have h' : ys = chV x := h'
    rw [h, h']
end
theorem turn_gen {P : Program} {w : World} {K : PySem.W.Frag} {tg : Expr} {J : It} {fp : List Addr} {it : Addr} {tn : Nat → Heap → Prop} (mem : it ∈ fp)
    (obj : ∀ i h, tn i h → ∀ b ∈ fp, ∃ o, h.get? b = some o ∧ ∀ v, o.data ≠ .cell v) (keep : ∀ i h h', tn i h → (∀ b ∈ fp, ∀ o, h.get? b = some o → h'.get? b = some o) → tn i h')
    (self : ∀ (A : Around) (i : Nat) (s : Shared) (Q : Value → Shared → Prop) (E : Value → Shared → Prop), tn i s.heap → Q (.ref it) s → wpAny (model P w) A (pyIter (.ref it)) Q E s)
    (step : ∀ (X : Cx), X.prog = P → X.w = w → X.K = K → X.calm = true → ∀ (i : Nat) (pins : List (Addr × Obj)) (s : Shared) (σ : L2.St) (H : Hp), Inv X pins σ H s → (∀ b ∈ fp, FpOk X pins H b) → tn i s.heap → J.go i H →
      ∃ (fq wr : List Addr) (n : Nat) (Y : Nat → Heap → Value → Heap → Prop) (St : Nat → Heap → Prop), GoesN P w X.A tg it fq wr n Y St ∧ (∀ b ∈ wr, b ∈ fp) ∧ i < n ∧ St i s.heap ∧ (∀ h', St (i + 1) h' → tn (i + 1) h') ∧
        ∀ v h, Y i s.heap v h → ∃ (T : Addr) (xs : List V) (us : List Value), v = .ref T ∧ s.heap.objs.size ≤ T ∧ Vals xs us ∧ h.IsTuple T us.toArray ∧ xs.length ≤ sizeLine ∧ (H T = none → J.yld i H (.ref T) (upd H T (.tup xs))))
    (stop : ∀ (X : Cx), X.prog = P → X.w = w → X.K = K → X.calm = true → ∀ (i : Nat) (pins : List (Addr × Obj)) (s : Shared) (σ : L2.St) (H : Hp), Inv X pins σ H s → (∀ b ∈ fp, FpOk X pins H b) → tn i s.heap → J.stop i H →
      ∃ (fq wr : List Addr) (Y : Nat → Heap → Value → Heap → Prop) (St : Nat → Heap → Prop), GoesN P w X.A tg it fq wr i Y St ∧ (∀ b ∈ wr, b ∈ fp) ∧ St i s.heap) :
    Turn P w K tg J fp it tn where
  mem := mem
  obj := obj
  keep := keep
  self := self
  item := by
    intro X hP hw hK hc i pins s σ H E I hf st hg
    obtain ⟨fq, wr, n, Y, St, W, hwr, hi, hst, hnx, hY⟩ := step X hP hw hK hc i pins s σ H I hf st hg
    refine W.goes i s (fun u s2 => ∃ x H', Inv X pins σ H' s2 ∧ RelV x u ∧ J.yld i H x H' ∧ tn (i + 1) s2.heap ∧ ∀ b ∈ fp, H' b = none) E hi hst fun v h' tk y st' hk htk => ?_
    obtain ⟨T, xs, us, rfl, hT, rv, ht, hz, jy⟩ := hY v h' y
    have hn : H T = none := I.hok.fresh hT
    have new : ObjOk X.prog X.w (upd H T (.tup xs)) h' T (.tup xs) := ⟨hz, us, rv, ht⟩
    subst hP hw
    refine ⟨.ref T, _, I.turnedNew (t' := tk) (ch := fp) (fun b o hb q => hk b o (fun z => hb (hwr b z)) q) hf hT new, rfl, jy hn, hnx _ st', fun b hb => ?_⟩
    obtain ⟨o, e, _⟩ := obj i _ st b hb
    rw [upd_ne (Nat.ne_of_lt (Nat.lt_of_lt_of_le (Heap.lt_size e) hT))]
    exact (hf b hb).1
  done := by
    intro X hP hw hK hc i pins s σ H E I hf st hg
    obtain ⟨fq, wr, Y, St, W, hwr, hst⟩ := stop X hP hw hK hc i pins s σ H I hf st hg
    refine wpAny_mono (W.stops s (fun s1 => Inv X pins σ H s1) E hst fun h' tk hk htk => ?_) (fun r s1 h1 => h1) fun _ _ h => h
    exact I.turnedL (t' := tk) (ch := fp) (fun b o hb q => hk b o (fun z => hb (hwr b z)) q) hf
theorem in1_handled (A : Around) : A.in1.handled = A.handled := rfl
/-- enumerate(source) -/
def ItE (K : PySem.W.Frag) (k : Sk) : It := ⟨fun i H => ∃ xs, k.At K H xs ∧ i < xs.length, fun i H v H' => ∃ T x, v = .ref T ∧ H T = none ∧ H' = upd H T (.tup [.int (i : Nat), x]) ∧ ∀ xs, k.At K H xs → xs[i]? = some x, fun i H => ∃ xs, k.At K H xs ∧ i = xs.length⟩
theorem turn_enumS {P : Program} {w : World} {K : PySem.W.Frag} {elts : List Expr} {kk : Nat} {tpos : Pos} (k : Sk) (e it : Addr) (hei : e ≠ it) :
    Turn P w K (.Tuple elts kk tpos) (ItE K k) [e, it] e (fun i h => (∃ old, IsEnum h e it (0 + ((i : Nat) : Int)) old) ∧ k.St it i h) := by
  refine turn_gen (by simp) (fun i h st b hb => ?_) (fun i h h' st kp => ?_) (fun A i s Q E st h => ?_) (fun X hP hw hK hc i pins s σ H I hf st hg => ?_) fun X hP hw hK hc i pins s σ H I hf st hg => ?_
  · obtain ⟨⟨old, he⟩, st2⟩ := st
    simp only [List.mem_cons, List.not_mem_nil, or_false] at hb
    rcases hb with rfl | rfl
    · exact ⟨_, he, fun v q => nomatch q⟩
    · exact st2.obj
  · obtain ⟨⟨old, he⟩, st2⟩ := st
    exact ⟨⟨old, kp e (by simp) _ he⟩, st2.at fun o q => kp it (by simp) o q⟩
  · obtain ⟨⟨old, he⟩, st2⟩ := st
    exact wpAny_pyIter_enum he h
  · subst hP hw hK
    obtain ⟨he, st2⟩ := st
    obtain ⟨xs, hx, hi⟩ := hg
    obtain ⟨fq, n, Pd, St, D, rfl, sd, sb, vd, fd⟩ := Sk.draws I hx st2 X.A.in1 (I.ok.hd hc) (hf it (by simp))
    refine ⟨_, _, _, _, _, GoesN.enumFrom 0 D e hei (fun hm => ?_) (by simp), fun b hb => by simpa using hb, hi, ⟨he, sd⟩, fun h' q => ⟨q.1, sb _ _ q.2⟩, fun v h y => ?_⟩
    · rcases List.mem_cons.mp hm with q | q
      · exact hei q
      · exact src_ne I (hf e (by simp)) (fd e q) rfl
    · obtain ⟨T, t, u, rfl, hT, hP, ht⟩ := y
      obtain ⟨x, h1, h2⟩ := vd i u hP
      refine ⟨T, [.int (i : Nat), x], [.int (0 + (i : Int)) t, u], rfl, hT, .cons ⟨t, by simp⟩ (.cons h2 .nil), ht, by show 2 ≤ sizeLine; decide, fun hn => ⟨T, x, rfl, hn, rfl, fun ys hy => ?_⟩⟩
      rw [Sk.At.inj I hy hx]; exact h1
  · subst hP hw hK
    obtain ⟨he, st2⟩ := st
    obtain ⟨xs, hx, rfl⟩ := hg
    obtain ⟨fq, n, Pd, St, D, rfl, sd, sb, vd, fd⟩ := Sk.draws I hx st2 X.A.in1 (I.ok.hd hc) (hf it (by simp))
    refine ⟨_, _, _, _, GoesN.enumFrom 0 D e hei (fun hm => ?_) (by simp), fun b hb => by simpa using hb, ⟨he, sd⟩⟩
    rcases List.mem_cons.mp hm with q | q
    · exact hei q
    · exact src_ne I (hf e (by simp)) (fd e q) rfl
theorem meets_enumerate_one {v : Value} {o : Obj} {H : Heap → Prop} (B : Begins v o H) :
    Meets (Builtin.«enumerate.__new__» ⟨[.type "enumerate", v], []⟩) (fun _ R s => H s.heap ∧
      R (.ok (.ret (.ref (s.heap.push o).objs.size))) { s with heap := (s.heap.push o).push { cls := .type "enumerate", data := .fields #[.none, .bool false, .ref s.heap.objs.size, rawInt 0, .none, .none] } }) :=
  .of_wp fun prog w A R s h => by
    obtain ⟨hp, g, d, tk, os⟩ := s; obtain ⟨h1, h⟩ := h
    have hsub := sub_enumerate
    have q1 : ∀ {A' : Around} {E : Value → Shared → Prop} {Q : Value → Shared → Prop}, Q (.ref hp.objs.size) ⟨hp.push o, g, d, tk, os⟩ → wpAny (model prog w) A' (pyIter v) Q E ⟨hp, g, d, tk, os⟩ :=
      fun q => B.iter prog w _ _ ⟨hp, g, d, tk, os⟩ _ h1 q
    wp_walk using q1
    refine wpAny_stack_any fun st => wpAny_pure ?_
    split
    · rename_i c _ _ _ _ _
      cases (c == Value.type "enumerate")
      · wp_walk using q1
        exact ⟨_, rfl, h⟩
      · wp_walk using q1
        exact ⟨_, rfl, h⟩
    · wp_walk using q1
      exact ⟨_, rfl, h⟩
section
variable {prog : Program} {w : World} {A : Around} {E : Value → Shared → Prop} {s : Shared}
theorem enum_begins1 {v : Value} {o : Obj} {H : Heap → Prop} {Q : Value → Shared → Prop} (B : Begins v o H) (h1 : H s.heap)
    (h : ∀ h', IsEnum h' (s.heap.objs.size + 1) s.heap.objs.size 0 .none → h'.get? s.heap.objs.size = some o →
      (∀ b o, s.heap.get? b = some o → h'.get? b = some o) → Q (.ref (s.heap.objs.size + 1)) { s with heap := h' }) :
    wpAny (model prog w) A (call (.type "enumerate") [v]) Q E s := by
  refine callType_new F.called_enumerate (by decide) (F.typeCall_enumerate_1 _) (F.newCall_enumerate_1 _) (fun obj => F.args_object_init_2 obj _) F.entry_enumerate_new
    (meets_enumerate_one B) ⟨h1, ?_⟩
  have hz : (s.heap.push o).objs.size = s.heap.objs.size + 1 := Heap.size_push ..
  show _ ∧ _
  rw [hz]
  have he : IsEnum ((s.heap.push o).push { cls := .type "enumerate", data := .fields #[.none, .bool false, .ref s.heap.objs.size, rawInt 0, .none, .none] }) (s.heap.objs.size + 1) s.heap.objs.size 0 .none := by
    have := Heap.get?_push_size (s.heap.push o) (o := { cls := .type "enumerate", data := .fields #[.none, .bool false, .ref s.heap.objs.size, rawInt 0, .none, .none] }) rfl
    rw [hz] at this; exact this
  exact ⟨⟨_, he, rfl⟩, h _ he (Heap.get?_push_of_some _ (Heap.get?_push_size _ B.free)) fun b o x => Heap.get?_push_of_some _ (Heap.get?_push_of_some _ x)⟩
end
/-- zip(source, source) -/
def ItZ2 (K : PySem.W.Frag) (k l : Sk) : It := ⟨fun i H => ∃ xs ys, k.At K H xs ∧ l.At K H ys ∧ i < min xs.length ys.length,
  fun i H v H' => ∃ T x y, v = .ref T ∧ H T = none ∧ H' = upd H T (.tup [x, y]) ∧ (∀ xs, k.At K H xs → xs[i]? = some x) ∧ ∀ ys, l.At K H ys → ys[i]? = some y, fun i H => ∃ xs ys, k.At K H xs ∧ l.At K H ys ∧ i = min xs.length ys.length⟩
/-- the five cells of a zip of two -/
structure Z5 (z TI TO i1 i2 : Addr) : Prop where
  a : TI ≠ z
  b : TO ≠ z
  c : TI ≠ TO
  d : TI ≠ i1
  e : TI ≠ i2
  f : z ≠ i1
  g : z ≠ i2
  h : TO ≠ i1
  i : TO ≠ i2
  j : i1 ≠ i2
theorem turn_zipS2 {P : Program} {w : World} {K : PySem.W.Frag} {elts : List Expr} {kk : Nat} {tpos : Pos} (k l : Sk) {z TI TO i1 i2 : Addr} (Z : Z5 z TI TO i1 i2) :
    Turn P w K (.Tuple elts kk tpos) (ItZ2 K k l) [z, TI, TO, i1, i2] z (fun i h => IsZip h z TI TO .none ∧ IsTupOf2 h TI (.ref i1) (.ref i2) ∧ (∃ a1 a2, IsTupOf2 h TO a1 a2) ∧ k.St i1 i h ∧ l.St i2 i h) := by
  have sep : ∀ {X : Cx} {pins : List (Addr × Obj)} {s : Shared} {σ : L2.St} {H : Hp}, Inv X pins σ H s → (∀ b ∈ [z, TI, TO, i1, i2], FpOk X pins H b) → ∀ {f1 f2 : List Addr}, (∀ b ∈ f1, (∃ o, H b = some o) ∨ ∃ o, X.K.lookup b = some o) → (∀ b ∈ f2, (∃ o, H b = some o) ∨ ∃ o, X.K.lookup b = some o) →
      ZipSep2 z TI TO i1 i2 (i1 :: f1) (i2 :: f2) := by
    intro X pins s σ H I hf f1 f2 h1 h2
    have no : ∀ {c : Addr} {f : List Addr}, c ∈ [z, TI, TO, i1, i2] → (∀ b ∈ f, (∃ o, H b = some o) ∨ ∃ o, X.K.lookup b = some o) → c ∉ f := fun hc hq q => src_ne I (hf _ hc) (hq _ q) rfl
    have nc : ∀ {c d : Addr} {f : List Addr}, c ∈ [z, TI, TO, i1, i2] → (∀ b ∈ f, (∃ o, H b = some o) ∨ ∃ o, X.K.lookup b = some o) → c ≠ d → c ∉ d :: f := fun hc hq hn q => by
      rcases List.mem_cons.mp q with q | q
      · exact hn q
      · exact no hc hq q
    exact { TIz := Z.a, TOz := Z.b, TITO := Z.c, TIi1 := Z.d, mem1 := by simp, zf1 := nc (by simp) h1 Z.f, Tf1 := nc (by simp) h1 Z.h, TIi2 := Z.e, mem2 := by simp, zf2 := nc (by simp) h2 Z.g, Tf2 := nc (by simp) h2 Z.i, sep1_2 := nc (by simp) h2 Z.j, sep2_1 := nc (by simp) h1 Z.j.symm }
  refine turn_gen (by simp) (fun i h st b hb => ?_) (fun i h h' st kp => ?_) (fun A i s Q E st h => ?_) (fun X hP hw hK hc i pins s σ H I hf st hg => ?_) fun X hP hw hK hc i pins s σ H I hf st hg => ?_
  · obtain ⟨h1, h2, ⟨a1, a2, h3⟩, h4, h5⟩ := st
    simp only [List.mem_cons, List.not_mem_nil, or_false] at hb
    rcases hb with rfl | rfl | rfl | rfl | rfl
    · exact ⟨_, h1, fun v q => nomatch q⟩
    · exact ⟨_, h2, fun v q => nomatch q⟩
    · exact ⟨_, h3, fun v q => nomatch q⟩
    · exact h4.obj
    · exact h5.obj
  · obtain ⟨h1, h2, ⟨a1, a2, h3⟩, h4, h5⟩ := st
    exact ⟨kp _ (by simp) _ h1, kp _ (by simp) _ h2, ⟨a1, a2, kp _ (by simp) _ h3⟩, h4.at fun o q => kp _ (by simp) o q, h5.at fun o q => kp _ (by simp) o q⟩
  · exact wpAny_pyIter_zip st.1 h
  · subst hP hw hK
    obtain ⟨h1, h2, h3, h4, h5⟩ := st
    obtain ⟨xs, ys, hx, hy, hi⟩ := hg
    obtain ⟨f1, n1, P1, St1, D1, rfl, sd1, sb1, vd1, fd1⟩ := Sk.draws I hx h4 X.A.in1 (I.ok.hd hc) (hf i1 (by simp))
    obtain ⟨f2, n2, P2, St2, D2, rfl, sd2, sb2, vd2, fd2⟩ := Sk.draws I hy h5 X.A.in1 (I.ok.hd hc) (hf i2 (by simp))
    refine ⟨_, _, _, _, _, GoesN.zip2 (sep I hf fd1 fd2) D1 D2, fun b hb => ?_, hi, ⟨h1, h2, h3, sd1, sd2⟩, fun h' q => ⟨q.1, q.2.1, q.2.2.1, sb1 _ _ q.2.2.2.1, sb2 _ _ q.2.2.2.2⟩, fun v h y => ?_⟩
    · simp only [List.mem_cons, List.not_mem_nil, or_false] at hb ⊢
      rcases hb with q | q | q | q <;> simp [q]
    · obtain ⟨T, u1, u2, rfl, hT, p1, p2, ht⟩ := y
      obtain ⟨x, a1, a2⟩ := vd1 i u1 p1
      obtain ⟨y, c1, c2⟩ := vd2 i u2 p2
      refine ⟨T, [x, y], [u1, u2], rfl, hT, .cons a2 (.cons c2 .nil), ht, by show 2 ≤ sizeLine; decide, fun hn => ⟨T, x, y, rfl, hn, rfl, fun zs hz => ?_, fun zs hz => ?_⟩⟩
      · rw [Sk.At.inj I hz hx]; exact a1
      · rw [Sk.At.inj I hz hy]; exact c1
  · subst hP hw hK
    obtain ⟨h1, h2, h3, h4, h5⟩ := st
    obtain ⟨xs, ys, hx, hy, rfl⟩ := hg
    obtain ⟨f1, n1, P1, St1, D1, rfl, sd1, sb1, vd1, fd1⟩ := Sk.draws I hx h4 X.A.in1 (I.ok.hd hc) (hf i1 (by simp))
    obtain ⟨f2, n2, P2, St2, D2, rfl, sd2, sb2, vd2, fd2⟩ := Sk.draws I hy h5 X.A.in1 (I.ok.hd hc) (hf i2 (by simp))
    refine ⟨_, _, _, _, GoesN.zip2 (sep I hf fd1 fd2) D1 D2, fun b hb => ?_, ⟨h1, h2, h3, sd1, sd2⟩⟩
    simp only [List.mem_cons, List.not_mem_nil, or_false] at hb ⊢
    rcases hb with q | q | q | q <;> simp [q]
section
variable {X : Cx} {e e2 : Expr} {ta : TE} {tb : TE} {p pos tpos : Pos} {elts : List Expr} {kk : Nat}
def iEnumS (K : PySem.W.Frag) (ta : TE) : TI := fun σ H R => ta σ H fun x H1 => ∃ k xs, x = Sk.v k ∧ k.At K H1 xs ∧ R (ItE K k) H1
theorem pi_enumS (hg : Gl X "enumerate") (hm : X.mg "enumerate" = none) (he : PE X e ta) (na : starEach [e] X.env = (false, eval e X.env) :: starEach [] X.env := by rfl) :
    PI X (.Tuple elts kk tpos) (.Call (.Name "enumerate" p) [e] [] pos) (iEnumS X.K ta) := by
  refine ⟨fun pins s σ H R I h => ?_⟩
  refine Call_ (ld_blt I hg hm boot_enumerate (PyProof.Rows.callWith_type1 (args_cons (thn (he.run pins s σ H _ I h) fun u s1 ⟨x, H1, I1, r1, k, xs, ex, hk, q⟩ => args_nil ?_) na) na rfl))
  subst ex
  obtain ⟨o, HH, B, h1, hs⟩ := Sk.begins I1 hk r1
  refine enum_begins1 B h1 fun h' hE hit hk' => wpAny_pyIter_enum hE ?_
  refine ⟨s1.heap.objs.size + 1, [s1.heap.objs.size + 1, s1.heap.objs.size], _, _, H1, rfl, I1.kept (t' := s1.toks) hk', turn_enumS k (s1.heap.objs.size + 1) s1.heap.objs.size (Nat.succ_ne_self _), ⟨⟨_, hE⟩, hs _ _ hit⟩, fun c hc => ?_, q⟩
  have hle : s1.heap.objs.size ≤ c := by
    simp only [List.mem_cons, List.not_mem_nil, or_false] at hc
    rcases hc with z | z
    · rw [z]; exact Nat.le_succ _
    · rw [z]; exact Nat.le_refl _
  exact I1.fpOk hle (I1.hok.fresh hle)
def iZipS2 (K : PySem.W.Frag) (ta tb : TE) : TI := fun σ H R => ta σ H fun x H1 => tb σ H1 fun y H2 => ∃ k l xs ys, x = Sk.v k ∧ y = Sk.v l ∧ k.At K H2 xs ∧ l.At K H2 ys ∧ R (ItZ2 K k l) H2
theorem pi_zipS2 (hg : Gl X "zip") (hm : X.mg "zip" = none) (he : PE X e ta) (he2 : PE X e2 tb) (na : starEach [e, e2] X.env = (false, eval e X.env) :: starEach [e2] X.env := by rfl) (nb : starEach [e2] X.env = (false, eval e2 X.env) :: starEach [] X.env := by rfl) (hpl : (backTo pos (starEach [e2] X.env)).any (·.1) = false := by rfl) :
    PI X (.Tuple elts kk tpos) (.Call (.Name "zip" p) [e, e2] [] pos) (iZipS2 X.K ta tb) := by
  refine ⟨fun pins s σ H R I h => ?_⟩
  refine Call_ (ld_blt I hg hm PyProof.Rows.boot_zip (PyProof.Rows.callWith_type1 (args_cons (thn (he.run pins s σ H _ I h) fun u s1 ⟨x, H1, I1, r1, q1⟩ => args_cons (thn (he2.run pins s1 σ H1 _ I1 q1) fun u2 s2 ⟨y, H2, I2, r2, k, l, xs, ys, ex, ey, hk, hl, q⟩ => args_nil ?_) nb) na) na hpl))
  subst ex ey
  obtain ⟨o1, HH1, B1, h1, hs1⟩ := Sk.begins I2 hk r1
  obtain ⟨o2, HH2, B2, h2, hs2⟩ := Sk.begins I2 hl r2
  refine zip_begins2 B1 B2 h1 h2 fun h' hz hTI hTO g1 g2 hsz hk' => wpAny_pyIter_zip hz ?_
  generalize hN : s2.heap.objs.size = N at *
  refine ⟨N + 4, [N + 4, N + 2, N + 3, N, N + 1], _, _, H2, rfl, I2.kept (t' := s2.toks) hk', turn_zipS2 k l ⟨?_, ?_, ?_, ?_, ?_, ?_, ?_, ?_, ?_, ?_⟩, ⟨hz, hTI, ⟨_, _, hTO⟩, hs1 _ _ g1, hs2 _ _ g2⟩, fun c hc => ?_, q⟩
  · show (N + 2 : Nat) ≠ N + 4; omega
  · show (N + 3 : Nat) ≠ N + 4; omega
  · show (N + 2 : Nat) ≠ N + 3; omega
  · show (N + 2 : Nat) ≠ N; omega
  · show (N + 2 : Nat) ≠ N + 1; omega
  · show (N + 4 : Nat) ≠ N; omega
  · show (N + 4 : Nat) ≠ N + 1; omega
  · show (N + 3 : Nat) ≠ N; omega
  · show (N + 3 : Nat) ≠ N + 1; omega
  · show (N : Nat) ≠ N + 1; omega
  · have hle : s2.heap.objs.size ≤ c := by
      rw [hN]
      simp only [List.mem_cons, List.not_mem_nil, or_false] at hc
      rcases hc with z | z | z | z | z <;> rw [z]
      · exact Nat.le_add_right _ _
      · exact Nat.le_add_right _ _
      · exact Nat.le_add_right _ _
      · exact Nat.le_refl _
      · exact Nat.le_add_right _ _
    exact I2.fpOk hle (I2.hok.fresh hle)
end
section
variable {g : Gs} {E : XK} {H0 : Hp} {w : Wd}
theorem SkAt.at {k : Sk} {ds : List D} {H : Hp} (h : SkAt g w k ds) (hs : Same w.P H) : ∃ vs, k.At g.K H vs ∧ Reps g w ds vs := let ⟨vs, a, r⟩ := h; ⟨vs, a.mono hs, r⟩
theorem reg_pair {w1 : Wd} {H : Hp} {B : Bs} {T : Addr} {ds : List D} {vs : List V} (rb : RB g w1 B H) (hn : H T = none) (r : Reps g w1 ds vs) :
    ∃ w2, Ext w1 H w2 (upd H T (.tup vs)) ∧ RB g w2 B (upd H T (.tup vs)) ∧ Rep g w2 (.prs ds) (.ref T) :=
  ⟨regW w1 T (.tup vs), Ext.reg rb hn, rb.reg hn, by
    simp only [Rep]
    exact ⟨T, vs, rfl, .inl (.inl upd_same), Reps.mono (regLe w1 (rb.fresh_P hn)) _ _ r⟩⟩
def enumD (ds : List D) : List D := (List.range ds.length).zipWith (fun i d => D.prs [.int (i : Nat), d]) ds
def zipD (ds es : List D) : List D := ds.zipWith (fun d e => D.prs [d, e]) es
theorem enumD_len (ds : List D) : (enumD ds).length = ds.length := by simp [enumD]
theorem it_enum {k : Sk} {ds : List D} (h : SkAt g w k ds) : ItOk g w (ItE g.K k) (enumD ds) where
  go := fun i H hi hs => by
    obtain ⟨vs, a, r⟩ := h.at hs
    exact ⟨vs, a, by rw [enumD_len] at hi; rw [r.len]; exact hi⟩
  stop := fun i H hi hs => by
    obtain ⟨vs, a, r⟩ := h.at hs
    exact ⟨vs, a, by rw [enumD_len] at hi; rw [r.len]; exact hi⟩
  yld := fun i H x H' d w1 B e l rb y => by
    obtain ⟨vs, a, r⟩ := h.at (l.P.trans rb.sub)
    obtain ⟨T, y, rfl, hn, rfl, hx⟩ := y
    have hx := hx vs a
    unfold enumD at e
    rw [List.getElem?_zipWith] at e
    have hi : i < ds.length := by rw [← r.len]; exact (List.getElem?_eq_some_iff.mp hx).1
    rw [List.getElem?_range hi, List.getElem?_eq_getElem hi] at e
    simp only [Option.some.injEq] at e
    subst e
    obtain ⟨v, e2, rv⟩ := Reps.get r (List.getElem?_eq_getElem hi)
    rw [hx] at e2; cases e2
    refine reg_pair rb hn ?_
    simp only [Reps, Rep]
    exact ⟨_, _, rfl, rfl, _, _, rfl, Rep.mono l _ _ rv, rfl⟩
theorem it_zip2 {k l : Sk} {ds es : List D} (h : SkAt g w k ds) (h' : SkAt g w l es) : ItOk g w (ItZ2 g.K k l) (zipD ds es) where
  go := fun i H hi hs => by
    obtain ⟨vs, a, r⟩ := h.at hs
    obtain ⟨us, b, r'⟩ := h'.at hs
    exact ⟨vs, us, a, b, by rw [r.len, r'.len]; simpa [zipD] using hi⟩
  stop := fun i H hi hs => by
    obtain ⟨vs, a, r⟩ := h.at hs
    obtain ⟨us, b, r'⟩ := h'.at hs
    exact ⟨vs, us, a, b, by rw [r.len, r'.len]; simpa [zipD] using hi⟩
  yld := fun i H x H' d w1 B e le rb y => by
    obtain ⟨vs, a, r⟩ := h.at (le.P.trans rb.sub)
    obtain ⟨us, b, r'⟩ := h'.at (le.P.trans rb.sub)
    obtain ⟨T, x1, x2, rfl, hn, rfl, hx, hy⟩ := y
    have hx := hx vs a
    have hy := hy us b
    have hi : i < ds.length := by rw [← r.len]; exact (List.getElem?_eq_some_iff.mp hx).1
    have hj : i < es.length := by rw [← r'.len]; exact (List.getElem?_eq_some_iff.mp hy).1
    unfold zipD at e
    rw [List.getElem?_zipWith, List.getElem?_eq_getElem hi, List.getElem?_eq_getElem hj] at e
    simp only [Option.some.injEq] at e
    subst e
    obtain ⟨v, e2, rv⟩ := Reps.get r (List.getElem?_eq_getElem hi)
    rw [hx] at e2; cases e2
    obtain ⟨v', e3, rv'⟩ := Reps.get r' (List.getElem?_eq_getElem hj)
    rw [hy] at e3; cases e3
    refine reg_pair rb hn ?_
    simp only [Reps]
    exact ⟨_, _, rfl, Rep.mono le _ _ rv, _, _, rfl, Rep.mono le _ _ rv', rfl⟩
variable {X : Cx} {a b : Expr} {ma mb : Ev} {p pos tpos : Pos} {elts : List Expr} {kk : Nat}
def itD (d : D) (B : Bs) : Rs (List D) := match itemsOf d with
  | some ds => .ok ds B
  | Option.none => .bad
def mEnum (m : Ev) : Ei := fun σ B => (m σ B).bind fun d B1 => (itD d B1).bind fun ds B2 => .ok (enumD ds) B2
def mZip2 (ma mb : Ev) : Ei := fun σ B => (ma σ B).bind fun d B1 => (itD d B1).bind fun ds B2 => (mb σ B2).bind fun e B3 => (itD e B3).bind fun es B4 => .ok (zipD ds es) B4
theorem itD_go {B : Bs} {H : Hp} {R : It → Hp → Prop} {d : D} {v : V} {f : List D → Bs → Rs (List D)} (r : Rep g w d v) (p : PostI g E w H R ((itD d B).bind f)) : ∃ ds k, v = Sk.v k ∧ SkAt g w k ds ∧ PostI g E w H R (f ds B) := by
  unfold itD at p
  cases hd : itemsOf d with
  | none => rw [hd] at p; exact p.elim
  | some ds =>
    rw [hd] at p
    obtain ⟨k, e, hk⟩ := Rep.sk r hd
    exact ⟨ds, k, e, hk, p⟩
theorem SkAt.mono {w1 : Wd} {k : Sk} {ds : List D} (l : Le w w1) (h : SkAt g w k ds) : SkAt g w1 k ds := let ⟨vs, a, r⟩ := h; ⟨vs, a.mono l.P, Reps.mono l _ _ r⟩
theorem i_enum (c : Ok g X) (h : Snd g E H0 X false a ma) (hg : Gl X "enumerate" := by rfl) (na : starEach [a] X.env = (false, eval a X.env) :: starEach [] X.env := by rfl) : SndI g E H0 X (.Tuple elts kk tpos) (.Call (.Name "enumerate" p) [a] [] pos) (mEnum ma) := by
  refine weakI (pi_enumS hg (nbs c) h na) ?_
  rintro σ H R ⟨w, σI, B, s, p⟩
  refine tI_bindI s p fun d B1 w1 v H1 x1 s1 r p1 => ?_
  obtain ⟨ds, k, rfl, hk, p2⟩ := itD_go r p1
  obtain ⟨vs, a1, _⟩ := hk.at s1.rb.sub
  rw [c.K]
  exact ⟨k, vs, rfl, a1, p2 w1 _ H1 (Ext.refl _ _) s1.rb (it_enum hk)⟩
theorem i_zip2 (c : Ok g X) (h : Snd g E H0 X false a ma) (h' : Snd g E H0 X false b mb) (hg : Gl X "zip" := by rfl) (na : starEach [a, b] X.env = (false, eval a X.env) :: starEach [b] X.env := by rfl) (nb : starEach [b] X.env = (false, eval b X.env) :: starEach [] X.env := by rfl) (hpl : (backTo pos (starEach [b] X.env)).any (·.1) = false := by rfl) :
    SndI g E H0 X (.Tuple elts kk tpos) (.Call (.Name "zip" p) [a, b] [] pos) (mZip2 ma mb) := by
  refine weakI (pi_zipS2 hg (nbs c) h h' na nb hpl) ?_
  rintro σ H R ⟨w, σI, B, s, p⟩
  refine tI_bindI s p fun d B1 w1 v H1 x1 s1 r p1 => ?_
  obtain ⟨ds, k, rfl, hk, p2⟩ := itD_go r p1
  refine tI_bindI s1 p2 fun d2 B2 w2 v2 H2 x2 s2 r2 p3 => ?_
  obtain ⟨es, l, rfl, hl, p4⟩ := itD_go r2 p3
  have hk2 := hk.mono x2.le
  obtain ⟨vs, a1, _⟩ := hk2.at s2.rb.sub
  obtain ⟨us, a2, _⟩ := hl.at s2.rb.sub
  rw [c.K]
  exact ⟨k, l, vs, us, rfl, rfl, a1, a2, p4 w2 _ H2 (Ext.refl _ _) s2.rb (it_zip2 hk2 hl)⟩
end
end Hf

set_option Elab.async false
set_option linter.all false
set_option maxRecDepth 100000
set_option maxHeartbeats 4000000
namespace Hf
open PySem PySem.Spec PyProof.Rows L2

/-! ### keys -/
section
variable {g : Gs} {w : Wd} {X : Cx} {pins : List (Addr × Obj)} {σ : L2.St} {H : Hp} {s : Shared}
mutual
theorem nk_is (I : Inv X pins σ H s) (hK : X.K = g.K) (hs : Same w.P H) : ∀ (d : D) (v : V) (u : Value) (k : NestedKey), Rep g w d v → RelV v u → nkD d = some k → NestedIs s.heap k u
  | .none, v, u, k, r, ru, h => by
    simp only [Rep] at r; subst r
    simp only [nkD, Option.some.injEq] at h; subst h
    cases (show u = Value.none from ru)
    exact .none
  | .bool b, v, u, k, r, ru, h => by
    simp only [Rep] at r; subst r
    simp only [nkD, Option.some.injEq] at h; subst h
    cases (show u = Value.bool b from ru)
    exact .bool rfl
  | .int i, v, u, k, r, ru, h => by
    simp only [Rep] at r; subst r
    simp only [nkD, Option.some.injEq] at h; subst h
    obtain ⟨t, rfl⟩ := ru
    exact .int _ _
  | .str i, v, u, k, r, ru, h => by
    simp only [Rep] at r; subst r
    simp only [nkD, Option.some.injEq] at h; subst h
    obtain ⟨t, rfl⟩ := ru
    exact .text _ _
  | .tup ds, v, u, k, r, ru, h => by
    simp only [Rep] at r
    obtain ⟨a, vs, rfl, q, r⟩ := r
    simp only [nkD, Option.map_eq_some_iff] at h
    obtain ⟨ks, h, rfl⟩ := h
    cases (show u = Value.ref a from ru)
    obtain ⟨its, rv, ⟨o, ho, hc, n, hd⟩, hz⟩ := I.tuple (hK ▸ sqT_mono hs q.T)
    exact .tup ho hc hd (by simpa using nks_is I hK hs ds vs its ks r rv h)
  | .lst ds, v, u, k, r, ru, h => by simp [nkD] at h
  | .scr ds, v, u, k, r, ru, h => by simp [nkD] at h
  | .prs ds, v, u, k, r, ru, h => by simp [nkD] at h
  | .dct ks ds, v, u, k, r, ru, h => by simp [nkD] at h
  | .inst c ds, v, u, k, r, ru, h => by simp [nkD] at h
  | .box n, v, u, k, r, ru, h => by simp [nkD] at h
  | .cls n, v, u, k, r, ru, h => by simp [nkD] at h
theorem nks_is (I : Inv X pins σ H s) (hK : X.K = g.K) (hs : Same w.P H) : ∀ (ds : List D) (vs : List V) (us : List Value) (ks : List NestedKey), Reps g w ds vs → Vals vs us → nksD ds = some ks → NestedAll s.heap ks us
  | [], vs, us, ks, r, ru, h => by
    simp only [Reps] at r; subst r
    simp only [nksD, Option.some.injEq] at h; subst h
    cases ru
    exact .nil
  | d :: ds, vs, us, ks, r, ru, h => by
    simp only [Reps] at r
    obtain ⟨v, ws, rfl, r, rs⟩ := r
    simp only [nksD] at h
    split at h
    · rename_i k ks' e1 e2
      cases h
      cases ru with
      | cons r1 r2 => exact .cons (nk_is I hK hs d v _ k r r1 e1) (nks_is I hK hs ds ws _ ks' rs r2 e2)
    · cases h
end
/-- at b stands a key k -/
def KeyH (g : Gs) (H : Hp) (k : NestedKey) (b : Addr) : Prop := ∃ w d, Same (Wd.P w) H ∧ Rep g w d (.ref b) ∧ nkD d = some k
theorem KeyH.is (I : Inv X pins σ H s) (ok : Ok g X) {k : NestedKey} {b : Addr} (h : KeyH g H k b) (hd : k.depth ≤ 8) : (nestedKind X.prog X.w).is s.heap k b := by
  obtain ⟨w, d, hs, r, e⟩ := h
  exact ⟨nk_is I ok.K hs d _ _ k r rfl e, hd⟩
def KeysH (g : Gs) (H : Hp) (xs : List (NestedKey × Addr × V)) : Prop := ∀ p ∈ xs, KeyH g H p.1 p.2.1
theorem paired_mem {α β : Type} {F : α → β → Prop} : ∀ {l : List α} {m : List β}, Paired F l m → ∀ b ∈ m, ∃ a ∈ l, F a b
  | _, _, .nil, _, h => nomatch h
  | _, _, .cons h t, b, hb => by
    rcases List.mem_cons.mp hb with rfl | hb
    · exact ⟨_, List.mem_cons_self, h⟩
    · obtain ⟨a, ha, f⟩ := paired_mem t b hb
      exact ⟨a, List.mem_cons_of_mem _ ha, f⟩
abbrev PF : (NestedKey × Addr × V) → (NestedKey × Addr × Value) → Prop := fun p q => p.1 = q.1 ∧ p.2.1 = q.2.1 ∧ RelV p.2.2 q.2.2
theorem paired_keys : ∀ {l : List (NestedKey × Addr × V)} {m : List (NestedKey × Addr × Value)}, Paired PF l m → l.map (·.1) = m.map (·.1)
  | _, _, .nil => rfl
  | _, _, .cons h t => by rw [List.map_cons, List.map_cons, h.1, paired_keys t]
theorem dct_of (I : Inv X pins σ H s) (ok : Ok g X) {a : Addr} {xs : List (NestedKey × Addr × V)} (h : H a = some (dctO g a xs)) (kh : KeysH g H xs) :
    (a == sysModules) = false ∧ xs.length ≤ sizeLine ∧ (∀ p ∈ xs, p.1.depth ≤ 8) ∧ ∃ ys, Paired PF xs ys ∧ s.heap.DictOfH (nestedKind X.prog X.w) a ys := by
  obtain ⟨h1, h2, h3, h4, ys, h5, o, es, ep, ho, hx, hd, he⟩ := (I.hok a _ h).1
  refine ⟨h1, h2, h3, ys, h5, o, es, ep, ho, hx, hd, by rw [ok.prog, ok.w]; exact he, fun y hy => ?_, by rw [← paired_keys h5]; exact h4⟩
  obtain ⟨p, hp, e1, e2, _⟩ := paired_mem h5 y hy
  rw [← e1, ← e2]
  exact (kh p hp).is I ok (h3 p hp)
def atX (xs : List (NestedKey × Addr × V)) (k : NestedKey) : Option V := (xs.find? fun p => decide (p.1 = k)).map (·.2.2)
theorem at_rel {k : NestedKey} : ∀ {xs : List (NestedKey × Addr × V)} {ys : List (NestedKey × Addr × Value)}, Paired PF xs ys → (atX xs k = none ∧ atKey ys k = none) ∨ ∃ v b u, atX xs k = some v ∧ atKey ys k = some (b, u) ∧ RelV v u
  | _, _, .nil => .inl ⟨rfl, rfl⟩
  | x :: xs, y :: ys, .cons h t => by
    unfold atX atKey
    by_cases e : x.1 = k
    · have e2 : y.1 = k := by rw [← h.1]; exact e
      simp only [List.find?_cons, decide_eq_true e, decide_eq_true e2, Option.map_some]
      exact .inr ⟨_, _, _, rfl, rfl, h.2.2⟩
    · have e2 : ¬ y.1 = k := by rw [← h.1]; exact e
      simp only [List.find?_cons, decide_eq_false e, decide_eq_false e2]
      exact at_rel t
def putP (k : NestedKey) (v : V) (p : NestedKey × Addr × V) : NestedKey × Addr × V := if p.1 = k then (p.1, p.2.1, v) else p
def stX (xs : List (NestedKey × Addr × V)) (k : NestedKey) (b : Addr) (v : V) : List (NestedKey × Addr × V) := if (atX xs k).isSome then xs.map (putP k v) else xs ++ [(k, b, v)]
theorem st_rel {k : NestedKey} {b : Addr} {v : V} {u : Value} {xs : List (NestedKey × Addr × V)} {ys : List (NestedKey × Addr × Value)} (h : Paired PF xs ys) (r : RelV v u) : Paired PF (stX xs k b v) (storedH ys k b u) := by
  unfold stX storedH
  rcases at_rel (k := k) h with ⟨e1, e2⟩ | ⟨v', b', u', e1, e2, _⟩
  · rw [e1, e2]
    simp only [Option.isSome_none, Bool.false_eq_true, if_false]
    exact h.snoc ⟨rfl, rfl, r⟩
  · rw [e1, e2]
    simp only [Option.isSome_some, if_true]
    clear e1 e2
    induction h with
    | nil => exact .nil
    | @cons p q l m hp t ih =>
      refine .cons ?_ ih
      unfold putP putAt
      rw [← hp.1]
      split
      · exact ⟨rfl, hp.2.1, r⟩
      · exact hp
theorem stX_keys {k : NestedKey} {b : Addr} {v : V} {xs : List (NestedKey × Addr × V)} : (∀ p ∈ stX xs k b v, (∃ q ∈ xs, q.1 = p.1 ∧ q.2.1 = p.2.1) ∨ (p.1 = k ∧ p.2.1 = b)) ∧ (stX xs k b v).length ≤ xs.length + 1 ∧ ((xs.map (·.1)).Nodup → ((stX xs k b v).map (·.1)).Nodup) := by
  unfold stX
  split
  · refine ⟨fun p hp => ?_, by simp, fun h => ?_⟩
    · obtain ⟨q, hq, rfl⟩ := List.mem_map.mp hp
      refine .inl ⟨q, hq, ?_⟩
      unfold putP
      split <;> exact ⟨rfl, rfl⟩
    · have : (xs.map (putP k v)).map (·.1) = xs.map (·.1) := by
        rw [List.map_map]
        refine List.map_congr_left fun q hq => ?_
        show (putP k v q).1 = q.1
        unfold putP
        split <;> rfl
      rw [this]; exact h
  · rename_i hn
    refine ⟨fun p hp => ?_, by simp, fun h => ?_⟩
    · rcases List.mem_append.mp hp with hp | hp
      · exact .inl ⟨p, hp, rfl, rfl⟩
      · rw [List.mem_singleton.mp hp]; exact .inr ⟨rfl, rfl⟩
    · rw [List.map_append, List.nodup_append]
      refine ⟨h, by simp, fun a ha c hc => ?_⟩
      simp only [List.map_cons, List.map_nil, List.mem_singleton] at hc
      subst hc
      rintro rfl
      obtain ⟨q, hq, e⟩ := List.mem_map.mp ha
      have : (atX xs a).isSome = true := by
        unfold atX
        rw [Option.isSome_map]
        exact List.find?_isSome.mpr ⟨q, hq, decide_eq_true e⟩
      exact hn this
/-- D[b] = v, in a comprehension -/
theorem d_setK {E : Value → Shared → Prop} {a b : Addr} {xs : List (NestedKey × Addr × V)} {k : NestedKey} {v : V} {r : Value} {Q : Unit → Shared → Prop} (I : Inv X pins σ H s) (ok : Ok g X) (h : H a = some (dctO g a xs)) (kh : KeysH g H xs) (kb : KeyH g H k b) (hd : k.depth ≤ 8) (hz : xs.length < sizeLine) (rv : RelV v r)
    (q : ∀ s', Inv X pins σ (upd H a (dctO g a (stX xs k b v))) s' → Q () s') : wpAny (model X.prog X.w) X.A (dictSet a (.ref b) r) Q E s := by
  obtain ⟨h1, h2, h3, ys, h5, hm⟩ := dct_of I ok h kh
  have hl : ys.length ≤ sizeLine := by rw [← Paired.length h5]; exact h2
  have hu : X.A.units + 8 < cLine := by have := ok.un; omega
  refine wpAny_dictSet_heap (hsz := hl) hu (kb.is I ok hd) hm fun h' hm' hs => q _ ?_
  obtain ⟨o, es, ep, ho, hx, hdt, he, _, hnd⟩ := hm'
  obtain ⟨c1, c2, c3⟩ := @stX_keys k b v xs
  obtain ⟨_, _, _, h4, _⟩ := (I.hok a _ h).1
  refine d_write I (by rw [h]; exact True.intro) hs ⟨o, ho⟩ ⟨⟨h1, by omega, fun p hp => ?_, c3 h4, _, st_rel h5 rv, o, es, ep, ho, hx, hdt, by rw [← ok.prog, ← ok.w]; exact he⟩, ⟨o, ho⟩, ?_⟩
  · rcases c1 p hp with ⟨q, hq, e, _⟩ | ⟨e, _⟩
    · rw [← e]; exact h3 q hq
    · rw [e]; exact hd
  · rintro g1 g2 ⟨i1, i2, i3, i4, ys', i5, o', es', ep', j1, j2, j3, j4⟩ hk
    exact ⟨i1, i2, i3, i4, ys', i5, o', es', ep', hk _ j1, j2, j3, j4⟩
theorem dct_new (ok : Ok g X) (h : Heap) (hb : sysModules < h.objs.size) : ObjOk X.prog X.w H (h.push { cls := .type "dict", data := .dict #[] }) h.objs.size (dctO g h.objs.size []) := by
  have e : (h.push { cls := .type "dict", data := .dict #[] }).get? h.objs.size = some { cls := .type "dict", data := .dict #[] } := Heap.get?_push_size _ rfl
  have z : (h.objs.size == sysModules) = false := beq_eq_false_iff_ne.mpr (Nat.ne_of_gt hb)
  have z2 : ∀ p ∈ ([] : List (NestedKey × Addr × V)), p.1.depth ≤ 8 := fun p hp => nomatch hp
  refine ⟨⟨z, Nat.zero_le _, z2, List.nodup_nil, [], Paired.nil, _, _, _, e, ⟨rfl, rfl, rfl⟩, rfl, rfl⟩, ⟨_, e⟩, ?_⟩
  · rintro g1 g2 ⟨i1, i2, i3, i4, ys', i5, o', es', ep', j1, j2, j3, j4⟩ hk
    exact ⟨i1, i2, i3, i4, ys', i5, o', es', ep', hk _ j1, j2, j3, j4⟩
end

/-! ### dicts as data -/
def dAt : List D → List D → NestedKey → Option D
  | k' :: ks, d :: ds, k => if nkD k' = some k then some d else dAt ks ds k
  | _, _, _ => Option.none
def dSet : List D → List D → NestedKey → D → List D
  | k' :: ks, d :: ds, k, v => (if nkD k' = some k then v else d) :: dSet ks ds k v
  | _, _, _, _ => []
def keyT : D → Option NestedKey
  | .tup ds => match nkD (.tup ds) with
    | some k => if k.depth ≤ 8 then some k else Option.none
    | Option.none => Option.none
  | _ => Option.none
def dPut (ks ds : List D) (kd vd : D) : Option (List D × List D) := match keyT kd with
  | some k => if ks.length < sizeLine then some (if (dAt ks ds k).isSome then (ks, dSet ks ds k vd) else (ks ++ [kd], ds ++ [vd])) else Option.none
  | Option.none => Option.none
theorem keyT_ok {d : D} {k : NestedKey} (h : keyT d = some k) : (∃ ds, d = .tup ds) ∧ nkD d = some k ∧ k.depth ≤ 8 := by
  cases d <;> simp only [keyT, reduceCtorEq] at h
  split at h
  · rename_i ds k' e
    split at h
    · rename_i hd
      cases h
      exact ⟨⟨_, rfl⟩, e, hd⟩
    · cases h
  · cases h
section
variable {g : Gs} {w : Wd}
theorem dAt_rel {k : NestedKey} : ∀ {ks ds : List D} {xs : List (NestedKey × Addr × V)}, ks.map nkD = xs.map (fun p => some p.1) → Reps g w ds (xs.map fun p => p.2.2) → (dAt ks ds k = Option.none ∧ atX xs k = none) ∨ ∃ d v, dAt ks ds k = some d ∧ atX xs k = some v ∧ Rep g w d v
  | [], ds, xs, h, r => by
    cases xs with
    | nil => exact .inl ⟨by cases ds <;> rfl, rfl⟩
    | cons x xs => simp at h
  | k' :: ks, ds, [], h, r => by simp at h
  | k' :: ks, [], x :: xs, h, r => by simp [Reps] at r
  | k' :: ks, d :: ds, x :: xs, h, r => by
    simp only [List.map_cons, List.cons.injEq] at h
    simp only [List.map_cons, Reps] at r
    obtain ⟨v, us, e, r1, r2⟩ := r
    cases e
    unfold dAt atX
    rw [h.1]
    by_cases e : x.1 = k
    · simp only [e, if_true, List.find?_cons, decide_true, Option.map_some]
      exact .inr ⟨_, _, rfl, rfl, r1⟩
    · simp only [Option.some.injEq, e, if_false, List.find?_cons, decide_false]
      exact dAt_rel h.2 r2
theorem dSet_rel {k : NestedKey} {vd : D} {v : V} (rv : Rep g w vd v) : ∀ {ks ds : List D} {xs : List (NestedKey × Addr × V)}, ks.map nkD = xs.map (fun p => some p.1) → Reps g w ds (xs.map fun p => p.2.2) → Reps g w (dSet ks ds k vd) ((xs.map (putP k v)).map fun p => p.2.2)
  | [], ds, xs, h, r => by
    cases xs with
    | nil => cases ds <;> simp [dSet, Reps]
    | cons x xs => simp at h
  | k' :: ks, ds, [], h, r => by simp at h
  | k' :: ks, [], x :: xs, h, r => by simp [Reps] at r
  | k' :: ks, d :: ds, x :: xs, h, r => by
    simp only [List.map_cons, List.cons.injEq] at h
    simp only [List.map_cons, Reps] at r
    obtain ⟨u, us, e, r1, r2⟩ := r
    cases e
    unfold dSet
    rw [h.1]
    simp only [List.map_cons, Reps]
    refine ⟨_, _, rfl, ?_, dSet_rel rv h.2 r2⟩
    unfold putP
    by_cases e : x.1 = k
    · simp only [e, if_true]; exact rv
    · simp only [Option.some.injEq, e, if_false]; exact r1
/-- a dict's content -/
def DC (g : Gs) (w : Wd) (ks ds : List D) (xs : List (NestedKey × Addr × V)) : Prop := ks.map nkD = xs.map (fun p => some p.1) ∧ Reps g w ks (xs.map fun p => V.ref p.2.1) ∧ Reps g w ds (xs.map fun p => p.2.2)
theorem DC.nil : DC g w [] [] [] := by simp [DC, Reps]
theorem DC.mono {w' : Wd} (l : Le w w') {ks ds : List D} {xs : List (NestedKey × Addr × V)} (h : DC g w ks ds xs) : DC g w' ks ds xs := ⟨h.1, Reps.mono l _ _ h.2.1, Reps.mono l _ _ h.2.2⟩
theorem DC.keys {H : Hp} (hs : Same w.P H) : ∀ {ks ds : List D} {xs : List (NestedKey × Addr × V)}, DC g w ks ds xs → KeysH g H xs := by
  intro ks ds xs h
  obtain ⟨h1, h2, h3⟩ := h
  clear h3
  induction xs generalizing ks with
  | nil => exact fun p hp => nomatch hp
  | cons x xs ih =>
    cases ks with
    | nil => simp at h1
    | cons k ks =>
      simp only [List.map_cons, List.cons.injEq] at h1
      simp only [List.map_cons, Reps] at h2
      obtain ⟨v, us, e, r1, r2⟩ := h2
      cases e
      intro p hp
      rcases List.mem_cons.mp hp with rfl | hp
      · exact ⟨w, k, hs, r1, h1.1⟩
      · exact ih h1.2 r2 p hp
theorem DC.put {ks ds : List D} {xs : List (NestedKey × Addr × V)} {kd vd : D} {k : NestedKey} {b : Addr} {v : V} {ks' ds' : List D} (h : DC g w ks ds xs) (rk : Rep g w kd (.ref b)) (rv : Rep g w vd v) (hk : keyT kd = some k) (hp : dPut ks ds kd vd = some (ks', ds')) : DC g w ks' ds' (stX xs k b v) ∧ xs.length < sizeLine := by
  unfold dPut at hp
  rw [hk] at hp
  simp only at hp
  split at hp
  · rename_i hz
    obtain ⟨h1, h2, h3⟩ := h
    have hl : ks.length = xs.length := by have := congrArg List.length h1; simpa using this
    refine ⟨?_, by omega⟩
    unfold stX
    rcases dAt_rel (k := k) h1 h3 with ⟨e1, e2⟩ | ⟨d, v', e1, e2, _⟩
    · rw [e1] at hp
      simp only [Option.isSome_none, Bool.false_eq_true, if_false, Option.some.injEq, Prod.mk.injEq] at hp
      obtain ⟨rfl, rfl⟩ := hp
      rw [e2]
      simp only [Option.isSome_none, Bool.false_eq_true, if_false]
      refine ⟨by rw [List.map_append, List.map_append, h1]; simp [(keyT_ok hk).2.1], ?_, ?_⟩
      · rw [List.map_append]; exact Reps.app h2 (Reps.one rk)
      · rw [List.map_append]; exact Reps.app h3 (Reps.one rv)
    · rw [e1] at hp
      simp only [Option.isSome_some, if_true, Option.some.injEq, Prod.mk.injEq] at hp
      obtain ⟨rfl, rfl⟩ := hp
      rw [e2]
      simp only [Option.isSome_some, if_true]
      have c1 : (xs.map (putP k v)).map (fun p => p.1) = xs.map (fun p => p.1) := by
        rw [List.map_map]
        refine List.map_congr_left fun q hq => ?_
        show (putP k v q).1 = q.1
        unfold putP; split <;> rfl
      have c2 : (xs.map (putP k v)).map (fun p => V.ref p.2.1) = xs.map (fun p => V.ref p.2.1) := by
        rw [List.map_map]
        refine List.map_congr_left fun q hq => ?_
        show V.ref (putP k v q).2.1 = V.ref q.2.1
        unfold putP; split <;> rfl
      refine ⟨?_, by rw [c2]; exact h2, dSet_rel rv h1 h3⟩
      have := congrArg (List.map some) c1
      rw [h1]
      simpa [List.map_map, Function.comp_def] using this.symm
  · cases hp
end
/-! ### in, not in -/
section
variable {g : Gs} {E : XK} {H0 : Hp} {X : Cx}
def rInK (g : Gs) (f : Bool → Bool) : R2 := fun x y H Q => ∃ a b xs k, x = .ref b ∧ y = .ref a ∧ H a = some (dctO g a xs) ∧ KeysH g H xs ∧ KeyH g H k b ∧ k.depth ≤ 8 ∧ Q (.bl (f (atX xs k).isSome)) H
theorem at_some {k : NestedKey} {xs : List (NestedKey × Addr × V)} {ys : List (NestedKey × Addr × Value)} (h : Paired PF xs ys) : (atKey ys k).isSome = (atX xs k).isSome := by
  rcases at_rel (k := k) h with ⟨e1, e2⟩ | ⟨v', b', u', e1, e2, _⟩ <;> rw [e1, e2] <;> rfl
theorem op_inK (ok : Ok g X) : OpR X (compareOp .In) (rInK g fun b => b) := by
  intro pins s σ H x y v u Q I rx ry h
  obtain ⟨a, b, xs, k, rfl, rfl, hD, kh, kb, hd, q⟩ := h
  cases rx
  cases ry
  obtain ⟨h1, h2, h3, ys, h5, hm⟩ := dct_of I ok hD kh
  have hu : X.A.in1.units + 8 < cLine := by have := ok.un; show X.A.units + 1 + 8 < cLine; omega
  refine wpAny_in_heap hu (kb.is I ok hd) h1 hm ?_
  exact ⟨.bl _, H, I.tok _, rfl, by rw [at_some h5]; exact q⟩
theorem op_notInK (ok : Ok g X) : OpR X (compareOp .NotIn) (rInK g fun b => !b) := by
  intro pins s σ H x y v u Q I rx ry h
  obtain ⟨a, b, xs, k, rfl, rfl, hD, kh, kb, hd, q⟩ := h
  cases rx
  cases ry
  obtain ⟨h1, h2, h3, ys, h5, hm⟩ := dct_of I ok hD kh
  have hu : X.A.in1.units + 8 < cLine := by have := ok.un; show X.A.units + 1 + 8 < cLine; omega
  show wpAny _ _ (do return Value.bool (!(← contains (.ref a) (.ref b)))) _ _ _
  refine wpAny_bind (wpAny_contains_heap hu (kb.is I ok hd) h1 hm (wpAny_pure ?_))
  exact ⟨.bl _, H, I.tok _, rfl, by rw [at_some h5]; exact q⟩
def fInD (f : Bool → Bool) : D → D → Bs → Rs D
  | d, .dct ks ds, B => match keyT d with
    | some k => .ok (.bool (f (dAt ks ds k).isSome)) B
    | Option.none => .bad
  | d, e, B => fInG f d e B
theorem os_inK {f : Bool → Bool} {r : R2} (h : OpSem g E H0 r (fInG f)) : OpSem g E H0 (fun x y H Q => rInK g f x y H Q ∨ r x y H Q) (fInD f) := by
  intro w σI B σ H Q x y dx dy s rx ry p
  unfold fInD at p
  split at p
  · split at p
    · rename_i ks ds k hk
      obtain ⟨⟨ts, rfl⟩, hn, hd⟩ := keyT_ok hk
      obtain ⟨a, xs, rfl, hD, dc⟩ := ry.dct s
      have rk := rx.tupR s
      obtain ⟨b, vs, e, _⟩ := rx.tup s
      subst e
      refine .inl ⟨a, b, xs, k, rfl, rfl, hD, DC.keys s.rb.sub dc, ⟨w, _, s.rb.sub, rk, hn⟩, hd, ?_⟩
      rcases dAt_rel (k := k) dc.1 dc.2.2 with ⟨e1, e2⟩ | ⟨d', v', e1, e2, _⟩ <;> rw [e2] <;> rw [e1] at p <;> exact p.nowR s (rep_bool g w _)
    · exact p.elim
  · exact .inr (h w σI B σ H Q x y _ _ s rx ry p)
theorem fInD_bl (f : Bool → Bool) : ∀ d e B, fInD f d e B = .bad ∨ ∃ b B', fInD f d e B = .ok (.bool b) B' := fun d e B => by
  unfold fInD
  split
  · split
    · exact .inr ⟨_, _, rfl⟩
    · exact .inl rfl
  · exact fIn_bl f d e B
theorem c_inA (ok : Ok g X) : Cmp g E H0 X .In (fInD fun b => b) := by
  have h : Cmp g E H0 X .In fIn := c_in ok
  obtain ⟨r, h1, h2⟩ := h.ex
  exact ⟨⟨_, (op_inK ok).or h1, os_inK h2⟩, fInD_bl _⟩
theorem c_notinA (ok : Ok g X) : Cmp g E H0 X .NotIn (fInD fun b => !b) := by
  have h : Cmp g E H0 X .NotIn fNotIn := c_notin ok
  obtain ⟨r, h1, h2⟩ := h.ex
  exact ⟨⟨_, (op_notInK ok).or h1, os_inK h2⟩, fInD_bl _⟩
end
/-! ### d.get(k, x) -/
section
variable {g : Gs} {E : XK} {H0 : Hp} {X : Cx} {o e e2 : Expr} {to te tf : TE} {mo me mf : Ev} {apos cpos : Pos} {b1 b2 b3 : Bool}
def tGetK (g : Gs) (to te tf : TE) : TE := fun σ H Q => to σ H fun x H1 => ∃ a xs, x = .ref a ∧ H1 a = some (dctO g a xs) ∧ (tCons te (tCons tf tNil)) σ H1 fun vs H3 => ∃ y z xs b k, vs = [y, z] ∧ y = .ref b ∧ H3 a = some (dctO g a xs) ∧ KeysH g H3 xs ∧ KeyH g H3 k b ∧ k.depth ≤ 8 ∧ Q ((atX xs k).getD z) H3
theorem pe_getK (ok : Ok g X) (ho : PE X o to) (he : PE X e te) (hf : PE X e2 tf) (hbase : attributeBase o "get" X.env (eval o X.env) = eval o X.env := by rfl)
    (hfew : ((backTo cpos (starEach [e, e2] X.env)).all (fun x => !x.1) && (backToKw cpos (keywordEach [] X.env)).all (fun x => x.1.isSome) && decide ([e, e2].length + ([] : List Keyword).length + (if ([] : List Keyword).isEmpty then 0 else 1) < 30)) = true := by rfl)
    (hline : (apos.endLine == cpos.line) = true := by rfl) (hs : starEach [e, e2] X.env = (false, eval e X.env) :: starEach [e2] X.env := by rfl) (hs2 : starEach [e2] X.env = (false, eval e2 X.env) :: starEach [] X.env := by rfl) (hpl : (backTo cpos (starEach [e2] X.env)).any (·.1) = false := by rfl) :
    PE X (.Call (.Attribute o "get" apos) [e, e2] [] cpos) (tGetK g to te tf) := by
  refine ⟨fun pins s σ H Q I h => ?_⟩
  refine wpAny_Call_method_late hbase hfew hline rfl (thn (ho.run pins s σ H _ I h) fun v s1 ⟨x, H1, I1, r1, a, xs0, ex, hD, q1⟩ => ?_)
  subst ex
  cases r1
  obtain ⟨_, _, _, _, _, _, ob, _, _, g1, g2, _⟩ := (I1.hok a _ hD).1
  refine ⟨"dict", "dict.get", F.plainAttrs_dict, F.slot_dict_get, F.type_dict_get, ⟨ob, g1, g2.1⟩, fun b eb => by cases eb; exact ⟨ob, g1, g2.2.1⟩, ?_⟩
  have hA := (pa_cons he (pa_cons hf pa_nil hs2) hs).run cpos pins s1 σ H1 _ I1 q1
  · rw [hs] at hA ⊢
    refine Calls.callWith_builtin (by show (false || (backTo cpos (starEach [e2] X.env)).any (·.1)) = false; rw [hpl] <;> rfl) (Calls.evalArgs_plain ?_)
    refine thn hA fun us s2 ⟨vs, H3, I3, r3, y, z, xs, b, k, ev, ey, hD3, kh, kb, hd, q⟩ => ?_
    subst ev ey
    obtain ⟨u, u2, rfl, ru, ru2⟩ := Vals.two r3
    cases ru
    obtain ⟨h1, h2, h3, ys, h5, hm⟩ := dct_of I3 ok hD3 kh
    have hu : X.A.in1.units + 8 < cLine := by have := ok.un; show X.A.units + 1 + 8 < cLine; omega
    refine call_meetsIn F.slot_dict_get hm.typeIs F.entry_dict_get (F.args_dict_get_3 _ _ _) (meetsH_dict_get_default (nestedKind X.prog X.w) a b h1 u2) ⟨hu, k, ys, kb.is I3 ok hd, hm, ?_⟩
    rcases at_rel (k := k) h5 with ⟨e1, e2⟩ | ⟨v', b', u', e1, e2, rr⟩
    · rw [e1] at q
      rw [e2]
      exact ⟨z, H3, I3.tok _, ru2, q⟩
    · rw [e1] at q
      rw [e2]
      exact ⟨v', H3, I3.tok _, rr, q⟩
def fGet (ks ds : List D) : D → D → Bs → Rs D := fun k x B => match keyT k with
  | some k => .ok ((dAt ks ds k).getD x) B
  | Option.none => .bad
def mGet (mo me mf : Ev) : Ev := fun σ B => (mo σ B).bind fun o B1 => match o with
  | .dct ks ds => (me σ B1).bind fun k B2 => (mf σ B2).bind fun x B3 => fGet ks ds k x B3
  | _ => .bad
theorem s_get (ok : Ok g X) (ho : Snd g E H0 X false o mo) (he : Snd g E H0 X b1 e me) (hf : Snd g E H0 X false e2 mf) (hbase : attributeBase o "get" X.env (eval o X.env) = eval o X.env := by rfl)
    (hfew : ((backTo cpos (starEach [e, e2] X.env)).all (fun x => !x.1) && (backToKw cpos (keywordEach [] X.env)).all (fun x => x.1.isSome) && decide ([e, e2].length + ([] : List Keyword).length + (if ([] : List Keyword).isEmpty then 0 else 1) < 30)) = true := by rfl)
    (hline : (apos.endLine == cpos.line) = true := by rfl) (hs : starEach [e, e2] X.env = (false, eval e X.env) :: starEach [e2] X.env := by rfl) (hs2 : starEach [e2] X.env = (false, eval e2 X.env) :: starEach [] X.env := by rfl) (hpl : (backTo cpos (starEach [e2] X.env)).any (·.1) = false := by rfl) :
    Snd g E H0 X false (.Call (.Attribute o "get" apos) [e, e2] [] cpos) (mGet mo me mf) := by
  refine weak (pe_getK ok ho he hf hbase hfew hline hs hs2 hpl) ?_
  rintro σ H Q ⟨w, σI, B, s, p⟩
  refine tI_bind s p fun d B1 w1 v H1 x1 s1 r1 p1 => ?_
  split at p1
  · rename_i ks ds
    have r1' : Rep g w1 (.dct ks ds) v := r1
    simp only [Rep] at r1'
    obtain ⟨a, xs, rfl, hP, dc⟩ := r1'
    refine ⟨a, xs, rfl, s1.rb.sub _ _ hP, tI_bind s1 p1 fun d2 B2 w2 v2 H2 x2 s2 r2 p2 => tI_bind s2 p2 fun d3 B3 w3 v3 H3 x3 s3 r3 p3 => ?_⟩
    unfold fGet at p3
    split at p3
    · rename_i k hk
      obtain ⟨⟨ts, rfl⟩, hn, hd⟩ := keyT_ok hk
      have r2' := Rep.mono x3.le _ _ (r2.up.tupR s2)
      obtain ⟨b, vs, e, _⟩ := r2.up.tup s2
      subst e
      have dc3 : DC g w3 ks ds xs := (show DC g w1 ks ds xs from dc).mono (x2.le.trans x3.le)
      refine ⟨_, _, xs, b, k, rfl, rfl, s3.rb.sub _ _ ((x2.le.trans x3.le).P _ _ hP), dc3.keys s3.rb.sub, ⟨w3, _, s3.rb.sub, r2', hn⟩, hd, ?_⟩
      rcases dAt_rel (k := k) dc3.1 dc3.2.2 with ⟨e1, e2⟩ | ⟨d', v', e1, e2, rr⟩
      · rw [e2]; rw [e1] at p3; exact p3.nowR s3 r3
      · rw [e2]; rw [e1] at p3; exact p3.nowR s3 rr
    · exact p3.elim
  · exact p1.elim
end
end Hf

set_option Elab.async false
set_option linter.all false
set_option maxRecDepth 100000
set_option maxHeartbeats 4000000
namespace Hf
open PySem PySem.Spec PyProof.Rows L2

/-! ### {k: v for ..}, the keys tuples: turned from the library's rule for keys that are whole numbers or texts -/
section
variable {X : Cx}
def tDcK (g0 : Gs) (wi : TI) (gt : TG) (tt : TT) (tk tv : TE) (vs : List Nat) : TE := fun σ H Q => wi σ H fun J G1 => ∀ D, G1 D = none → ∃ W : Nat → Nat → Hp → Prop, (∃ m, W 0 m (upd G1 D (dctO g0 D []))) ∧ ∀ i m H, W i m H →
  (J.stop i H ∧ Q (.ref D) H) ∨ (J.go i H ∧ ∃ Nx : Hp → Prop, (∀ H', Nx H' → ∃ m', m' < m ∧ W (i + 1) m' H') ∧ ∀ x H', J.yld i H x H' → gt x (wipe σ vs) H' fun τ2 G2 => wipe τ2 vs = wipe σ vs ∧ tt τ2 G2 fun b G3 =>
    if b = true then tk τ2 G3 fun y G4 => tv τ2 G4 fun z G5 => ∃ xs k b, y = .ref b ∧ G5 D = some (dctO g0 D xs) ∧ KeysH g0 G5 xs ∧ KeyH g0 G5 k b ∧ k.depth ≤ 8 ∧ xs.length < sizeLine ∧ Nx (upd G5 D (dctO g0 D (stX xs k b z))) else Nx G3)
theorem dk_core {pins : List (Addr × Obj)} {s : Shared} {σ : L2.St} {H : Hp} {Q : VK} {ke ve tg iter : Expr} {ifs : List Expr} {scope : Scope} {mine : List (Str × Nat)} {pos pos2 : Pos} {g0 : Gs} {wi : TI} {gt : TG} {tt : TT} {tk tv : TE} {use : Option (Value → Sem Unit)} {Qf : Value → Shared → Prop}
    (ok0 : Ok g0 X) (hc : X.calm = true) (hN : X.N.Nodup) (I : Inv X pins σ H s) (hi : PI X tg iter wi) (ok : BlkOk X.N X.env.scope scope mine)
    (hg : ∀ (s : Shared) (H : Hp) (C : Addr) (cl : List (Str × Addr)) (fp : List Addr), PG (X.blk s H scope (compEnvC scope cl C X.env) fp) tg gt) (ht : ∀ (s : Shared) (H : Hp) (C : Addr) (cl : List (Str × Addr)) (fp : List Addr), PTs (X.blk s H scope (compEnvC scope cl C X.env) fp) ifs tt)
    (hk : ∀ (s : Shared) (H : Hp) (C : Addr) (cl : List (Str × Addr)) (fp : List Addr), PE (X.blk s H scope (compEnvC scope cl C X.env) fp) ke tk)
    (he : ∀ (s : Shared) (H : Hp) (C : Addr) (cl : List (Str × Addr)) (fp : List Addr), PE (X.blk s H scope (compEnvC scope cl C X.env) fp) ve tv) (hs : ∀ x, foldedSetIterable iter X.env x = pure x)
    (h : tDcK g0 wi gt tt tk tv (mine.map (·.2)) σ H Q)
    (hRR : ∀ D C s' m H', Inv X pins σ H' s' → Q (.ref D) H' → s'.heap.Ns C m → FpOk X pins H' C → compPost (model X.prog X.w) X.A X.xe use Qf (.ref D) C (.ok .next) s') :
    wpAny (model X.prog X.w) X.A (comprehension (.DictComp ke ve [⟨tg, iter, ifs, 0⟩] scope pos) scope X.env pos2 newDict false (eval iter X.env) use) Qf X.xe s := by
  have hfree : ∀ y ∈ scope.names, y.2 = .free → ∃ c, X.env.cells.lookup y.1 = some c := fun y hy e => by
    rcases ok.free y hy e with k | k
    · exact I.ok.has _ (.inl k)
    · exact I.ok.has _ (.inr k)
  refine wpAny_comprehension_free (use := use) rfl hs (closure_ok hfree) ok.kind (fun y hy e => by rw [ok.uniq y hy, e])
    (thn (hi.run pins s σ H _ I h) fun xv u1 hx => thn hx fun itv u2 hh2 => ?_)
  obtain ⟨it, fp, tn, J, G2, e, J2, T, stt2, ff2, q⟩ := hh2
  subst e
  refine wpAny_newObj_type (newEnv_comp ?_)
  generalize hD : u2.heap.objs.size = D
  have hEn : G2 D = none := J2.hok.fresh (Nat.le_of_eq hD)
  obtain ⟨W, ⟨mm0, ww0⟩, step1⟩ := q D hEn
  -- the new list
  generalize hv3 : ({ u2 with heap := u2.heap.push { cls := .type "dict", data := .dict #[] } } : Shared) = u3
  have J3 : Inv X pins σ (upd G2 D (dctO g0 D [])) u3 := by
    rw [← hv3]
    refine J2.laid (t' := u2.toks) (fun b o e => Heap.get?_push_of_some _ e) (Nat.le_of_eq hD) ?_
    rw [← hD]
    exact dct_new ok0 u2.heap J2.big
  have hh3 : u3.heap = u2.heap.push { cls := .type "dict", data := .dict #[] } := by rw [← hv3]
  have sz : ∀ b ∈ fp, b < u2.heap.objs.size := fun b hb => by
    obtain ⟨o, e, _⟩ := T.obj _ _ stt2 b hb
    exact Heap.lt_size e
  have ff3 : ∀ b ∈ fp, FpOk X pins (upd G2 D (dctO g0 D [])) b ∧ b < u3.heap.objs.size := fun b hb => by
    have hlt := sz b hb
    refine ⟨⟨?_, (ff2 b hb).2⟩, by rw [hh3, Heap.size_push]; exact Nat.lt_succ_of_lt hlt⟩
    rw [upd_ne (by rw [← hD]; exact Nat.ne_of_lt hlt)]
    exact (ff2 b hb).1
  have stt3 : tn 0 u3.heap := T.keep _ _ _ stt2 fun b _ o e => by rw [hh3]; exact Heap.get?_push_of_some _ e
  have J4 := block_start J3 ok hN ff3
  have pg := hg u3 (upd G2 D (dctO g0 D [])) u3.heap.objs.size (cellsFrom (u3.heap.objs.size + 1) scope.names (cloFrom X.env.cells scope.names [])) fp
  have pt := ht u3 (upd G2 D (dctO g0 D [])) u3.heap.objs.size (cellsFrom (u3.heap.objs.size + 1) scope.names (cloFrom X.env.cells scope.names [])) fp
  have pk := hk u3 (upd G2 D (dctO g0 D [])) u3.heap.objs.size (cellsFrom (u3.heap.objs.size + 1) scope.names (cloFrom X.env.cells scope.names [])) fp
  have pe := he u3 (upd G2 D (dctO g0 D [])) u3.heap.objs.size (cellsFrom (u3.heap.objs.size + 1) scope.names (cloFrom X.env.cells scope.names [])) fp
  show codeAny _ _ (.compStart (.DictComp ke ve [⟨tg, iter, ifs, 0⟩] scope pos) 0 (.ref it) (.ref D) (compEnvC scope (cellsFrom (u3.heap.objs.size + 1) scope.names (cloFrom X.env.cells scope.names [])) u3.heap.objs.size X.env)) (compPost (model X.prog X.w) X.A X.xe use Qf (.ref D) u3.heap.objs.size) { u3 with heap := pushCells (u3.heap.push { cls := .type "dict", data := .dict #[] }) scope.names }
  have nofp : ∀ b ∈ fp, (upd G2 D (dctO g0 D [])) b = none := fun b hb => (ff3 b hb).1.1
  generalize hce : compEnvC scope (cellsFrom (u3.heap.objs.size + 1) scope.names (cloFrom X.env.cells scope.names [])) u3.heap.objs.size X.env = ce at J4 pg pt pk pe ⊢
  have cL : ce.locals = u3.heap.objs.size := by subst hce; rfl
  generalize hG3 : upd G2 D (dctO g0 D []) = G3 at J3 J4 pg pt pk pe ww0 nofp ff3
  generalize hv4 : ({ u3 with heap := pushCells (u3.heap.push { cls := .type "dict", data := .dict #[] }) scope.names } : Shared) = u4 at J4 ⊢
  have stt4 : tn 0 u4.heap := T.keep _ _ _ stt3 fun b _ o e => by rw [← hv4]; exact pushCells_keeps _ _ _ _ (Heap.get?_push_of_some _ e)
  have fpst : ∀ {σ' : L2.St} {H' : Hp} {s' : Shared}, Inv (X.blk u3 G3 scope ce fp) [] σ' H' s' → (∀ b ∈ fp, H' b = none) → ∀ b ∈ fp, FpOk (X.blk u3 G3 scope ce fp) [] H' b := fun {σ' H' s'} I' hn b hb =>
    ⟨hn b hb, (I'.ok.exf b hb).1, I'.ok.exfs b hb, .inl hb, fun x c e => (I'.ok.exf b hb).2 x c e, fun p hp => absurd (show p ∈ ([] : List (Addr × Obj)) ++ [] from hp) (by simp)⟩
  have loop : codeAny (model X.prog X.w) X.A (.compLoop (.DictComp ke ve [⟨tg, iter, ifs, 0⟩] scope pos) 0 (.ref it) (.ref D) ce) (compPost (model X.prog X.w) X.A X.xe use Qf (.ref D) u3.heap.objs.size) u4 := by
    refine compLoop_anyD (fun n s' => ∃ i H', Inv (X.blk u3 G3 scope ce fp) [] (wipe σ (mine.map (·.2))) H' s' ∧ tn i s'.heap ∧ (∀ b ∈ fp, H' b = none) ∧ W i n H') ?_ mm0 ⟨0, G3, J4, stt4, nofp, ww0⟩
    rintro n u5 ⟨i, G5, J5, stt5, nn5, ww5⟩
    rcases step1 i n G5 ww5 with ⟨stop, qq⟩ | ⟨go, Nx, hNn, step2⟩
    · have td := T.done (X.blk u3 G3 scope ce fp) rfl rfl rfl hc i [] u5 _ G5 (fun _ _ => False) J5 (fpst J5 nn5) stt5 stop
      refine thnF td fun r u6 ⟨hr, J6⟩ => ?_
      subst hr
      -- back in the def's context
      have J7 : Inv X pins σ G5 u6 := J3.call' (ch := fp) J6.os J6.base J6.hok J6.bare fun b hb => ⟨(ff3 b hb).1.2.2.2.1, (ff3 b hb).1.2.1, (ff3 b hb).1.2.2.2.2.1, (ff3 b hb).1.2.2.2.2.2⟩
      have nC : G5 u3.heap.objs.size = none := by
        have z : G5 ce.locals = none := J6.free
        rw [cL] at z
        exact z
      obtain ⟨m, hn, _⟩ := J6.loc
      have hn : u6.heap.Ns ce.locals m := hn
      rw [cL] at hn
      exact hRR D u3.heap.objs.size u6 m G5 J7 qq hn (J3.fpOk (Nat.le_refl _) nC)
    · have ti := T.item (X.blk u3 G3 scope ce fp) rfl rfl rfl hc i [] u5 _ G5 (fun _ _ => False) J5 (fpst J5 nn5) stt5 go
      refine thnF ti fun r u6 ⟨u, hr, hh6⟩ => ?_
      subst hr
      refine thnF hh6 fun _ u7 ⟨x, G7, J7, rr7, yy7, stt7, nn7⟩ => ?_
      have I7' := J7.pinned (fpst J7 nn7) (T.obj _ _ stt7)
      refine thnF (pg.run _ u7 _ G7 x u _ I7' rr7 (step2 x G7 yy7)) fun _ u8 ⟨τ8, G8, J8, hx8, p8⟩ => ?_
      refine thnF (pt.run _ u8 τ8 G8 _ J8 p8) fun b u9 ⟨G9, J9, p9⟩ => ?_
      -- the turn's end
      have fin : ∀ {s' : Shared} {H' : Hp}, Inv (X.blk u3 G3 scope ce fp) ([] ++ pinsAt fp u7.heap) τ8 H' s' → Nx H' → ∃ m, m < n ∧ ∃ i H', Inv (X.blk u3 G3 scope ce fp) [] (wipe σ (mine.map (·.2))) H' s' ∧ tn i s'.heap ∧ (∀ b ∈ fp, H' b = none) ∧ W i m H' := fun {s' H'} I' nx => by
        obtain ⟨m', hm, w'⟩ := hNn H' nx
        have pin' : ∀ b ∈ fp, ∀ o, u7.heap.get? b = some o → s'.heap.get? b = some o ∧ H' b = none := fun b hb o e =>
          let z := I'.pin (b, o) (List.mem_append_right _ (List.mem_append_right _ (mem_pinsAt hb e)))
          ⟨z.1, z.2.1⟩
        have hl : (wipe σ (mine.map (·.2))).length = τ8.length := by rw [← hx8, wipe_length]
        refine ⟨m', hm, i + 1, H', (I'.unpinned (pins := [])).weak hl (fun j v e => ?_), T.keep _ _ _ stt7 fun b hb o e => (pin' b hb o e).1, fun b hb => ?_, w'⟩
        · rw [← hx8] at e
          exact (wipe_some e).1
        · obtain ⟨o, e, _⟩ := T.obj _ _ stt7 b hb
          exact (pin' b hb o e).2
      cases b with
      | false =>
        simp only [Bool.false_eq_true, if_false] at p9 ⊢
        exact fin J9 p9
      | true =>
        simp only [if_true] at p9 ⊢
        refine thnF (pk.run _ u9 τ8 G9 _ J9 p9) fun z u10 ⟨yk, G10, J10, rr10, p10⟩ => ?_
        refine thnF (pe.run _ u10 τ8 G10 _ J10 p10) fun z2 u11 ⟨yv, G11, J11, rr11, xs, k, b, ek, hE11, kh, kb, hdp, hy11, nx⟩ => ?_
        subst ek
        cases rr10
        exact d_setK (X := X.blk u3 G3 scope ce fp) J11 (ok0.blk u3 G3 scope ce fp) hE11 kh kb hdp hy11 rr11 fun u12 J12 => fin J12 nx
  exact codeAny_compStart_dict loop (T.self X.A 0 _ _ _ stt4 loop)
/-- as a value -/
theorem pe_dcK {ke ve tg iter : Expr} {ifs : List Expr} {scope : Scope} {mine : List (Str × Nat)} {pos : Pos} {g0 : Gs} {wi : TI} {gt : TG} {tt : TT} {tk tv : TE} (ok0 : Ok g0 X) (hc : X.calm = true) (hN : X.N.Nodup) (hi : PI X tg iter wi) (ok : BlkOk X.N X.env.scope scope mine)
    (hg : ∀ (s : Shared) (H : Hp) (C : Addr) (cl : List (Str × Addr)) (fp : List Addr), PG (X.blk s H scope (compEnvC scope cl C X.env) fp) tg gt) (ht : ∀ (s : Shared) (H : Hp) (C : Addr) (cl : List (Str × Addr)) (fp : List Addr), PTs (X.blk s H scope (compEnvC scope cl C X.env) fp) ifs tt)
    (hk : ∀ (s : Shared) (H : Hp) (C : Addr) (cl : List (Str × Addr)) (fp : List Addr), PE (X.blk s H scope (compEnvC scope cl C X.env) fp) ke tk)
    (he : ∀ (s : Shared) (H : Hp) (C : Addr) (cl : List (Str × Addr)) (fp : List Addr), PE (X.blk s H scope (compEnvC scope cl C X.env) fp) ve tv) (hs : ∀ x, foldedSetIterable iter X.env x = pure x := by intro _; rfl) :
    PE X (.DictComp ke ve [⟨tg, iter, ifs, 0⟩] scope pos) (tDcK g0 wi gt tt tk tv (mine.map (·.2))) := by
  refine ⟨fun pins s σ H Q I h => ?_⟩
  rw [arm_eval_DictComp]
  refine dk_core ok0 hc hN I hi ok hg ht hk he hs h fun D C s' m H' I' q hn f => ⟨m, hn, fun h'' sb => ?_⟩
  obtain ⟨ff0, ff1, ff2, ff3, ff4, ff5⟩ := f
  exact ⟨.ref D, H', I'.turned (t' := s'.toks) (fun b o hb e => (sb.2 b hb).trans e) ff0 ff1 ff3 ff4 ff5, rfl, q⟩
end

def dcL (t : Tg) (mt : Et) (mk mv : Ev) (σ : Sl) : List D → List D × List D → Bs → Rs (List D × List D)
  | [], acc, B => .ok acc B
  | d :: ds, acc, B => match t d σ with
    | some σ' => (mt σ' B).bind fun k B1 => if k then (mk σ' B1).bind fun kd B2 => (mv σ' B2).bind fun vd B3 => (match dPut acc.1 acc.2 kd vd with
        | some acc' => dcL t mt mk mv σ ds acc' B3
        | Option.none => .bad) else dcL t mt mk mv σ ds acc B1
    | Option.none => .bad
def mDc (vs : List Nat) (t : Tg) (mi : Ei) (mt : Et) (mk mv : Ev) : Ev := fun σ B => (mi σ B).bind fun ds B1 => (noX (dcL t mt mk mv (wipeI σ vs) ds ([], []) B1)).bind fun r B2 => .ok (.dct r.1 r.2) B2
theorem dcL_cons {t : Tg} {mt : Et} {mk mv : Ev} {σ : Sl} {d : D} {ds : List D} {acc r : List D × List D} {B B' : Bs} (h : dcL t mt mk mv σ (d :: ds) acc B = .ok r B') :
    ∃ σ' k B1, t d σ = some σ' ∧ mt σ' B = .ok k B1 ∧ ((k = true ∧ ∃ kd B2 vd B3 acc', mk σ' B1 = .ok kd B2 ∧ mv σ' B2 = .ok vd B3 ∧ dPut acc.1 acc.2 kd vd = some acc' ∧ dcL t mt mk mv σ ds acc' B3 = .ok r B') ∨ (k = false ∧ dcL t mt mk mv σ ds acc B1 = .ok r B')) := by
  simp only [dcL] at h
  cases e1 : t d σ with
  | none => rw [e1] at h; cases h
  | some σ' =>
    rw [e1] at h
    simp only at h
    cases e2 : mt σ' B with
    | bad => rw [e2] at h; cases h
    | exc _ _ _ => rw [e2] at h; cases h
    | ok k B1 =>
      rw [e2] at h
      simp only [Rs.bind] at h
      refine ⟨σ', k, B1, rfl, e2, ?_⟩
      cases k with
      | false => exact .inr ⟨rfl, h⟩
      | true =>
        simp only [if_true] at h
        cases e3 : mk σ' B1 with
        | bad => rw [e3] at h; cases h
        | exc _ _ _ => rw [e3] at h; cases h
        | ok kd B2 =>
          rw [e3] at h
          simp only at h
          cases e4 : mv σ' B2 with
          | bad => rw [e4] at h; cases h
          | exc _ _ _ => rw [e4] at h; cases h
          | ok vd B3 =>
            rw [e4] at h
            simp only at h
            cases e5 : dPut acc.1 acc.2 kd vd with
            | none => rw [e5] at h; cases h
            | some acc' =>
              rw [e5] at h
              exact .inl ⟨rfl, kd, B2, vd, B3, acc', rfl, e4, e5, h⟩
section
variable {g : Gs} {E : XK} {w0 w : Wd} {H H0 : Hp} {σI : Sl} {σ : L2.St} {B : Bs} {X : Cx}
def DcInv (g : Gs) (H0 : Hp) (w : Wd) (H : Hp) (w1 : Wd) (σI : Sl) (σ : L2.St) (vs : List Nat) (t : Tg) (mt : Et) (mk mv : Ev) (ds : List D) (r : List D × List D) (B' : Bs) (Da : Addr) (i : Nat) (H' : Hp) : Prop :=
  ∃ w' B2 acc xs, Ext w H w' H' ∧ Le w1 w' ∧ S0 g H0 w' σI B2 σ H' ∧ H' Da = some (dctO g Da xs) ∧ DC g w' acc.1 acc.2 xs ∧ w'.P Da = Option.none ∧ (∀ n, w'.io n ≠ some Da) ∧ (∀ (j : Nat) (e : D), σI[j]? = some (some (true, e)) → σ[j]? ≠ some (some (V.ref Da))) ∧
    dcL t mt mk mv (wipeI σI vs) (ds.drop i) acc B2 = .ok r B'
theorem dc_at {t : Tg} {mi : Ei} {mt : Et} {mk mv : Ev} {sl vs : List Nat} {wi : TI} (hwi : wi = tIi g E H0 mi) (hsl : ∀ j ∈ sl, j ∈ vs) {Q : VK} (s : S0 g H0 w σI B σ H) (p : PostE g E w H σI σ false Q (mDc vs t mi mt mk mv σI B)) :
    tDcK g wi (tG g H0 t sl) (tIt g E0 H0 mt) (tI g E0 H0 false mk) (tI g E0 H0 false mv) vs σ H Q := by
  subst hwi
  refine ⟨w, σI, B, s, ?_⟩
  unfold mDc at p
  cases q : mi σI B with
  | bad => rw [q] at p; exact p
  | exc c y B1 => rw [q] at p; exact p
  | ok ds B1 =>
    rw [q] at p
    simp only [Rs.bind] at p
    intro w1 J H1 x1 rb1 it D hD
    have s1 := s.step x1 rb1
    cases q2 : dcL t mt mk mv (wipeI σI vs) ds ([], []) B1 with
    | bad => rw [q2] at p; exact p.elim
    | exc c y B1 => rw [q2] at p; exact p.elim
    | ok r B' =>
      rw [q2] at p
      simp only [noX] at p
      have nD : H D = Option.none := Classical.byContradiction fun z => x1.there D z hD
      have start : DcInv g H0 w H w1 σI σ vs t mt mk mv ds r B' D 0 (upd H1 D (dctO g D [])) :=
        ⟨w1, B1, ([], []), [], x1.mut nD, Le.refl _, s1.other (s1.rb.fresh_P hD) (s1.rb.fresh_io hD) (fun j e hj => s1.own_ne hj hD), upd_same, DC.nil, s1.rb.fresh_P hD, s1.rb.fresh_io hD, fun j e hj => s1.own_ne hj hD, by simpa using q2⟩
      refine ⟨fun i m H' => m = ds.length - i ∧ i ≤ ds.length ∧ DcInv g H0 w H w1 σI σ vs t mt mk mv ds r B' D i H', ⟨ds.length, by simp, Nat.zero_le _, start⟩, ?_⟩
      rintro i m H' ⟨rfl, hi, w', B2, acc, xs, x', l', s', eD, dc, np, nb, nw, q3⟩
      by_cases hlt : i < ds.length
      · refine .inr ⟨it.go i H' hlt (l'.P.trans s'.rb.sub), DcInv g H0 w H w1 σI σ vs t mt mk mv ds r B' D (i + 1), fun H2 q => ⟨ds.length - (i + 1), by omega, rfl, hlt, q⟩, fun y H2 yl => ?_⟩
        obtain ⟨w2, x2, rb2, r2⟩ := it.yld i H' y H2 ds[i] w' B2 (List.getElem?_eq_getElem hlt) l' s'.rb yl
        have s2 := s'.step x2 rb2
        rw [List.drop_eq_getElem_cons hlt] at q3
        obtain ⟨σ', k, B3, et, em, q4⟩ := dcL_cons q3
        refine ⟨w2, ds[i], wipeI σI vs, B2, σ', s2.wipe vs, r2, et, fun σ2 s3 hl hk => ⟨(wipe_eq hl fun j hj => hk j fun z => hj (hsl j z)).trans (wipe_wipe _ _), ?_⟩⟩
        have keep : ∀ {wa wb : Wd} {Ha Hb : Hp}, Ext wa Ha wb Hb → Ha D = some (dctO g D xs) → wa.P D = Option.none → (∀ n, wa.io n ≠ some D) → Hb D = some (dctO g D xs) ∧ wb.P D = Option.none ∧ ∀ n, wb.io n ≠ some D := by
          intro wa wb Ha Hb x e n1 n2
          refine ⟨x.keep D _ e n2, ?_, fun n z => ?_⟩
          · cases q : wb.P D with
            | none => rfl
            | some u =>
              rcases x.pf D u q with z | z
              · rw [n1] at z; cases z
              · rw [e] at z; cases z
          · rcases x.iof n D z with z | z
            · exact n2 n z
            · rw [e] at z; cases z
        obtain ⟨eD2, np2, nb2⟩ := keep x2 eD np nb
        refine tIt_go s3 (fun c x B1 q => by rw [em] at q; cases q) (by rw [em]; simp) fun k' B4 q5 w3 H3 x3 s4 => ?_
        rw [em] at q5; cases q5
        obtain ⟨eD3, np3, nb3⟩ := keep x3 eD2 np2 nb2
        have sO := (s2.step x3 s4.rb)
        rcases q4 with ⟨rfl, kd, B5, vd, B6, acc', e1, e2, e3, e4⟩ | ⟨rfl, e2⟩
        · rw [if_pos rfl]
          refine tI_go s4 (fun c x B1 q => by rw [e1] at q; cases q) (by rw [e1]; simp) fun d B7 q6 w4 v H4 x4 s5 r4 => ?_
          rw [e1] at q6; cases q6
          obtain ⟨eD4, np4, nb4⟩ := keep x4 eD3 np3 nb3
          refine tI_go s5 (fun c x B1 q => by rw [e2] at q; cases q) (by rw [e2]; simp) fun d' B8 q7 w5 v' H5 x5 s6 r5 => ?_
          rw [e2] at q7; cases q7
          obtain ⟨eD5, np5, nb5⟩ := keep x5 eD4 np4 nb4
          have hk : ∃ k, keyT kd = some k := by
            unfold dPut at e3
            cases hk : keyT kd with
            | none => rw [hk] at e3; cases e3
            | some k => exact ⟨k, rfl⟩
          obtain ⟨k, hk⟩ := hk
          obtain ⟨⟨ts, rfl⟩, hn, hd⟩ := keyT_ok hk
          have r4' : Rep g w5 (.tup ts) v := Rep.mono x5.le _ _ r4
          have rr := r4'
          simp only [Rep] at rr
          obtain ⟨b, _, rfl, _⟩ := rr
          have r5' : Rep g w5 vd v' := r5
          have l5 : Le w' w5 := ((x2.le.trans x3.le).trans x4.le).trans x5.le
          have dc5 := dc.mono l5
          obtain ⟨dc6, hz⟩ := dc5.put r4' r5' hk e3
          exact ⟨xs, k, b, rfl, eD5, dc5.keys s6.rb.sub, ⟨w5, _, s6.rb.sub, r4', hn⟩, hd, hz, w5, B6, acc', _, ((((x'.trans x2).trans x3).trans x4).trans x5).mut nD, l'.trans l5, ((sO.step x4 s5.rb).step x5 s6.rb).other np5 nb5 nw, upd_same, dc6, np5, nb5, nw, e4⟩
        · rw [if_neg (by simp)]
          exact ⟨w3, B3, acc, xs, (x'.trans x2).trans x3, (l'.trans x2.le).trans x3.le, sO, eD3, dc.mono (x2.le.trans x3.le), np3, nb3, nw, e2⟩
      · rw [List.drop_eq_nil_of_le (by omega)] at q3
        simp only [dcL] at q3
        cases q3
        obtain ⟨xx, rb'⟩ := reg_ext x' s'.rb eD nD np nb
        refine .inl ⟨it.stop i H' (by omega) (l'.P.trans s'.rb.sub), p (regW w' D (dctO g D xs)) _ H' xx rb' ?_⟩
        have dc' := dc.mono (regLe w' (o := dctO g D xs) np)
        simp only [RepB, Rep]
        exact ⟨D, xs, rfl, upd_same, dc'⟩
variable {kx vx tg iter : Expr} {ifs : List Expr} {scope : Scope} {own : List (Str × Nat)} {pos : Pos} {t : Tg} {mi : Ei} {mt : Et} {mk mv : Ev} {sl : List Nat}
theorem s_dc (c : Ok g X) (hN : X.N.Nodup) (hi : SndI g E H0 X tg iter mi) (ok : BlkOk X.N X.env.scope scope own) (hsl : ∀ j ∈ sl, j ∈ own.map (·.2))
    (hg : ∀ (s : Shared) (H : Hp) (C : Addr) (cl : List (Str × Addr)) (fp : List Addr), SndG g H0 (X.blk s H scope (compEnvC scope cl C X.env) fp) tg t sl) (ht : ∀ (s : Shared) (H : Hp) (C : Addr) (cl : List (Str × Addr)) (fp : List Addr), SndTs g E0 H0 (X.blk s H scope (compEnvC scope cl C X.env) fp) ifs mt)
    (hk : ∀ (s : Shared) (H : Hp) (C : Addr) (cl : List (Str × Addr)) (fp : List Addr), Snd g E0 H0 (X.blk s H scope (compEnvC scope cl C X.env) fp) false kx mk)
    (he : ∀ (s : Shared) (H : Hp) (C : Addr) (cl : List (Str × Addr)) (fp : List Addr), Snd g E0 H0 (X.blk s H scope (compEnvC scope cl C X.env) fp) false vx mv) (hs : ∀ x, foldedSetIterable iter X.env x = pure x := by intro _; rfl) :
    Snd g E H0 X false (.DictComp kx vx [⟨tg, iter, ifs, 0⟩] scope pos) (mDc (own.map (·.2)) t mi mt mk mv) :=
  weak (pe_dcK c c.calm hN hi ok hg ht hk he hs) fun σ H Q ⟨w, σI, B, s, p⟩ => dc_at rfl hsl s p
end
end Hf

set_option Elab.async false
set_option linter.all false
set_option maxRecDepth 100000
set_option maxHeartbeats 4000000
namespace Hf
open PySem PySem.Spec PyProof.Rows L2

/-! ### special methods of one's own classes -/
section
variable {X : Cx} {CX : CXT} {k : Nat} {fa : Addr} {sp : Sp} {E : XK} {pins : List (Addr × Obj)} {σ : L2.St} {H : Hp} {s : Shared} {Q : VK} {us : List Value} {vs : List V} {A' : Around}
theorem run_at (F : FnR X.prog X.w X.K X.mg X.base CX k fa sp) (hr : Room k A') (e0 : Env0 X.prog X.w X.K X.mg X.base A' X.stack s H) (hx : Passes CX X E) (I : Inv X pins σ H s) (r : Vals vs us) (h : sp vs H Q E) :
    wpAny (model X.prog X.w) A' (call (.ref fa) us) (EP X pins σ Q) X.xe s := by
  refine wpAny_call (codeAny_mono (F A' X.stack s H us vs Q E hr e0 r h) fun r s' hq => ?_)
  cases r with
  | error e => exact hx pins σ H s e s' I hq
  | ok fl =>
    cases fl with
    | ret u => exact I.after hq
    | next | brk | cont => exact False.elim hq
theorem run_nox {E' : Value → Shared → Prop} (F : FnR X.prog X.w X.K X.mg X.base (L2.CX X.prog X.w) k fa sp) (hr : Room k A') (e0 : Env0 X.prog X.w X.K X.mg X.base A' X.stack s H) (I : Inv X pins σ H s) (r : Vals vs us) (h : sp vs H Q E0) :
    wpAny (model X.prog X.w) A' (call (.ref fa) us) (EP X pins σ Q) E' s := by
  refine wpAny_call (codeAny_mono (F A' X.stack s H us vs Q E0 hr e0 r h) fun r s' hq => ?_)
  cases r with
  | error e =>
    obtain ⟨_, _, _, _, _, _, _, _, _, _, _, _, z⟩ := hq
    exact z.elim
  | ok fl =>
    cases fl with
    | ret u => exact I.after hq
    | next | brk | cont => exact False.elim hq
end
/-- c has the special method n, a def that means f -/
def Dun (g : Gs) (k c : Nat) (n : Str) (f : Fn) : Prop := ∃ fa, FnR g.prog g.w g.K g.mg g.base (L2.CX g.prog g.w) k fa (spF g f) ∧ PySem.W.findIn g.K (.ref (g.cl c)) n = some (some (.ref fa)) ∧ PySem.W.isFn g.K (.ref fa) = true ∧ g.has c = true
theorem zip_none {α β : Type} [BEq α] [LawfulBEq α] {n : α} : ∀ {l : List α} (_ : n ∉ l) (vs : List β), (l.zip vs).lookup n = Option.none
  | [], _, vs => by simp
  | a :: l, h, [] => by simp
  | a :: l, h, v :: vs => by
    rw [List.mem_cons, not_or] at h
    rw [List.zip_cons_cons, List.lookup_cons]
    have : (n == a) = false := beq_eq_false_iff_ne.mpr h.1
    rw [this]
    exact zip_none h.2 vs
section
variable {g : Gs} {E : XK} {w0 w : Wd} {H0 H : Hp} {X : Cx} {o e a b : Expr} {es : List Expr} {m ma mb : Ev} {ms : Evs} {pos p p1 p2 apos : Pos} {x n : Str} {f : Fn} {lv k c : Nat} {dfl : List D} {σI : Sl} {σ : L2.St} {B : Bs} {Q : VK} {b1 b2 bo : Bool} {i : Nat}
/-- an instance, where it stands -/
theorem inst_at {pins : List (Addr × Obj)} {σ : L2.St} {H : Hp} {s : Shared} {a C dx : Addr} {fs : List (Str × V)} (I : Inv X pins σ H s) (h : H a = some (.ins C dx fs)) : ∃ od, PySem.W.InstAt s.heap a (PySem.W.instObj C dx) C (some od) := by
  obtain ⟨mA, O, _⟩ := ins_get I.hok h
  obtain ⟨od, J, _⟩ := O.look
  exact ⟨od, J⟩
def lenOk (r : Rs D) : Rs D := match r with
  | .ok (.int i) B => if 0 ≤ i ∧ i < 2 ^ 63 then .ok (.int i) B else .bad
  | _ => .bad
/-- len(x), also of an own instance -/
def fLenA (c : Nat) (f : Fn) : D → Bs → Rs D
  | .inst c' ds, B => if c' = c then lenOk (f [.inst c' ds] B) else .bad
  | d, B => fLen d B
def rLenC (g : Gs) (c : Nat) (f : Fn) : List V → Hp → VK → Prop := fun xs H Q => ∃ a dx fs, xs = [.ref a] ∧ H a = some (.ins (g.cl c) dx fs) ∧ spF g f [.ref a] H (fun v H' => ∃ i, v = .int i ∧ 0 ≤ i ∧ i < 2 ^ 63 ∧ Q (.int i) H') E0
theorem call_lenC (ok : OkC g E lv X) (N : Dun g k c "__len__" f) (hk : k + 1 ≤ lv) : CallR X (.builtin "len") (rLenC g c f) := by
  intro pins s σ H xs us Q I r h
  obtain ⟨a, dx, fs, rfl, ha, h⟩ := h
  obtain ⟨u, rfl, ru⟩ := vals1 r
  cases ru
  obtain ⟨fa, F, hf, hfn, hc⟩ := N
  obtain ⟨prog, w', K, mg, base, A, N, s_0, H_0, env, outer, stack, ex, fn, calm, pn, xe⟩ := X
  obtain ⟨⟨h1, h2, h3, h4, h5, h6, h7, hfx⟩, h8, h9⟩ := ok
  simp only at h1 h2 h5 h6 h7
  subst h1 h2 h5 h6 h7
  obtain ⟨od, J⟩ := inst_at I ha
  have hr := (h8.mono hk).in1
  refine Calls.call_function_entry kind_len plain_len entry_len (args_len1 _) (by
    unfold Builtin.«len»
    refine wpAny_bind (m := oneArg "len" _) (wpAny_pure (wpAny_bind (m := callSpecial? (.ref a) (Str.ofString "__len__")) (PySem.W.special_fn I.kIn J hf (beq_iff_eq.mp hfn) (wpAny_mono (run_nox (E' := _) (us := [.ref a]) (vs := [.ref a]) F hr I.env0.in1 I (.cons rfl .nil) h) (fun r s' hr => ?_) fun _ _ y => y))))
    obtain ⟨v, H', I', rv, i, rfl, h0, h1, q⟩ := hr
    obtain ⟨t, rfl⟩ := rv
    refine wpAny_bind (wpAny_holding (wpAny_pure (wpAny_bind (wpAny_letGo ?_))))
    show wpAny _ _ (if i < 0 then _ else if i ≥ 2 ^ 63 then _ else _) _ _ _
    rw [if_neg (Int.not_lt.mpr h0), if_neg (by omega)]
    exact wpAny_bind (wpAny_mkInt (wpAny_pure ⟨_, rfl, ⟨.int i, H', I'.tok _, ⟨_, rfl⟩, q⟩⟩)))
theorem lenOk_go {d : D} {r : Rs D} (p : PostE g E w H σI σ false Q (lenOk r)) : PostC g E0 w H (fun v H' => ∃ i, v = .int i ∧ 0 ≤ i ∧ i < 2 ^ 63 ∧ Q (.int i) H') r := by
  unfold lenOk at p
  split at p
  · split at p
    · rename_i i B h
      intro w' v H' x rb rr
      simp only [Rep] at rr
      exact ⟨i, rr, h.1, h.2, p w' (.int i) H' x rb (rep_int g w' i)⟩
    · exact p.elim
  · exact p.elim
theorem s_lenA (ok : OkC g E lv X) (N : Dun g k c "__len__" f) (hk : k + 1 ≤ lv) (he : Snd g E H0 X false e m) (hg : Gl X "len" := by rfl) (h1 : starEach (e :: []) X.env = (false, eval e X.env) :: starEach [] X.env := by rfl) :
    Snd g E H0 X false (.Call (.Name "len" p1) [e] [] pos) (m1 (fLenA c f) m) := by
  obtain ⟨r, hc, hr⟩ : One g E H0 X (.builtin "len") fLen := o_len ok.toOk
  refine weak (pe_callB ((call_lenC ok N hk).or hc) hg (nbs ok.toOk) PySem.boot_len (pa_cons he pa_nil h1) (by decide) (by decide) h1 rfl) ?_
  rintro σ H Q ⟨w, σI, B, s, p⟩
  refine tI_bind s p fun d B1 w1 v H1 x1 s1 r1 p1 => ?_
  unfold fLenA at p1
  split at p1
  · rename_i c' ds
    split at p1
    · rename_i hc'
      subst hc'
      obtain ⟨a, dx, vs, rfl, ha, hl, hh, rr⟩ := (RepB.up r1).inst s1
      exact .inl ⟨a, dx, _, rfl, ha, w1, _, B1, s1.rb, Reps.one r1, lenOk_go (d := .none) p1⟩
    · exact p1.elim
  · exact .inr (hr w1 σI B1 σ H1 Q v d s1 r1.up p1)
/-- -x of an own instance -/
def mNegC (c : Nat) (f : Fn) (m : Ev) : Ev := fun σ B => (m σ B).bind fun d B1 => match d with
  | .inst c' ds => if c' = c then f [.inst c' ds] B1 else .bad
  | _ => .bad
def rNegC (g : Gs) (E : XK) (c : Nat) (f : Fn) : V → Hp → VK → Prop := fun x H Q => ∃ a dx fs, x = .ref a ∧ H a = some (.ins (g.cl c) dx fs) ∧ spF g f [.ref a] H Q E
theorem un_negC (ok : OkC g E lv X) (N : Dun g k c "__neg__" f) (hk : k ≤ lv) : UnR X (unaryOp .USub) (rNegC g E c f) := by
  intro pins s σ H x v Q I r h
  obtain ⟨a, dx, fs, rfl, ha, h⟩ := h
  cases r
  obtain ⟨fa, F, hf, hfn, hc⟩ := N
  obtain ⟨prog, w', K, mg, base, A, N, s_0, H_0, env, outer, stack, ex, fn, calm, pn, xe⟩ := X
  obtain ⟨⟨h1, h2, h3, h4, h5, h6, h7, hfx⟩, h8, h9⟩ := ok
  simp only at h1 h2 h5 h6 h7
  subst h1 h2 h5 h6 h7
  obtain ⟨od, J⟩ := inst_at I ha
  unfold unaryOp
  exact wpAny_holding (wpAny_bind (PySem.W.special_fn I.kIn J hf (beq_iff_eq.mp hfn) (wpAny_mono (run_at (us := [.ref a]) (vs := [.ref a]) F (h8.mono hk) I.env0 h9 I (.cons rfl .nil) h) (fun r s' hr => wpAny_pure hr) fun _ _ y => y)))
theorem s_negC (ok : OkC g E lv X) (N : Dun g k c "__neg__" f) (hk : k ≤ lv) (he : Snd g E H0 X false e m) : Snd g E H0 X false (.UnaryOp .USub e pos) (mNegC c f m) := by
  refine weak (pe_un (un_negC ok N hk) he) ?_
  rintro σ H Q ⟨w, σI, B, s, p⟩
  refine tI_bind s p fun d B1 w1 v H1 x1 s1 r1 p1 => ?_
  split at p1
  · rename_i c' ds
    split at p1
    · rename_i hc'
      subst hc'
      obtain ⟨a, dx, vs, rfl, ha, hl, hh, rr⟩ := (RepB.up r1).inst s1
      exact ⟨a, dx, _, rfl, ha, w1, _, B1, s1.rb, Reps.one r1, PostC.of s1 p1⟩
    · exact p1.elim
  · exact p1.elim
/-! ### o.m(e, ..) -/
theorem s_mth (ok : OkC g E lv X) {n : Str} (D : Mth g k c n dfl f) (hk : k ≤ lv) (ho : Snd g E H0 X false o m) (ha : Snds g E H0 X (e :: es) ms) {pl : Sem Bool}
    (hst : starEach (e :: es) X.env = (false, eval e X.env) :: starEach es X.env := by rfl) (hpl : (backTo pos (starEach es X.env)).any (·.1) = false := by rfl)
    (ht : eval (.Call (.Attribute o n apos) (e :: es) [] pos) X.env = (do
      let ov ← eval o X.env
      standAt apos.atName
      let (f, first) ← holding [ov] (getMethod ov n pl)
      callWith pos f first (backTo pos (starEach (e :: es) X.env)) (backToKw pos (keywordEach [] X.env))) := by rfl) :
    Snd g E H0 X false (.Call (.Attribute o n apos) (e :: es) [] pos) (mMth c f dfl m ms) := by
  obtain ⟨fa, fd, ps, dvs, ds, F, hm, b, hd, hr, hn, hc⟩ := D
  have C := ok.fx.cls _ hc
  obtain ⟨prog, w', K, mg, base, A, N, s_0, H_0, env, outer, stack, ex, fn, calm, pn, xe⟩ := X
  obtain ⟨⟨h1, h2, h3, h4, h5, h6, h7, hfx⟩, h8, h9⟩ := ok
  simp only at h1 h2 h5 h6 h7
  subst h1 h2 h5 h6 h7
  refine weak (pe_meth ho C.cls hm F (h8.mono hk) b hd h9 ha hst hpl ht) ?_
  rintro σ H Q ⟨w, σI, B, s, p⟩
  refine tI_bind s p fun d B1 w1 v H1 x1 s1 r1 p1 => ?_
  split at p1
  · rename_i c' es'
    split at p1
    · rename_i hc'
      subst hc'
      obtain ⟨a, dx, vs, rfl, ha, hl, hh, rr⟩ := (RepB.up r1).inst s1
      refine ⟨a, dx, _, rfl, ha, zip_none hn vs, tIs_bind s1 p1 fun ds2 B2 w2 vs2 H2 x2 s2 r2 p2 => ?_⟩
      exact ⟨w2, _, B2, s2.rb, by simp only [Reps]; exact ⟨_, _, rfl, Rep.mono x2.le _ _ r1, Reps.app r2 (hr w2)⟩, PostC.of s2 p2⟩
    · exact p1.elim
  · exact p1.elim
end
end Hf

set_option Elab.async false
set_option linter.all false
set_option maxRecDepth 100000
set_option maxHeartbeats 4000000
namespace Hf
open PySem PySem.Spec PyProof.Rows L2

/-! ### instances are made -/
section
variable {g : Gs} {E : XK} {w w' : Wd} {H H' : Hp} {B : Bs} {m : Option Addr}
theorem Ext.withMe (x : Ext { w with me := m } H w' H') : Ext w H { w' with me := w.me } H' := ⟨⟨x.le.P, x.le.io⟩, x.keep, x.pf, x.iof, x.there, rfl⟩
theorem leMe : Le w { w with me := m } := ⟨Same.refl _, fun _ _ h => h⟩
theorem RB.withMe (rb : RB g w B H) : RB g { w with me := m } B H := rb.keep leMe rfl rb.sub (Same.refl _) rb.np
theorem ExcR.withMe {c : Nat} {x : Option D} {cls : Value} {dd : Option Addr} (h : ExcR g w c x cls dd H) : ExcR g { w with me := m } c x cls dd H := by
  unfold ExcR at h ⊢
  refine ⟨h.1, ?_⟩
  cases x with
  | none => trivial
  | some d =>
    obtain ⟨a, v, h1, h2, h3⟩ := h.2
    exact ⟨a, v, h1, h2, Rep.mono leMe _ _ h3⟩
end
/-- what is wanted of an __init__'s end -/
def PostN (g : Gs) (E : XK) (x : Addr) (w : Wd) (H : Hp) (Q : VK) : Rs D → Prop
  | .ok d B' => ∀ w' H', Ext w H w' H' → RB g w' B' H' → Rep g w' d (.ref x) → Q .non H'
  | .exc c y B' => ∀ w' cls dd H', Ext w H w' H' → RB g w' B' H' → ExcR g w' c y cls dd H' → E cls dd H'
  | .bad => False
/-- the promise of an __init__: what is made of the arguments -/
def spI (g : Gs) (c : Nat) (f : Fn) : Sp := fun vs H Q E => ∃ x dx ws H1 w ds B, vs = V.ref x :: ws ∧ H = upd (upd H1 dx (.own x)) x (.ins (g.cl c) dx []) ∧ H1 x = Option.none ∧ H1 dx = Option.none ∧ dx ≠ x ∧ RB g w B H1 ∧ Reps g w ds ws ∧ PostN g E x w H1 Q (f ds B)
/-- calls of the class c make instances as f says -/
def Ini (g : Gs) (k c : Nat) (f : Fn) : Prop := ∃ fI, L2.Mk g.K (g.cl c) fI ∧ FnR g.prog g.w g.K g.mg g.base (L2.CX g.prog g.w) k fI (spI g c f) ∧ g.has c = true
section
variable {g : Gs} {E : XK} {w0 w : Wd} {H0 H : Hp} {X : Cx} {o e a b : Expr} {es : List Expr} {m ma mb : Ev} {ms : Evs} {pos p p1 p2 apos : Pos} {x n : Str} {f : Fn} {lv k c : Nat} {dfl : List D} {σI : Sl} {σ : L2.St} {B : Bs} {Q : VK} {b1 b2 bo : Bool} {i : Nat}
theorem make_go {ds : List D} {ws : List V} (rb : RB g w B H) (r : Reps g w ds ws) (p : PostC g E w H Q (f ds B)) : ∀ x dx, H x = Option.none → H dx = Option.none → dx ≠ x →
    spI g c f (V.ref x :: ws) (upd (upd H dx (.own x)) x (.ins (g.cl c) dx [])) (fun v H2 => v = .non ∧ Q (.ref x) H2) E := by
  intro x dx h1 h2 h3
  refine ⟨x, dx, ws, H, w, ds, B, rfl, rfl, h1, h2, h3, rb, r, ?_⟩
  revert p
  generalize f ds B = q
  intro p
  cases q with
  | ok d B' => exact fun w' H' y rb' rr => ⟨rfl, p w' _ H' y rb' rr⟩
  | exc c y B' => exact p
  | bad => exact p
def mMake (f : Fn) (ms : Evs) : Ev := fun σ B => (ms σ B).bind fun ds B1 => f ds B1
theorem s_make (ok : OkC g E lv X) (N : Ini g k c f) (C : ClsN g c x) (hk : k + 1 ≤ lv) (ha : Snds g E H0 X (e :: es) ms) (hg : Gl X x := by rfl) (hdb : (x == ("__debug__" : Str)) = false := by decide) (he : starEach (e :: es) X.env = (false, eval e X.env) :: starEach es X.env := by rfl) (hpl : (backTo pos (starEach es X.env)).any (·.1) = false := by rfl) :
    Snd g E H0 X false (.Call (.Name x p) (e :: es) [] pos) (mMake f ms) := by
  obtain ⟨fI, M, F, hc⟩ := N
  obtain ⟨prog, w', K, mg, base, A, N, s_0, H_0, env, outer, stack, ex, fn, calm, pn, xe⟩ := X
  obtain ⟨⟨h1, h2, h3, h4, h5, h6, h7, hfx⟩, h8, h9⟩ := ok
  simp only at h1 h2 h5 h6 h7
  subst h1 h2 h5 h6 h7
  refine weak (StX.pe_makeR M F (h8.mono hk) hg C.mg h9 ha hdb he hpl) ?_
  rintro σ H Q ⟨w, σI, B, s, p⟩
  exact tIs_bind s p fun ds B1 w1 vs H1 x1 s1 r1 p1 => make_go s1.rb r1 (PostC.of s1 p1)
/-- C(*e): the items of e -/
def mMakeS (f : Fn) (m : Ev) : Ev := fun σ B => (m σ B).bind fun d B1 => match d with
  | .tup ds => f ds B1
  | .lst ds => f ds B1
  | _ => .bad
theorem pe_makeS {C fI : Addr} {sp : Sp} {te : TE} {sp_ : Pos} (M : L2.Mk X.K C fI) (F : FnR X.prog X.w X.K X.mg X.base (L2.CX X.prog X.w) k fI sp) (hr : Room (k + 1) X.A) (hx : Passes (L2.CX X.prog X.w) X E) (he : PE X e te)
    (hst : starEach [.Starred e sp_] X.env = [(true, eval e X.env)]) (pins : List (Addr × Obj)) (s : Shared) (σ : L2.St) (H : Hp) (I : Inv X pins σ H s)
    (h : te σ H fun y H1 => ∃ a xs, y = V.ref a ∧ (SqT X.K H1 a xs ∨ SqL X.K H1 a xs) ∧ ∀ x dx, H1 x = Option.none → H1 dx = Option.none → dx ≠ x → sp (V.ref x :: xs) (upd (upd H1 dx (.own x)) x (.ins C dx [])) (fun v H2 => v = .non ∧ Q (.ref x) H2) E) :
    wpAny (model X.prog X.w) X.A (callWith pos (.ref C) [] (backTo pos (starEach [.Starred e sp_] X.env)) (backToKw pos (keywordEach [] X.env))) (EP X pins σ Q) X.xe s := by
  refine PySem.W.callWith_S (h₀ := X.base) I.ok.mod.kin M.kp (thn (he.run pins s σ H _ I h) fun v s1 ⟨y, H1, I1, ry, a, xs, ey, hxs, q⟩ => ?_) hst
  subst ey
  obtain rfl : v = Value.ref a := ry
  exact StX.star_any I1 hxs fun us s2 I2 rv => ⟨I2.kIn, StX.run_makeR M F hr hx I2 rv q⟩
theorem s_makeS {sp_ : Pos} (ok : OkC g E lv X) (N : Ini g k c f) (C : ClsN g c x) (hk : k + 1 ≤ lv) (he : Snd g E H0 X b1 e m) (hg : Gl X x := by rfl) (hdb : (x == ("__debug__" : Str)) = false := by decide) (hst : starEach [.Starred e sp_] X.env = [(true, eval e X.env)] := by rfl) :
    Snd g E H0 X false (.Call (.Name x p) [.Starred e sp_] [] pos) (mMakeS f m) := by
  obtain ⟨fI, M, F, hc⟩ := N
  obtain ⟨prog, w', K, mg, base, A, N, s_0, H_0, env, outer, stack, ex, fn, calm, pn, xe⟩ := X
  obtain ⟨⟨h1, h2, h3, h4, h5, h6, h7, hfx⟩, h8, h9⟩ := ok
  simp only at h1 h2 h5 h6 h7
  subst h1 h2 h5 h6 h7
  refine ⟨fun pins s σ H Q I ⟨w, σI, B, s0, p⟩ => ?_⟩
  refine wpAny_Call_Name_kw (ld_glob I hg C.mg ?_ hdb)
  refine pe_makeS M F (h8.mono hk) h9 he hst pins s σ H I ?_
  refine tI_bind s0 p fun d B1 w1 v H1 x1 s1 r1 p1 => ?_
  split at p1
  · rename_i ds
    obtain ⟨a, vs, rfl, q, r⟩ := r1.up.tup s1
    exact ⟨a, vs, rfl, .inl q, make_go s1.rb r (PostC.of s1 p1)⟩
  · rename_i ds
    obtain ⟨a, vs, rfl, q, r⟩ := r1.up.lst s1
    exact ⟨a, vs, rfl, .inr (.inl (.inl q)), make_go s1.rb r (PostC.of s1 p1)⟩
  · exact p1.elim
/-- .. C in a name of the def -/
def mMakeV (i c : Nat) (f : Fn) (m : Ev) : Ev := fun σ B => match σ[i]? with
  | some (some (false, .cls c')) => if c' = c then mMakeS f m σ B else .bad
  | _ => .bad
theorem s_makeV {sp_ : Pos} (ok : OkC g E lv X) (N : Ini g k c f) (hk : k + 1 ≤ lv) (he : Snd g E H0 X b1 e m) (hN : X.N[i]? = some x := by rfl) (hv : Vis X.env.scope x := by first | exact Or.inl rfl | exact Or.inr (Or.inl rfl) | exact Or.inr (Or.inr rfl)) (hd : (x == ("__debug__" : Str)) = false := by decide) (hcd : (x == ("__classdict__" : Str)) = false := by decide) (hst : starEach [.Starred e sp_] X.env = [(true, eval e X.env)] := by rfl)
    (ht : eval (.Call (.Name x p) [.Starred e sp_] [] pos) X.env = (do callWith pos (← eval (.Name x p) X.env) [] (backTo pos (starEach [.Starred e sp_] X.env)) (backToKw pos (keywordEach [] X.env))) := by rfl) :
    Snd g E H0 X false (.Call (.Name x p) [.Starred e sp_] [] pos) (mMakeV i c f m) := by
  obtain ⟨fI, M, F, hc⟩ := N
  obtain ⟨prog, w', K, mg, base, A, N, s_0, H_0, env, outer, stack, ex, fn, calm, pn, xe⟩ := X
  obtain ⟨⟨h1, h2, h3, h4, h5, h6, h7, hfx⟩, h8, h9⟩ := ok
  simp only at h1 h2 h5 h6 h7
  subst h1 h2 h5 h6 h7
  refine ⟨fun pins s σ H Q I ⟨w, σI, B, s0, p⟩ => ?_⟩
  unfold mMakeV at p
  split at p
  · rename_i c' hi
    split at p
    · rename_i hcc
      subst hcc
      obtain ⟨v, e1, r0⟩ := s0.sl i _ hi
      simp only [Rep] at r0
      obtain ⟨rfl, _⟩ := r0
      refine Call_ (thn ((pe_var hN hv hd hcd).run pins s σ H (fun y H1 => y = .ref (g.cl c') ∧ H1 = H) I ⟨_, e1, rfl, rfl⟩) fun u s1 ⟨y, H1, I1, ry, ey, eH⟩ => ?_) ht
      subst ey eH
      obtain rfl : u = Value.ref (g.cl c') := ry
      refine pe_makeS M F (h8.mono hk) h9 he hst pins s1 σ H1 I1 ?_
      refine tI_bind s0 p fun d B1 w1 v H1 x1 s1 r1 p1 => ?_
      split at p1
      · rename_i ds
        obtain ⟨a, vs, rfl, q, r⟩ := r1.up.tup s1
        exact ⟨a, vs, rfl, .inl q, make_go s1.rb r (PostC.of s1 p1)⟩
      · rename_i ds
        obtain ⟨a, vs, rfl, q, r⟩ := r1.up.lst s1
        exact ⟨a, vs, rfl, .inr (.inl (.inl q)), make_go s1.rb r (PostC.of s1 p1)⟩
      · exact p1.elim
    · exact p.elim
  · exact p.elim
/-! ### class methods -/
def CMt (g : Gs) (k c : Nat) (n : Str) (f : Fn) : Prop := ∃ mc pr fa, FnR g.prog g.w g.K g.mg g.base (L2.CX g.prog g.w) k fa (spF g f) ∧ ClX.CRead g.K (g.cl c) mc ∧ ClX.CMet g.K (g.cl c) mc n pr fa ∧ g.has c = true
def mCMth (c : Nat) (f : Fn) (ms : Evs) : Ev := fun σ B => (ms σ B).bind fun ds B1 => f (.cls c :: ds) B1
theorem s_cmth (ok : OkC g E lv X) {n : Str} (N : CMt g k c n f) (C : ClsN g c x) (hk : k ≤ lv) (ha : Snds g E H0 X (e :: es) ms) (hg : Gl X x := by rfl) (hd : (x == ("__debug__" : Str)) = false := by decide) {pl : Sem Bool}
    (hst : starEach (e :: es) X.env = (false, eval e X.env) :: starEach es X.env := by rfl) (hpl : (backTo pos (starEach es X.env)).any (·.1) = false := by rfl)
    (ht : eval (.Call (.Attribute (.Name x p) n apos) (e :: es) [] pos) X.env = (do
      let ov ← eval (.Name x p) X.env
      standAt apos.atName
      let (f, first) ← holding [ov] (getMethod ov n pl)
      callWith pos f first (backTo pos (starEach (e :: es) X.env)) (backToKw pos (keywordEach [] X.env))) := by rfl) :
    Snd g E H0 X false (.Call (.Attribute (.Name x p) n apos) (e :: es) [] pos) (mCMth c f ms) := by
  obtain ⟨mc, pr, fa, F, R, M, hc⟩ := N
  obtain ⟨prog, w', K, mg, base, A, N, s_0, H_0, env, outer, stack, ex, fn, calm, pn, xe⟩ := X
  obtain ⟨⟨h1, h2, h3, h4, h5, h6, h7, hfx⟩, h8, h9⟩ := ok
  simp only at h1 h2 h5 h6 h7
  subst h1 h2 h5 h6 h7
  refine weak (ClX.pe_cmeth (pe_glob (v := .ref (g.cl c)) hg C.mg rfl hd) R M F (h8.mono hk) h9 ha hst hpl ht) ?_
  rintro σ H Q ⟨w, σI, B, s, p⟩
  exact ⟨rfl, tIs_bind s p fun ds B1 w1 vs H1 x1 s1 r1 p1 => ⟨w1, _, B1, s1.rb, by simp only [Reps, Rep]; exact ⟨_, _, rfl, ⟨rfl, hc⟩, r1⟩, PostC.of s1 p1⟩⟩
end
end Hf

set_option Elab.async false
set_option linter.all false
set_option maxRecDepth 100000
set_option maxHeartbeats 4000000
namespace Hf
open PySem PySem.Spec PyProof.Rows L2

/-! ### an __init__ keeps its promise -/
/-- the instance that a body leaves in its first name -/
def finI (c : Nat) : Ss → Rs D
  | .next σ B => match σ[(0 : Nat)]? with
    | some (some (true, .inst c' es)) => if c' = c ∧ es.length = (fldN c).length then .ok (.inst c es) B else .bad
    | _ => .bad
  | .ret _ _ => .bad
  | .exc c x B => .exc c x B
  | .bad => .bad
/-- def __init__(self, *words): k names in all -/
def mkIniS (c k : Nat) (b : Ms) : Fn := fun ds B => if ds.length ≤ sizeLine then finI c (b (some (true, .inst c []) :: some (false, .tup ds) :: List.replicate (k - 2) Option.none) B) else .bad
/-- def __init__(self, a, ..): n more parameters -/
def mkIni (c n k : Nat) (b : Ms) : Fn := fun ds B => if ds.length = n then finI c (b (some (true, .inst c []) :: (ds.map (fun d => some (false, d)) ++ List.replicate (k - (n + 1)) Option.none)) B) else .bad
section
variable {g : Gs} {E : XK} {w : Wd} {H : Hp} {σI : Sl} {σ : L2.St} {B : Bs} {Q : VK} {c k : Nat}
/-- the end of an __init__ -/
theorem fin_go {x : Addr} {m : Ss} (hn : H x = Option.none) (p : PostN g E x w H Q (finI c m)) : PostS g E { w with me := some x } H w { nx := fun _ H' => Q .non H', rt := Q } m := by
  cases m with
  | bad => exact p
  | ret d B' => exact p.elim
  | exc c y B' => exact fun w' cls dd H' rb x1 r => p _ cls dd H' x1.withMe rb.withMe r.withMe
  | next σI' B' =>
    intro w' σ' H' _ s x1
    unfold finI at p
    simp only at p
    split at p
    · rename_i c' es hi
      split at p
      · rename_i h
        obtain ⟨rfl, hl⟩ := h
        obtain ⟨a, o, e1, ha, ct, np, nb, n0⟩ := s.ow 0 _ hi
        have e2 := s.me 0 _ _ a hi e1
        rw [x1.me] at e2
        cases (show some x = some a from e2)
        simp only [Cont] at ct
        obtain ⟨dx, vs, rfl, _, hh, rr⟩ := ct
        obtain ⟨x2, rb2⟩ := reg_ext x1 s.rb ha hn np nb
        refine p _ H' x2.withMe rb2.withMe ?_
        simp only [Rep]
        exact ⟨x, dx, vs, rfl, upd_same, hl, hh, Reps.mono ((regLe w' np).trans leMe) _ _ rr⟩
      · exact p.elim
    · exact p.elim
/-- def f(a, .., *v): what is left over is a new tuple without a dict -/
theorem fn_starN {P : Program} {w : World} {K : PySem.W.Frag} {mg : Str → Option Value} {base : Heap} {CX : CXT} {N ps : List Str} {k : Nat} {sp : Sp} {nm qual pv : Str} {params : Arguments} {body : List Stmt} {scope : Scope} {f : Addr} {oc dV kV doc pm cdv ct : Value} {od an : Option Addr} {osl : Array (Option Value)}
    (lk : K.lookup f = some ⟨oc, od, .func (PySem.W.fnOf nm qual params body scope dV kV doc pm an cdv ct), osl⟩) (hcd : PySem.W.codeIn K cdv qual = true) (S : FnScope N (ps ++ [pv]) scope) (hCX : StX.CXUp CX)
    (hb : ∀ us rest : List Value, us.length = ps.length → bindArgs (PySem.W.fnOf nm qual params body scope dV kV doc pm an cdv ct) ⟨us ++ rest, []⟩ = (newTuple rest >>= fun t => pure (ps.zip us ++ [(pv, t)])))
    (hbody : ∀ (A : Around) (outer : List Env) (s : Shared) (H : Hp) (vs : List V) (Q : VK) (E : XK), Room k (A.deeper (envOfC qual scope s.heap.objs.size f cdv)) → sp vs H Q E →
      ∃ t, PSs (cxOf CX P w K mg base N qual scope f cdv A outer s H E) body t ∧ t { nx := fun _ H' => Q .non H', rt := Q } (L2.start N vs) H) :
    FnR P w K mg base CX (k + 1) f (fun vs H Q E => ∃ ws rest, vs = ws ++ rest ∧ ws.length = ps.length ∧ rest.length ≤ sizeLine ∧ ∀ p (ob : Obj), H p = Option.none → ob.dict = Option.none → sp (ws ++ [V.ref p]) (upd H p (.frz ob (.tup rest))) Q E) := by
  intro A outer s H us vs Q E hr e0 r hsp
  obtain ⟨ws, rest, rfl, hl, hz, hq⟩ := hsp
  obtain ⟨u1, u2, rfl, r1, r2⟩ := StX.vals_split r
  have free : H s.heap.objs.size = Option.none := e0.hok.fresh (Nat.le_refl _)
  have m1 : u1.length = ps.length := by rw [← r1.length]; exact hl
  have m2 : u2.length ≤ sizeLine := by rw [← r2.length]; exact hz
  refine StX.run_bnd lk hcd S hr e0 (G := fun xs H2 => ∃ p, ∃ ob : Obj, ob.dict = Option.none ∧ H p = Option.none ∧ xs = ws ++ [V.ref p] ∧ H2 = upd H p (.frz ob (.tup rest))) (fun A1 Ex Q1 h => ?_) fun s2 H2 xs ⟨p, ob, hod, hp, ex, eH⟩ hr1 => ?_
  · rw [hb u1 u2 m1]
    refine wpAny_bind (wpAny_newTuple (wpAny_pure ?_) m2)
    obtain ⟨T, hT⟩ : ∃ T : Obj, T = { cls := .type "tuple", data := .seq u2.toArray } := ⟨_, rfl⟩
    have new : ObjOk P w (upd H s.heap.objs.size (.frz T (.tup rest))) (s.heap.push T) s.heap.objs.size (.frz T (.tup rest)) := by
      subst hT; exact frz_tup hz r2 (Heap.get?_push_size _ rfl)
    have hd : T.dict = Option.none := by subst hT; rfl
    rw [← hT]
    have un := StX.un_laid (fs := frs outer) (s := s) (o := T) (u := .frz T (.tup rest)) free
    have z := h _ _ (ws ++ [V.ref s.heap.objs.size]) (u1 ++ [Value.ref s.heap.objs.size]) (StX.env0_laid e0 new) un rfl (fun e s1 => hCX outer s H _ _ E e s1 un (fun c oc qc => Heap.get?_push_of_some _ qc) rfl) (r1.append (.cons rfl .nil))
      (by rw [List.length_append, List.length_append, hl] <;> rfl) ⟨_, T, hd, free, rfl, rfl⟩
    rw [List.zip_append m1.symm] at z
    exact z
  · subst ex eH
    exact hbody A outer s2 _ _ Q E hr1 (hq p ob hp hod)
/-- the start of an __init__ with one tuple -/
theorem start_star {N : List Str} {x dx p : Addr} {ds : List D} {rest : List V} (hN : 2 ≤ N.length) (hh : g.has c = true) (rb : RB g w B H) (r : Reps g w ds rest) (h1 : H x = Option.none) (h2 : H dx = Option.none) (h3 : dx ≠ x)
    {ob : Obj} (hod : ob.dict = Option.none) (hp : (upd (upd H dx (.own x)) x (.ins (g.cl c) dx [])) p = Option.none) :
    ∃ w1, S0 g H w1 (some (true, .inst c []) :: some (false, .tup ds) :: List.replicate (N.length - 2) Option.none) B (L2.start N [V.ref x, V.ref p]) (upd (upd (upd H dx (.own x)) x (.ins (g.cl c) dx [])) p (.frz ob (.tup rest))) ∧
      Ext { w with me := some x } H w1 (upd (upd (upd H dx (.own x)) x (.ins (g.cl c) dx [])) p (.frz ob (.tup rest))) := by
  have px : p ≠ x := fun e => by subst e; rw [upd_same] at hp; cases hp
  have pd : p ≠ dx := fun e => by
    rw [upd_ne px, e, upd_same] at hp; cases hp
  have hp0 : H p = Option.none := by rw [upd_ne px, upd_ne pd] at hp; exact hp
  generalize hH2 : upd (upd (upd H dx (.own x)) x (.ins (g.cl c) dx [])) p (.frz ob (.tup rest)) = H2
  have e2 : ∀ b, b ≠ p → b ≠ x → b ≠ dx → H2 b = H b := fun b q1 q2 q3 => by rw [← hH2, upd_ne q1, upd_ne q2, upd_ne q3]
  have ex : H2 x = some (.ins (g.cl c) dx []) := by rw [← hH2, upd_ne px.symm, upd_same]
  have ep : H2 p = some (.frz ob (.tup rest)) := by rw [← hH2, upd_same]
  have hk : Same H H2 := fun b u e => by
    rw [e2 b (ne_of_none e hp0) (ne_of_none e h1) (ne_of_none e h2)]; exact e
  have npp := rb.fresh_P hp0
  have l : Le w (regW w p (.frz ob (.tup rest))) := regLe w npp
  let w1 : Wd := { regW w p (.frz ob (.tup rest)) with me := some x }
  have l1 : Le w w1 := ⟨l.P, l.io⟩
  have sub1 : Same w1.P H2 := fun b u e => by
    have e : upd w.P p (.frz ob (.tup rest)) b = some u := e
    by_cases hb : b = p
    · subst hb; rw [upd_same] at e; cases e; exact ep
    · rw [upd_ne hb] at e; exact hk b u (rb.sub b u e)
  have rb1 : RB g w1 B H2 := rb.keep l1 rfl sub1 hk fun n a e => by
    show upd w.P p (.frz ob (.tup rest)) a = Option.none
    rw [upd_ne (fun z => rb.fresh_io hp0 n (by rw [← z]; exact e))]
    exact rb.np n a e
  have st : L2.start N [V.ref x, V.ref p] = some (V.ref x) :: some (V.ref p) :: List.replicate (N.length - 2) Option.none := rfl
  have tail : ∀ {j : Nat} {z : Option (Bool × D)}, (List.replicate (N.length - 2) (Option.none : Option (Bool × D)))[j]? = some z → z = Option.none := fun {j z} h => by
    rw [List.getElem?_replicate] at h
    split at h <;> cases h
    rfl
  refine ⟨w1, ⟨rb1, by rw [st]; simp, fun i d h => ?_, fun i d h => ?_, fun i j d e a q1 q2 _ _ => ?_, fun i c' es a q1 q2 => ?_⟩, ⟨⟨l1.P, l1.io⟩, fun b o e _ => hk b o e, fun b o e => ?_, fun n a e => .inl e, fun b e z => e (by
    cases q : H b with
    | none => rfl
    | some u => rw [hk b u q] at z; cases z), rfl⟩⟩
  · rw [st]
    match i, h with
    | 0, h => cases h
    | 1, h =>
      cases h
      refine ⟨V.ref p, rfl, ?_⟩
      simp only [Rep]
      exact ⟨p, rest, rfl, .inl ⟨ob, upd_same, hod⟩, Reps.mono l1 _ _ r⟩
    | j + 2, h => cases tail h
  · rw [st]
    match i, h with
    | 0, h =>
      cases h
      refine ⟨x, _, rfl, ex, ?_, ?_, fun n => rb.fresh_io h1 n, h1⟩
      · simp only [Cont]
        exact ⟨dx, [], by simp, Nat.zero_le _, hh, by simp only [Reps]⟩
      · show upd w.P p (.frz ob (.tup rest)) x = Option.none
        rw [upd_ne px.symm]; exact rb.fresh_P h1
    | 1, h => cases h
    | j + 2, h => cases tail h
  · match i, j, q1, q2 with
    | 0, 0, _, _ => rfl
    | 0, 1, _, h => cases h
    | 0, j + 2, _, h => cases tail h
    | 1, _, h, _ => cases h
    | i + 2, _, h, _ => cases tail h
  · match i, q1 with
    | 0, _ => rw [st] at q2; cases q2; rfl
    | 1, h => cases h
    | i + 2, h => cases tail h
  · have e : upd w.P p (.frz ob (.tup rest)) b = some o := e
    by_cases hb : b = p
    · subst hb; exact .inr hp0
    · rw [upd_ne hb] at e; exact .inl e
theorem init_star {x qual sv pv : Str} {st : Stmt} {fa : Addr} {fd : FuncData} {N : List Str} {b : Ms} (F : L2.Fun g.K x qual st fa fd) (S : FnScope N ([sv] ++ [pv]) (defScope st)) (hN : 2 ≤ N.length) (hh : g.has c = true)
    (hb : ∀ (kV doc pm : Value) (an : Option Addr) (cdv ct : Value) (us rest : List Value), us.length = [sv].length → bindArgs (PySem.W.fnOf x qual (defArgs st) (defBody st) (defScope st) .none kV doc pm an cdv ct) ⟨us ++ rest, []⟩ = (newTuple rest >>= fun t => pure ([sv].zip us ++ [(pv, t)])))
    (fx : Fx g) (hbody : ∀ (E : XK) (w0 : Wd) (H0 : Hp) (X : Cx), OkC g E k X → PassesOwn (model X.prog X.w) X.A X.env X.xe → Takes X (fun cls d _ H => E cls d H) → X.N = N → X.env.scope = defScope st → X.fn = (fun _ => true) → SndB g E w0 H0 X (defBody st) b) :
    FnR g.prog g.w g.K g.mg g.base (L2.CX g.prog g.w) (k + 1) fa (spI g c (mkIniS c N.length b)) := by
  obtain ⟨oc, od, kV, doc, pm, an, cdv, ct, osl, rfl, lk, hcd⟩ := F.ex
  let sp0 : Sp := fun vs H Q E => ∃ x dx p H1 w ds rest B, ∃ ob : Obj, ob.dict = Option.none ∧ vs = [V.ref x, V.ref p] ∧ H = upd (upd (upd H1 dx (.own x)) x (.ins (g.cl c) dx [])) p (.frz ob (.tup rest)) ∧ H1 x = Option.none ∧ H1 dx = Option.none ∧ dx ≠ x ∧ (upd (upd H1 dx (.own x)) x (.ins (g.cl c) dx [])) p = Option.none ∧
    RB g w B H1 ∧ Reps g w ds rest ∧ PostN g E x w H1 Q (mkIniS c N.length b ds B)
  have R := fn_starN (P := g.prog) (w := g.w) (mg := g.mg) (base := g.base) (CX := L2.CX g.prog g.w) (k := k) (sp := sp0) (ps := [sv]) (pv := pv) lk hcd S StX.cxUp (hb kV doc pm an cdv ct) ?_
  · refine R.imp fun vs H Q E h => ?_
    obtain ⟨x, dx, ws, H1, w, ds, B, rfl, rfl, h1, h2, h3, rb, r, p⟩ := h
    have hz : ds.length ≤ sizeLine := by
      unfold mkIniS at p
      split at p
      · assumption
      · exact p.elim
    exact ⟨[V.ref x], ws, rfl, rfl, by rw [r.len]; exact hz, fun q ob hq ho => ⟨x, dx, q, H1, w, ds, ws, B, ob, ho, rfl, rfl, h1, h2, h3, hq, rb, r, p⟩⟩
  · rintro A outer s H vs Q E hr ⟨x, dx, p, H1, w, ds, rest, B, ob, hod, rfl, rfl, h1, h2, h3, hp, rb, r, q⟩
    unfold mkIniS at q
    split at q
    · refine ⟨_, hbody E { w with me := some x } H1 _ ⟨⟨rfl, rfl, rfl, ?_, rfl, rfl, rfl, fx⟩, hr, ?_⟩ (passes_of rfl) (takes_of rfl rfl rfl rfl) rfl rfl rfl, ?_⟩
      · have := hr.un; show A.units + 3 + 100 < cLine; have h2 : A.units + 3 + 16 * k + 200 < cLine := this; omega
      · exact passes_call (takes_of rfl rfl rfl rfl) (fun _ _ _ _ h => h)
      · obtain ⟨w1, s1, x1⟩ := start_star hN hh rb r h1 h2 h3 hod hp
        refine ⟨w1, _, B, s1, x1, ?_⟩
        have z := fin_go h1 q
        refine PostS.le ?_ z
        exact ⟨x1.le.P, x1.le.io⟩
    · exact q.elim
end
end Hf

set_option Elab.async false
set_option linter.all false
set_option maxRecDepth 100000
set_option maxHeartbeats 4000000
namespace Hf
open PySem PySem.Spec PyProof.Rows L2

/-! ### boxes are made: a new container that is shared and changed -/
def boxW (w : Wd) (n : Nat) (a : Addr) : Wd := { w with io := fun m => if m = n then some a else w.io m }
section
variable {g : Gs} {E : XK} {w0 w : Wd} {H0 H : Hp} {X : Cx} {e : Expr} {m me : Ev} {pos p1 apos cpos : Pos} {σI : Sl} {σ : L2.St} {B : Bs} {Q : VK} {b1 : Bool} {x : Str} {i : Nat}
theorem box_ext {w' : Wd} {H' : Hp} {a : Addr} {o : HO} {d : D} {B' : Bs} (x : Ext w H w' H') (rb : RB g w' B' H') (e : H' a = some o) (c : Cont g w' d a o) (n : H a = Option.none) (p : w'.P a = Option.none) (i : ∀ n, w'.io n ≠ some a) :
    Ext w H (boxW w' B'.length a) H' ∧ RB g (boxW w' B'.length a) (B' ++ [d]) H' ∧ Le w' (boxW w' B'.length a) := by
  have l : Le w' (boxW w' B'.length a) := ⟨Same.refl _, fun m b h => by
    show (if m = B'.length then some a else w'.io m) = some b
    rw [if_neg (Nat.ne_of_lt (rb.dom m b h))]; exact h⟩
  have io : ∀ m b, (boxW w' B'.length a).io m = some b → (m = B'.length ∧ b = a) ∨ (m ≠ B'.length ∧ w'.io m = some b) := fun m b h => by
    have h : (if m = B'.length then some a else w'.io m) = some b := h
    by_cases hm : m = B'.length
    · rw [if_pos hm] at h; cases h; exact .inl ⟨hm, rfl⟩
    · rw [if_neg hm] at h; exact .inr ⟨hm, h⟩
  refine ⟨⟨x.le.trans l, x.keep, x.pf, fun m b h => ?_, x.there, x.me⟩, ⟨rb.sub, fun m b h => ?_, fun m k b h1 h2 => ?_, fun m b h => ?_, fun m b h => ?_⟩, l⟩
  · rcases io m b h with ⟨_, rfl⟩ | ⟨_, h⟩
    · exact .inr n
    · exact x.iof m b h
  · by_cases hm : m < B'.length
    · rw [List.getElem?_append_left hm] at h
      obtain ⟨a', o', h1, h2, h3⟩ := rb.get m b h
      exact ⟨a', o', l.io _ _ h1, h2, h3.mono l⟩
    · rw [List.getElem?_append_right (Nat.le_of_not_lt hm)] at h
      have hm2 : m - B'.length = 0 := by
        have := (List.getElem?_eq_some_iff.mp h).1
        simp at this; exact this
      rw [hm2] at h
      cases h
      have : m = B'.length := by omega
      subst this
      exact ⟨a, o, by show (if _ then _ else _) = _; rw [if_pos rfl], e, c.mono l⟩
  · rcases io m b h1 with ⟨r1, r2⟩ | ⟨r1, r2⟩ <;> rcases io k b h2 with ⟨q1, q2⟩ | ⟨q1, q2⟩
    · rw [r1, q1]
    · subst r2; exact (i _ q2).elim
    · subst q2; exact (i _ r2).elim
    · exact rb.inj m k b r2 q2
  · rcases io m b h with ⟨_, rfl⟩ | ⟨_, h⟩
    · exact p
    · exact rb.np m b h
  · rw [List.length_append]
    rcases io m b h with ⟨rfl, _⟩ | ⟨_, h⟩
    · simp
    · have := rb.dom m b h
      omega
def mBox (m : Ev) : Ev := fun σ B => (m σ B).bind fun d B1 => .ok (.box B1.length) (B1 ++ [d])
theorem s_box (he : SndF g E H0 X e m) : Snd g E H0 X false e (mBox m) := by
  refine weak he ?_
  rintro σ H Q ⟨w, σI, B, s, p⟩
  refine ⟨w, σI, B, s, ?_⟩
  unfold mBox at p
  revert p
  generalize m σI B = q
  intro p
  cases q with
  | bad => exact p
  | exc c y B' => exact p
  | ok d B' =>
    intro w' a o H' x rb ha c n pp io z
    obtain ⟨x2, rb2, l⟩ := box_ext x rb ha c n pp io
    refine p _ (.ref a) H' x2 rb2 ?_
    simp only [RepB, Rep]
    exact ⟨a, rfl, by show (if _ then _ else _) = _; rw [if_pos rfl]⟩
/-- x.pop(e), x a name of a box -/
def mPopB (i : Nat) (m : Ev) : Ev := fun σ B => match σ[i]? with
  | some (some (false, .box n)) => match B[n]? with
    | some (.lst _) => (m σ B).bind fun k B1 => match k with
      | .int k => match B1[n]? with
        | some (.lst ds) => if 0 ≤ k ∧ k < 2 ^ 63 then (match ds[k.toNat]? with
          | some d => .ok d (B1.set n (.lst (ds.eraseIdx k.toNat)))
          | Option.none => .bad) else .bad
        | _ => .bad
      | _ => .bad
    | _ => .bad
  | _ => .bad
theorem s_popB (he : Snd g E H0 X b1 e me) (hN : X.N[i]? = some x := by rfl) (hv : Vis X.env.scope x := by first | exact Or.inl rfl | exact Or.inr (Or.inl rfl) | exact Or.inr (Or.inr rfl)) (hd : (x == ("__debug__" : Str)) = false := by decide) (hcd : (x == ("__classdict__" : Str)) = false := by decide)
    (hbase : attributeBase (.Name x p1) "pop" X.env (eval (.Name x p1) X.env) = eval (.Name x p1) X.env := by rfl)
    (hfew : ((backTo cpos (starEach [e] X.env)).all (fun x => !x.1) && (backToKw cpos (keywordEach [] X.env)).all (fun x => x.1.isSome) && decide ([e].length + ([] : List Keyword).length + (if ([] : List Keyword).isEmpty then 0 else 1) < 30)) = true := by rfl)
    (hline : (apos.endLine == cpos.line) = true := by rfl) (hs : starEach [e] X.env = (false, eval e X.env) :: starEach [] X.env := by rfl) (hpl : (backTo cpos (starEach [] X.env)).any (·.1) = false := by rfl) :
    Snd g E H0 X false (.Call (.Attribute (.Name x p1) "pop" apos) [e] [] cpos) (mPopB i me) := by
  refine weak (pe_bm PySem.F.plainAttrs_list PySem.F.slot_list_pop PySem.F.type_list_pop mt_popAt (pe_var hN hv hd hcd) (pa_cons he pa_nil hs) hbase hfew hline hs hpl) ?_
  rintro σ H Q ⟨w, σI, B, s, p⟩
  unfold mPopB at p
  split at p
  · rename_i n hi
    split at p
    · rename_i ds0 hb
      obtain ⟨v, e1, r0⟩ := s.sl i _ hi
      have r0' := r0
      simp only [Rep] at r0'
      obtain ⟨a, rfl, ha⟩ := r0'
      obtain ⟨a', o, h1, h2, c⟩ := s.rb.get _ _ hb
      rw [ha] at h1; cases h1
      simp only [Cont] at c
      obtain ⟨vs0, rfl, _⟩ := c
      refine ⟨_, e1, tyL h2, tI_bind s p fun k B1 w1 kv H1 x1 s1 r1 p1 => ?_⟩
      split at p1
      · rename_i k
        split at p1
        · rename_i ds hb1
          split at p1
          · rename_i hk
            split at p1
            · rename_i d hd
              have ha1 := x1.le.io _ _ ha
              obtain ⟨a2, o2, h3, h4, c2⟩ := s1.rb.get _ _ hb1
              rw [ha1] at h3; cases h3
              simp only [Cont] at c2
              obtain ⟨vs, rfl, rr⟩ := c2
              obtain ⟨u, e2, ru⟩ := Reps.get rr hd
              have hlt : k.toNat < vs.length := (List.getElem?_eq_some_iff.mp e2).1
              refine ⟨a, vs, k, k.toNat, u, rfl, by rw [r1.up.int s1], h4, by omega, hk.2, ?_, e2, ?_⟩
              · unfold seqIndex?
                have h0 : ¬ k < 0 := by omega
                simp only [h0, if_false]
                rw [if_pos (by rw [Bool.and_eq_true, decide_eq_true_eq, decide_eq_true_eq]; omega)]
              · refine p1 w1 u _ ?_ (s1.rb.mut ha1 (by simp only [Cont]; exact ⟨_, rfl, rr.erase _⟩)) ru
                exact (Ext.refl w1 H1).mutB ha1
            · exact p1.elim
          · exact p1.elim
        · exact p1.elim
      · exact p1.elim
    · exact p.elim
  · exact p.elim
end
/-! ### repr -/
structure OkG (g : Gs) (E : XK) (lv : Nat) (X : Cx) : Prop extends OkC g E lv X where
  gd : X.A.guards = some []
theorem OkG.blk {g : Gs} {E : XK} {lv : Nat} {X : Cx} (k : OkG g E lv X) (s : Shared) (H : Hp) (scope : Scope) (env : Env) (fp : List Addr) : OkG g E0 lv (X.blk s H scope env fp) := ⟨k.toOkC.blk s H scope env fp, k.gd⟩
def reprOk (d : D) : Bool := (match d with
  | .tup _ => true
  | .lst _ => true
  | _ => false) && (toPy d).canLay0 && (toPy d).showable && !(toPy d).hasDict && decide ((toPy d).depth < 50) && decide ((toPy d).shown.length ≤ sizeLine)
def fRepr : D → Bs → Rs D := fun d B => if reprOk d then .ok (.str (toPy d).shown) B else .bad
def rRepr (K : PySem.W.Frag) : List V → Hp → VK → Prop := fun xs H Q => ∃ a d, xs = [.ref a] ∧ Dp K H (.ref a) d ∧ d.showable = true ∧ d.hasDict = false ∧ d.depth < 50 ∧ d.shown.length ≤ sizeLine ∧ Q (.str d.shown) H
theorem call_reprD {X : Cx} (hg : X.A.guards = some []) (hu : X.A.units + 100 < cLine) : CallR X (.builtin "repr") (rRepr X.K) := by
  intro pins s σ H xs us Q I r h
  obtain ⟨a, d, rfl, hd, h1, h2, h3, h4, q⟩ := h
  obtain ⟨u, rfl, ru⟩ := vals1 r
  obtain ⟨as, rd⟩ := Dp.reads I d (.ref a) u hd ru
  obtain rfl : u = Value.ref a := ru
  exact repr_of_reads' rd h1 (fun z => by rw [h2] at z; cases z) hg (by omega) (fun _ _ e => e) (fun h' t tk hk => ⟨.str _, H, I.kept hk, ⟨_, rfl⟩, q⟩) h4
section
variable {g : Gs} {E : XK} {H0 : Hp} {X : Cx} {lv : Nat}
theorem o_repr (c : OkG g E lv X) : One g E H0 X (.builtin "repr") fRepr := ⟨_, call_reprD c.gd c.un, fun w σI B σ H Q x d s r p => by
  unfold fRepr at p
  split at p
  · rename_i h
    unfold reprOk at h
    simp only [Bool.and_eq_true, decide_eq_true_eq, Bool.not_eq_true'] at h
    obtain ⟨⟨⟨⟨⟨h0, h1⟩, h2⟩, h3⟩, h4⟩, h5⟩ := h
    have hd := r.dp s h1
    have key : ∃ a, x = .ref a := by
      cases d <;> simp at h0
      · obtain ⟨a, _, e, _⟩ := r.tup s; exact ⟨a, e⟩
      · obtain ⟨a, _, e, _⟩ := r.lst s; exact ⟨a, e⟩
    obtain ⟨a, rfl⟩ := key
    exact ⟨a, _, rfl, c.K ▸ hd, h2, h3, h4, h5, p.nowR s (rep_str g w _)⟩
  · exact p.elim⟩
end
/-! ### defs that ask for repr: promises where no repr is under way -/
structure FnG (P : Program) (w : World) (K : PySem.W.Frag) (mg : Str → Option Value) (base : Heap) (CX : CXT) (k : Nat) (f : Addr) (fd : FuncData) (ps : List Str) (sp : Sp) : Prop where
  len : ∀ vs H Q E, sp vs H Q E → vs.length = ps.length
  run : ∀ (A : Around) (outer : List Env) (s : Shared) (H : Hp) (args : Args) (us : List Value) (vs : List V) (Q : VK) (E : XK), A.guards = some [] → Room k A → Env0 P w K mg base A outer s H → BindsTo s fd args (ps.zip us) → Vals vs us → sp vs H Q E →
    codeAny (model P w) A (.call (.ref f) args) (CR CX outer P w H s Q E) s
theorem _root_.L2.FnOk.toG {P : Program} {w : World} {K : PySem.W.Frag} {mg : Str → Option Value} {base : Heap} {CX : CXT} {k : Nat} {f : Addr} {fd : FuncData} {ps : List Str} {sp : Sp} (F : FnOk P w K mg base CX k f fd ps sp) : FnG P w K mg base CX k f fd ps sp :=
  ⟨F.len, fun A outer s H args us vs Q E _ => F.run A outer s H args us vs Q E⟩
theorem FnG.mono {P : Program} {w : World} {K : PySem.W.Frag} {mg : Str → Option Value} {base : Heap} {CX : CXT} {j k : Nat} {f : Addr} {fd : FuncData} {ps : List Str} {sp : Sp} (F : FnG P w K mg base CX j f fd ps sp) (h : j ≤ k) : FnG P w K mg base CX k f fd ps sp :=
  ⟨F.len, fun A outer s H args us vs Q E hg hr => F.run A outer s H args us vs Q E hg (hr.mono h)⟩
def DefG (g : Gs) (k : Nat) (x : Str) (dfl : List D) (f : Fn) : Prop := ∃ (fa : Addr) (fd : FuncData) (ps : List Str) (dvs : List V) (ds : List Value), FnG g.prog g.w g.K g.mg g.base (L2.CX g.prog g.w) k fa fd ps (spF g f) ∧ g.mg x = some (.ref fa) ∧ PySem.W.keepIn g.K (.ref fa) = true ∧ Binds g.K fd ps ds ∧ Vals dvs ds ∧ ∀ w, Reps g w dfl dvs
theorem Def.toG {g : Gs} {k : Nat} {x : Str} {dfl : List D} {f : Fn} (d : Def g k x dfl f) : DefG g k x dfl f := by
  obtain ⟨fa, fd, ps, dvs, ds, F, r⟩ := d
  exact ⟨fa, fd, ps, dvs, ds, F.toG, r⟩
section
variable {g : Gs} {E : XK} {w0 w : Wd} {H0 H : Hp} {X : Cx} {e : Expr} {es : List Expr} {ms : Evs} {pos p : Pos} {x : Str} {f : Fn} {lv k : Nat} {dfl : List D} {σI : Sl} {σ : L2.St} {B : Bs} {Q : VK}
theorem run_g {CX : CXT} {fa : Addr} {fd : FuncData} {ps : List Str} {sp : Sp} {ds us : List Value} {dvs vs : List V} {pins : List (Addr × Obj)} {s : Shared} (F : FnG X.prog X.w X.K X.mg X.base CX k fa fd ps sp) (hg : X.A.guards = some []) (hr : Room k X.A) (hb : Binds X.K fd ps ds) (hd : Vals dvs ds) (hx : Passes CX X E)
    (I : Inv X pins σ H s) (r : Vals vs us) (h : sp (vs ++ dvs) H Q E) : wpAny (model X.prog X.w) X.A (call (.ref fa) us) (EP X pins σ Q) X.xe s := by
  have r2 : Vals (vs ++ dvs) (us ++ ds) := r.append hd
  refine wpAny_call (codeAny_mono (F.run X.A X.stack s H ⟨us, []⟩ (us ++ ds) (vs ++ dvs) Q E hg hr I.env0 (hb s us I.kIn (by rw [← r2.length]; exact F.len _ _ _ _ h)) r2 h) fun r s' hq => ?_)
  cases r with
  | error e => exact hx pins σ H s e s' I hq
  | ok fl =>
    cases fl with
    | ret u => exact I.after hq
    | next | brk | cont => exact hq.elim
theorem s_callG (c : OkG g E lv X) (d : DefG g k x dfl f) (hk : k ≤ lv) (ha : Snds g E H0 X (e :: es) ms) (hg : Gl X x := by rfl) (hdb : (x == ("__debug__" : Str)) = false := by decide) (he : starEach (e :: es) X.env = (false, eval e X.env) :: starEach es X.env := by rfl) (hpl : (backTo pos (starEach es X.env)).any (·.1) = false := by rfl) :
    Snd g E H0 X false (.Call (.Name x p) (e :: es) [] pos) (mCall f dfl ms) := by
  obtain ⟨fa, fd, ps, dvs, ds, F, hm, kp, b, hd, hr⟩ := d
  obtain ⟨prog, w', K, mg, base, A, N, s_0, H_0, env, outer, stack, ex, fn, calm, pn, xe⟩ := X
  obtain ⟨⟨⟨h1, h2, h3, h4, h5, h6, h7, hfx⟩, h8, h9⟩, h10⟩ := c
  simp only at h1 h2 h5 h6 h7
  subst h1 h2 h5 h6 h7
  refine weak (t := tCall (spF g f) dvs E (tIs g E H0 ms)) ⟨fun pins s σ H Q I h => ?_⟩ (call_go rfl hr)
  refine wpAny_Call_Name_kw (ld_glob I hg hm (PySem.W.callWith_K (h₀ := g.base) I.ok.mod.kin kp (thn (ha.run pos pins s σ H _ I h) fun us s1 ⟨vs, H1, I1, r, q⟩ => ⟨I1.kIn, run_g F h10 (h8.mono hk) b hd h9 I1 r q⟩) he hpl) hdb)
/-- a def whose body asks for repr -/
theorem def_okG {qual : Str} {st : Stmt} {fa : Addr} {fd : FuncData} {N ps : List Str} {n : Nat} {b : Ms} (F : L2.Fun g.K x qual st fa fd) (S : FnScope N ps (defScope st)) (hn : ps.length = n) (hN : n ≤ N.length)
    (fx : Fx g) (hb : ∀ (E : XK) (w0 : Wd) (H0 : Hp) (X : Cx), OkG g E k X → PassesOwn (model X.prog X.w) X.A X.env X.xe → Takes X (fun cls d _ H => E cls d H) → X.N = N → X.env.scope = defScope st → X.fn = (fun _ => true) → SndB g E w0 H0 X (defBody st) b) :
    FnG g.prog g.w g.K g.mg g.base (L2.CX g.prog g.w) (k + 1) fa fd ps (spF g (mkFn n N.length b)) := by
  obtain ⟨oc, od, kV, doc, pm, an, cdv, ct, osl, rfl, lk, hcd⟩ := F.ex
  have hl : ∀ vs H Q E, spF g (mkFn n N.length b) vs H Q E → vs.length = ps.length := fun vs H Q E h => by
    obtain ⟨w, ds, B, rb, r, p⟩ := h
    unfold mkFn at p
    split at p
    · rename_i e; rw [r.len, e, hn]
    · exact p.elim
  refine ⟨hl, fun A outer s H args us vs Q E hg hr e0 hbd r h => ?_⟩
  refine StX.run_bnd lk hcd S hr e0 (G := fun xs H2 => xs = vs ∧ H2 = H) (fun A' Ex Q' hq => hbd _ _ _ _ (hq s H vs us e0 Un.refl rfl (fun _ _ z => z) r (hl _ _ _ _ h) ⟨rfl, rfl⟩)) ?_
  rintro s2 H2 xs ⟨rfl, rfl⟩ hr'
  obtain ⟨w, ds, B, rb, r, p⟩ := h
  unfold mkFn at p
  split at p
  · rename_i e
    refine ⟨_, hb E w H2 _ ⟨⟨⟨rfl, rfl, rfl, ?_, rfl, rfl, rfl, fx⟩, hr', ?_⟩, hg⟩ (passes_of rfl) (takes_of rfl rfl rfl rfl) rfl rfl rfl, ?_⟩
    · have := hr'.un; show A.units + 3 + 100 < cLine; have h2 : A.units + 3 + 16 * k + 200 < cLine := this; omega
    · exact passes_call (takes_of rfl rfl rfl rfl) (fun _ _ _ _ h => h)
    · refine ⟨w, _, B, start_at rb r e hN, Ext.refl _ _, ?_⟩
      revert p
      generalize b _ B = q
      intro p
      cases q with
      | next σI' B' => exact fun w' σ H' _ s x => p w' .non H' x s.rb (rep_none g w')
      | ret d B' => exact fun w' v H' rb x r => p w' v H' x rb r
      | exc c y B' => exact fun w' cls dd H' rb x r => p w' cls dd H' x rb r
      | bad => exact p
  · exact p.elim
end
end Hf

set_option Elab.async false
set_option linter.all false
set_option maxRecDepth 100000
set_option maxHeartbeats 4000000
namespace Hf
open PySem PySem.Spec PyProof.Rows L2

/-! ### the built-ins by their names -/
theorem bt_len : bootBuiltins "len" = some (.builtin "len") := by decide +kernel
theorem bt_all : bootBuiltins "all" = some (.builtin "all") := by decide +kernel
theorem bt_any : bootBuiltins "any" = some (.builtin "any") := by decide +kernel
theorem bt_sum : bootBuiltins "sum" = some (.builtin "sum") := by decide +kernel
theorem bt_max : bootBuiltins "max" = some (.builtin "max") := by decide +kernel
theorem bt_min : bootBuiltins "min" = some (.builtin "min") := by decide +kernel
theorem bt_sorted : bootBuiltins "sorted" = some (.builtin "sorted") := by decide +kernel
theorem bt_repr : bootBuiltins "repr" = some (.builtin "repr") := by decide +kernel
theorem bt_tuple : bootBuiltins "tuple" = some (.type "tuple") := by decide +kernel
theorem bt_list : bootBuiltins "list" = some (.type "list") := by decide +kernel
theorem bt_int : bootBuiltins "int" = some (.type "int") := by decide +kernel
theorem bt_str : bootBuiltins "str" = some (.type "str") := by decide +kernel
section
variable {g : Gs} {E : XK} {w0 w : Wd} {H0 H : Hp} {X : Cx} {a b e : Expr} {ma mb m : Ev} {pos p1 : Pos} {b1 b2 : Bool} {lv : Nat} {st : Stmt}
theorem q_len (c : Ok g X) (he : Snd g E H0 X b1 e m) (hg : Gl X "len" := by rfl) (h1 : starEach (e :: []) X.env = (false, eval e X.env) :: starEach [] X.env := by rfl) : Snd g E H0 X false (.Call (.Name "len" p1) [e] [] pos) (m1 fLen m) := s_b1 (o_len c) bt_len (nbs c) he hg (by decide) (by decide) h1
theorem q_all (c : Ok g X) (he : Snd g E H0 X b1 e m) (hg : Gl X "all" := by rfl) (h1 : starEach (e :: []) X.env = (false, eval e X.env) :: starEach [] X.env := by rfl) : Snd g E H0 X false (.Call (.Name "all" p1) [e] [] pos) (m1 fAll m) := s_b1 (o_all c) bt_all (nbs c) he hg (by decide) (by decide) h1
theorem q_any (c : Ok g X) (he : Snd g E H0 X b1 e m) (hg : Gl X "any" := by rfl) (h1 : starEach (e :: []) X.env = (false, eval e X.env) :: starEach [] X.env := by rfl) : Snd g E H0 X false (.Call (.Name "any" p1) [e] [] pos) (m1 fAny m) := s_b1 (o_any c) bt_any (nbs c) he hg (by decide) (by decide) h1
theorem q_sum (c : Ok g X) (he : Snd g E H0 X b1 e m) (hg : Gl X "sum" := by rfl) (h1 : starEach (e :: []) X.env = (false, eval e X.env) :: starEach [] X.env := by rfl) : Snd g E H0 X false (.Call (.Name "sum" p1) [e] [] pos) (m1 fSum m) := s_b1 (o_sum c) bt_sum (nbs c) he hg (by decide) (by decide) h1
theorem q_max1 (c : Ok g X) (he : Snd g E H0 X b1 e m) (hg : Gl X "max" := by rfl) (h1 : starEach (e :: []) X.env = (false, eval e X.env) :: starEach [] X.env := by rfl) : Snd g E H0 X false (.Call (.Name "max" p1) [e] [] pos) (m1 fMax1 m) := s_b1 (o_max1 c) bt_max (nbs c) he hg (by decide) (by decide) h1
theorem q_min1 (c : Ok g X) (he : Snd g E H0 X b1 e m) (hg : Gl X "min" := by rfl) (h1 : starEach (e :: []) X.env = (false, eval e X.env) :: starEach [] X.env := by rfl) : Snd g E H0 X false (.Call (.Name "min" p1) [e] [] pos) (m1 fMin1 m) := s_b1 (o_min1 c) bt_min (nbs c) he hg (by decide) (by decide) h1
theorem q_max2 (c : Ok g X) (ha : Snd g E H0 X b1 a ma) (hb : Snd g E H0 X b2 b mb) (hg : Gl X "max" := by rfl) (h1 : starEach (a :: [b]) X.env = (false, eval a X.env) :: starEach [b] X.env := by rfl) (h2 : starEach (b :: []) X.env = (false, eval b X.env) :: starEach [] X.env := by rfl) (hpl : (backTo pos (starEach [b] X.env)).any (·.1) = false := by rfl) :
    Snd g E H0 X false (.Call (.Name "max" p1) [a, b] [] pos) (mBin fMax2 ma mb) := s_b2 (o_max2 c) bt_max (nbs c) ha hb hg (by decide) (by decide) h1 h2 hpl
theorem q_min2 (c : Ok g X) (ha : Snd g E H0 X b1 a ma) (hb : Snd g E H0 X b2 b mb) (hg : Gl X "min" := by rfl) (h1 : starEach (a :: [b]) X.env = (false, eval a X.env) :: starEach [b] X.env := by rfl) (h2 : starEach (b :: []) X.env = (false, eval b X.env) :: starEach [] X.env := by rfl) (hpl : (backTo pos (starEach [b] X.env)).any (·.1) = false := by rfl) :
    Snd g E H0 X false (.Call (.Name "min" p1) [a, b] [] pos) (mBin fMin2 ma mb) := s_b2 (o_min2 c) bt_min (nbs c) ha hb hg (by decide) (by decide) h1 h2 hpl
theorem q_repr (c : OkG g E lv X) (he : Snd g E H0 X b1 e m) (hg : Gl X "repr" := by rfl) (h1 : starEach (e :: []) X.env = (false, eval e X.env) :: starEach [] X.env := by rfl) : Snd g E H0 X false (.Call (.Name "repr" p1) [e] [] pos) (m1 fRepr m) := s_b1 (o_repr c) bt_repr (nbs c.toOk) he hg (by decide) (by decide) h1
theorem q_sorted (c : Ok g X) (he : Snd g E H0 X b1 e m) (hg : Gl X "sorted" := by rfl) (h1 : starEach (e :: []) X.env = (false, eval e X.env) :: starEach [] X.env := by rfl) : SndF g E H0 X (.Call (.Name "sorted" p1) [e] [] pos) (m1 fSrt m) := f_b1 (o_sorted c) bt_sorted (nbs c) he hg (by decide) (by decide) h1
theorem q_tuple (c : Ok g X) (he : Snd g E H0 X b1 e m) (hg : Gl X "tuple" := by rfl) (h1 : starEach (e :: []) X.env = (false, eval e X.env) :: starEach [] X.env := by rfl) : Snd g E H0 X false (.Call (.Name "tuple" p1) [e] [] pos) (m1 fTupO m) := s_ty1 (o_tuple c) bt_tuple (nbs c) he hg (by decide) (by decide) h1
theorem q_list (c : Ok g X) (he : Snd g E H0 X b1 e m) (hg : Gl X "list" := by rfl) (h1 : starEach (e :: []) X.env = (false, eval e X.env) :: starEach [] X.env := by rfl) : SndF g E H0 X (.Call (.Name "list" p1) [e] [] pos) (m1 fLstO m) := f_ty1 (o_list c) bt_list (nbs c) he hg (by decide) (by decide) h1
theorem q_int (c : Ok g X) (he : Snd g E H0 X b1 e m) (hg : Gl X "int" := by rfl) (h1 : starEach (e :: []) X.env = (false, eval e X.env) :: starEach [] X.env := by rfl) : Snd g E H0 X false (.Call (.Name "int" p1) [e] [] pos) (m1 fInt m) := s_ty1 o_int bt_int (nbs c) he hg (by decide) (by decide) h1
theorem q_str (c : Ok g X) (he : Snd g E H0 X b1 e m) (hg : Gl X "str" := by rfl) (h1 : starEach (e :: []) X.env = (false, eval e X.env) :: starEach [] X.env := by rfl) : Snd g E H0 X false (.Call (.Name "str" p1) [e] [] pos) (m1 fStrI m) := s_ty1 o_str bt_str (nbs c) he hg (by decide) (by decide) h1
/-- what is not reached may be anything -/
def mBad : Ms := fun _ _ => .bad
theorem z_bad : SndS g E w0 H0 X st mBad := ⟨fun pins s σ H Q I q => by
  obtain ⟨_, _, _, _, _, z⟩ := q
  exact z.elim⟩
/-- [..] * k: a new list -/
def fMulL : D → D → Bs → Rs D
  | .lst a, .int k, B => if decide (k < 1000) && decide (-1000 < k) && decide (a.length ≤ 1000) then .ok (.lst (List.replicate k.toNat a).flatten) B else .bad
  | _, _, _ => .bad
theorem f_mul (ha : Snd g E H0 X b1 a ma) (hb : Snd g E H0 X b2 b mb) : SndF g E H0 X (.BinOp a .Mult b pos) (mBin fMulL ma mb) := by
  refine weak (pe_op op_rep ha hb) ?_
  rintro σ H Q ⟨w, σI, B, s, p⟩
  refine tI_bindF s p fun d B1 w1 v H1 x1 s1 r1 p1 => ?_
  refine tI_bindF s1 p1 fun d2 B2 w2 v2 H2 x2 s2 r2 p2 => ?_
  unfold fMulL at p2
  split at p2
  · split at p2
    · rename_i ds k h
      simp only [Bool.and_eq_true, decide_eq_true_eq] at h
      obtain ⟨⟨h1, h2⟩, h3⟩ := h
      obtain ⟨a, vs, rfl, q1, r⟩ := (r1.up.mono x2.le).lst s2
      refine ⟨a, k, vs, rfl, r2.up.int s2, q1, by omega, by omega, ?_, fun q hq => p2.newL s2 (r.rep _) hq⟩
      rw [r.len, sizeLine_eq]
      have a1 : ds.length * k.toNat ≤ 1000 * 1000 := Nat.mul_le_mul h3 (by omega)
      omega
    · exact p2.elim
  · exact p2.elim
/-- a, b = x, y -/
theorem z_par2 {i j : Nat} {x y : Str} {px py pt : Pos} {kt k2 : Nat} {pt2 : Pos} (c : Ok g X) (hN : X.N.Nodup) (ha : Snd g E H0 X false a ma) (hb : Snd g E H0 X false b mb) (hw : swappedStores [.Tuple [.Name x px, .Name y py] kt pt] (.Tuple [a, b] k2 pt2) X.env = pure (some [x, y]) := by rfl)
    (hi : X.N[i]? = some x := by rfl) (hj : X.N[j]? = some y := by rfl) (hij : i ≠ j := by decide) (hx : X.env.scope.names.lookup x = some .local := by rfl) (hy : X.env.scope.names.lookup y = some .local := by rfl)
    (hs : swapsWithSole [.Tuple [.Name x px, .Name y py] kt pt] (.Tuple [a, b] k2 pt2) pos.line X.env = pure false := by rfl) (h1 : starEach [a, b] X.env = (false, eval a X.env) :: starEach [b] X.env := by rfl) (h2 : starEach [b] X.env = (false, eval b X.env) :: starEach [] X.env := by rfl) :
    SndS g E w0 H0 X (.Assign [.Tuple [.Name x px, .Name y py] kt pt] (.Tuple [a, b] k2 pt2) pos) (mAsg (gT (gsC (gN i) (gsC (gN j) gs0))) (mTup (mCons ma (mCons mb mNil)))) := by
  refine weakS (ps_par c.calm hN hi hj hij hx hy (pa_cons ha (pa_cons hb pa_nil h2) h1) hw hs) ?_
  rintro D σ H ⟨w, σI, B, s, x0, p⟩
  unfold mAsg mTup mCons mNil at p
  cases qa : ma σI B with
  | bad => simp only [qa, Rs.bind, Rs.st] at p; exact p.elim
  | exc cc yy B1 =>
    simp only [qa, Rs.bind, Rs.st] at p
    refine tI_go s (fun c x B1 q w' cls dd H' x' rb r => ?_) (by rw [qa]; simp) fun d B1 q => by rw [qa] at q; cases q
    rw [qa] at q; cases q
    exact p w' cls dd H' rb (x0.trans x') r
  | ok d1 B1 =>
    simp only [qa, Rs.bind] at p
    refine tI_go s (fun c x B1 q => by rw [qa] at q; cases q) (by rw [qa]; simp) fun d B1' q w1 v H1 x1 s1 r1 => ?_
    rw [qa] at q; cases q
    cases qb : mb σI B1 with
    | bad => simp only [qb, Rs.bind, Rs.st] at p; exact p.elim
    | exc cc yy B2 =>
      simp only [qb, Rs.bind, Rs.st] at p
      refine tI_go s1 (fun c x B1 q w' cls dd H' x' rb r => ?_) (by rw [qb]; simp) fun d B1 q => by rw [qb] at q; cases q
      rw [qb] at q; cases q
      exact p w' cls dd H' rb ((x0.trans x1).trans x') r
    | ok d2 B2 =>
      simp only [qb, Rs.bind] at p
      refine tI_go s1 (fun c x B1 q => by rw [qb] at q; cases q) (by rw [qb]; simp) fun d B1' q w2 v2 H2 x2 s2 r2 => ?_
      rw [qb] at q; cases q
      have hz : szL [d1, d2] = true := decide_eq_true (show 2 ≤ sizeLine by rw [sizeLine_eq]; omega)
      simp only [hz, if_true, Rs.st, gT, gsC, gN, gs0, Option.bind] at p
      exact ⟨v, v2, rfl, PostS.le (x1.le.trans x2.le) p w2 _ H2 (Le.refl _) ((s2.set i (Rep.mono x2.le _ _ r1)).set j r2) ((x0.trans x1).trans x2)⟩
theorem z_par3 {i j l : Nat} {c3 : Expr} {mc : Ev} {x y z : Str} {px py pz pt : Pos} {kt k2 : Nat} {pt2 : Pos} (c : Ok g X) (hN : X.N.Nodup) (ha : Snd g E H0 X false a ma) (hb : Snd g E H0 X false b mb) (hc : Snd g E H0 X false c3 mc) (hw : swappedStores [.Tuple [.Name x px, .Name y py, .Name z pz] kt pt] (.Tuple [a, b, c3] k2 pt2) X.env = pure (some [x, y, z]) := by rfl)
    (hi : X.N[i]? = some x := by rfl) (hj : X.N[j]? = some y := by rfl) (hl : X.N[l]? = some z := by rfl) (hij : i ≠ j := by decide) (hil : i ≠ l := by decide) (hjl : j ≠ l := by decide) (hx : X.env.scope.names.lookup x = some .local := by rfl) (hy : X.env.scope.names.lookup y = some .local := by rfl) (hz : X.env.scope.names.lookup z = some .local := by rfl)
    (hs : swapsWithSole [.Tuple [.Name x px, .Name y py, .Name z pz] kt pt] (.Tuple [a, b, c3] k2 pt2) pos.line X.env = pure false := by rfl) (h1 : starEach [a, b, c3] X.env = (false, eval a X.env) :: starEach [b, c3] X.env := by rfl) (h2 : starEach [b, c3] X.env = (false, eval b X.env) :: starEach [c3] X.env := by rfl) (h3 : starEach [c3] X.env = (false, eval c3 X.env) :: starEach [] X.env := by rfl) :
    SndS g E w0 H0 X (.Assign [.Tuple [.Name x px, .Name y py, .Name z pz] kt pt] (.Tuple [a, b, c3] k2 pt2) pos) (mAsg (gT (gsC (gN i) (gsC (gN j) (gsC (gN l) gs0)))) (mTup (mCons ma (mCons mb (mCons mc mNil))))) := by
  refine weakS (ps_par3 c.calm hN hi hj hl hij hil hjl hx hy hz (pa_cons ha (pa_cons hb (pa_cons hc pa_nil h3) h2) h1) hw hs) ?_
  rintro D σ H ⟨w, σI, B, s, x0, p⟩
  unfold mAsg mTup mCons mNil at p
  cases qa : ma σI B with
  | bad => simp only [qa, Rs.bind, Rs.st] at p; exact p.elim
  | exc cc yy B1 =>
    simp only [qa, Rs.bind, Rs.st] at p
    refine tI_go s (fun c x B1 q w' cls dd H' x' rb r => ?_) (by rw [qa]; simp) fun d B1 q => by rw [qa] at q; cases q
    rw [qa] at q; cases q
    exact p w' cls dd H' rb (x0.trans x') r
  | ok d1 B1 =>
    simp only [qa, Rs.bind] at p
    refine tI_go s (fun c x B1 q => by rw [qa] at q; cases q) (by rw [qa]; simp) fun d B1' q w1 v H1 x1 s1 r1 => ?_
    rw [qa] at q; cases q
    cases qb : mb σI B1 with
    | bad => simp only [qb, Rs.bind, Rs.st] at p; exact p.elim
    | exc cc yy B2 =>
      simp only [qb, Rs.bind, Rs.st] at p
      refine tI_go s1 (fun c x B1 q w' cls dd H' x' rb r => ?_) (by rw [qb]; simp) fun d B1 q => by rw [qb] at q; cases q
      rw [qb] at q; cases q
      exact p w' cls dd H' rb ((x0.trans x1).trans x') r
    | ok d2 B2 =>
      simp only [qb, Rs.bind] at p
      refine tI_go s1 (fun c x B1 q => by rw [qb] at q; cases q) (by rw [qb]; simp) fun d B1' q w2 v2 H2 x2 s2 r2 => ?_
      rw [qb] at q; cases q
      cases qc : mc σI B2 with
      | bad => simp only [qc, Rs.bind, Rs.st] at p; exact p.elim
      | exc cc yy B2 =>
        simp only [qc, Rs.bind, Rs.st] at p
        refine tI_go s2 (fun c x B1 q w' cls dd H' x' rb r => ?_) (by rw [qc]; simp) fun d B1 q => by rw [qc] at q; cases q
        rw [qc] at q; cases q
        exact p w' cls dd H' rb (((x0.trans x1).trans x2).trans x') r
      | ok d3 B3 =>
        simp only [qc, Rs.bind] at p
        refine tI_go s2 (fun c x B1 q => by rw [qc] at q; cases q) (by rw [qc]; simp) fun d B1' q w3 v3 H3 x3 s3 r3 => ?_
        rw [qc] at q; cases q
        have hz : szL [d1, d2, d3] = true := decide_eq_true (show 3 ≤ sizeLine by rw [sizeLine_eq]; omega)
        simp only [hz, if_true, Rs.st, gT, gsC, gN, gs0, Option.bind] at p
        exact ⟨v, v2, v3, rfl, PostS.le ((x1.le.trans x2.le).trans x3.le) p w3 _ H3 (Le.refl _) (((s3.set i (Rep.mono (x2.le.trans x3.le) _ _ r1)).set j (Rep.mono x3.le _ _ r2)).set l r3) (((x0.trans x1).trans x2).trans x3)⟩
/-- self.f = e in an __init__, f the j-th field -/
def mFldJ (c j : Nat) (m : Ev) : Ms := fun σ B => match σ[(0 : Nat)]? with
  | some (some (true, .inst _ ds)) => if ds.length = j then mFldSet c m σ B else .bad
  | _ => .bad
end
end Hf

set_option Elab.async false
set_option linter.all false
set_option maxRecDepth 100000
set_option maxHeartbeats 4000000
namespace Hf
open PySem PySem.Spec PyProof.Rows L2

/-! ### the head: the law's call, no repr under way -/
theorem law_callG {P : Program} {w : World} {K : PySem.W.Frag} {mg mb : Str → Option Value} {CX : CXT} {k : Nat} {fa a : Addr} {fd : FuncData} {x : Str} {sp : Sp} {s₁ : Shared} {vs : List Value} {ns : List Int}
    (KX : K.In s₁.heap) (hns : s₁.heap.Ns mainGlobals mg) (hb : s₁.heap.Ns builtinsNs mb) (hbb : ∀ x : Str, x ≠ "__name__" → mb x = bootBuiltins x) (hlim : s₁.heap.NoLimit) (hg : s₁.gens = #[])
    (ha : s₁.heap.get? a = some { cls := .type "list", data := .seq vs.toArray }) (hi : IntsAre vs ns) (hl : ns.length ≤ sizeLine) (hr : Room k callerA)
    (F : ∀ base : Heap, K.In base → base.Ns mainGlobals mg → FnG P w K mg base CX k fa fd [x] sp) (hbind : ∀ (s : Shared) (uu : Value), BindsTo s fd ⟨[uu], []⟩ [(x, uu)])
    (hsp : ∀ H : Hp, Only H → SqL K H a (ns.map V.int) → sp [.ref a] H (fun v _ => v = .bl true) fun _ _ _ => False)
    (hCX : ∀ H e s', CX [] H s₁ (fun _ _ _ => False) e s' → False) :
    codeAny (model P w) callerA (.call (.ref fa) ⟨[.ref a], []⟩) (fun r s' => r = .ok (.ret (.bool true)) ∧ OldK s₁.heap s'.heap ∧ s'.os = s₁.os ∧ AllBare s'.gens) s₁ := by
  have rvs := vals_ints hi
  have lenVs := hi.length
  -- from an abstract heap in which nothing but the script may be tracked
  have main1 : ∀ H : Hp, Only H → SqL K H a (ns.map V.int) → HOk P w H s₁.heap → (∀ b, H b ≠ none → b = a) → (H a ≠ none → K.lookup a = none) →
      codeAny (model P w) callerA (.call (.ref fa) ⟨[.ref a], []⟩) (fun r s' => r = .ok (.ret (.bool true)) ∧ OldK s₁.heap s'.heap ∧ s'.os = s₁.os ∧ AllBare s'.gens) s₁ := by
    intro H hOn hSq hHO hAd hKn
    have inB : ∀ {b : Addr} {o : Obj}, s₁.heap.get? b = some o → H b = none → (hidT s₁.heap H).get? b = some o := fun e n => hidT_get e n
    have notD : ∀ {b : Addr} {o : Obj} {es : Array DictEntry} {ep : Nat}, s₁.heap.get? b = some o → o.data = .dict es ep → H b = none := fun {b o es ep} e d => by
      cases qq : H b with
      | none => rfl
      | some uu =>
        have ee : b = a := hAd b (by rw [qq]; simp)
        subst ee
        rw [ha] at e; cases e
        have dd' : Data.seq vs.toArray _ = Data.dict es ep := d
        cases dd'
    have nsB : ∀ {b : Addr} {m : Str → Option Value}, s₁.heap.Ns b m → (hidT s₁.heap H).Ns b m := fun {b m} ⟨o, es, ep, e, d, r⟩ => ⟨o, es, ep, inB e (notD e d), d, r⟩
    have hKB : K.In (hidT s₁.heap H) := fun b o e => inB (KX b o e) (by
      cases qq : H b with
      | none => rfl
      | some uu =>
        have ee : b = a := hAd b (by rw [qq]; simp)
        subst ee
        rw [hKn (by rw [qq]; simp)] at e; cases e)
    have hMod : Mod K mg (hidT s₁.heap H) := ⟨hKB, nsB hns, ⟨mb, nsB hb, hbb⟩, let ⟨mc, h1, h2⟩ := hlim; ⟨mc, nsB h1, h2⟩⟩
    have env1 : Env0 P w K mg (hidT s₁.heap H) callerA [] s₁ H := ⟨rfl, hMod, fun b o e => of_hidT e, Nat.le_of_eq (hidT_size _ _), trivial, fun b hb => absurd (show b ∈ ([] : List Addr) from hb) (by simp), hHO, .of_eq hg⟩
    refine codeAny_mono ((F _ hKB (nsB hns)).run callerA [] s₁ H ⟨[.ref a], []⟩ [.ref a] [.ref a] _ _ rfl hr env1 (hbind s₁ (.ref a)) (.cons rfl .nil) (hsp H hOn hSq)) fun r s' h => ?_
    cases r with
    | error e => exact (hCX H e s' h).elim
    | ok fl =>
      cases fl with
      | next => exact False.elim h
      | brk => exact False.elim h
      | cont => exact False.elim h
      | ret uu =>
        obtain ⟨v, H', os, bar, unn, hHO', rr', qq⟩ := h
        have qq' : v = .bl true := qq
        subst qq'
        obtain rfl : uu = Value.bool true := rr'
        refine ⟨rfl, OldK.of_keep fun b o e => ?_, os, bar⟩
        cases qq : H b with
        | none => exact unn.keep b o e qq (by intro zz; exact absurd (show b ∈ ([] : List Addr) from zz) (by simp)) (by simp)
        | some uu =>
          rcases hOn b with zz | ⟨obj, xx, zz⟩
          · rw [qq] at zz; cases zz
          · have zz2 := unn.frzs b obj _ zz
            obtain ⟨ee1, _⟩ := hHO b _ zz
            obtain ⟨ee2, _⟩ := hHO' b _ zz2
            rw [e] at ee1; cases ee1
            exact ee2
  cases hkk : K.lookup a with
  | some o =>
    -- the script is one of the module's own objects
    have e := KX a o hkk
    rw [ha] at e
    cases e
    refine main1 (fun _ => none) (fun _ => .inl rfl) (.inr ⟨_, vs.toArray, _, hkk, rfl, rfl, rfl, by rw [List.size_toArray, lenVs]; exact hl, by simpa using rvs⟩) (fun b uu zz => by have zz' : (none : Option HO) = some uu := zz; cases zz') (fun b zz => absurd rfl zz) fun zz => absurd rfl zz
  | none =>
    refine main1 (fun b => if b = a then some (.frz { cls := .type "list", data := .seq vs.toArray } (.lst (ns.map V.int))) else none) (fun b => ?_) (.inl (.inr ⟨{ cls := .type "list", data := .seq vs.toArray }, if_pos rfl⟩)) (fun b uu zz => ?_) (fun b zz => ?_) fun _ => hkk
    · by_cases hb : b = a
      · exact .inr ⟨_, _, if_pos hb⟩
      · exact .inl (if_neg hb)
    · by_cases hb : b = a
      · have zz' := (if_pos hb).symm.trans zz
        cases zz'
        subst hb
        exact ⟨ha, by rw [List.length_map]; exact hl, vs, _, rvs, ha⟩
      · have zz' := (if_neg hb).symm.trans zz
        cases zz'
    · by_cases hb : b = a
      · exact hb
      · exact absurd (if_neg hb) zz

theorem walkG {l : PySem.W.OpenLaw} {n k : Nat} {q : Program} {loose : List Str} {XP : (Str → Option Value) → Heap → Prop} {YP : World → Heap → Prop} {d : DefRec} {K : Params → PySem.W.Frag} {CX : World → CXT} {sp : World → Sp} {x : Str}
    (hn : l.most = some n) (hn2 : n ≤ sizeLine) (hdf : d.params.defaults = []) (hr : Room k callerA) (hY : ∀ (w : World) (h : Heap), YP w h → (K w.params).In h)
    (F : ∀ (w : World) (mg : Str → Option Value) (fa : Addr) (h : Heap), (K w.params).In h → h.Ns mainGlobals mg → mg d.name = some (.ref fa) → ∃ fd : FuncData, (∀ (s : Shared) (u : Value), BindsTo s fd ⟨[u], []⟩ [(x, u)]) ∧
      ∀ base : Heap, (K w.params).In base → base.Ns mainGlobals mg → FnG l.prog w (K w.params) mg base (CX w) k fa fd [x] (sp w))
    (hsp : ∀ (w : World) (H : Hp) (a : Addr) (ns : List Int), ns.length ≤ n → (∀ z ∈ ns, Builtin.Int.intBits z ≤ 1048576) → Only H → SqL (K w.params) H a (ns.map V.int) → sp w [.ref a] H (fun v _ => v = .bl true) fun _ _ _ => False)
    (hCX : ∀ (w : World) (H : Hp) (s : Shared) (e : Value) (s' : Shared), CX w [] H s (fun _ _ _ => False) e s' → False) : PySem.W.WalkO q loose XP YP l.row.toRowW d [] (fun f vs => PySem.call f vs) := by
  refine Att.attach_callB hn hdf fun w s₀ s₁ mg mb fa o pm cd doc a vs ns G Y ho hd hcd hmg hobj hints hlen hbits hg => ?_
  obtain ⟨fd, hb, hF⟩ := F w mg fa _ (hY w _ Y) G.T.g hmg
  exact law_callG (hY w _ Y) G.T.g G.T.b G.T.builtins G.T.nolimit hg hobj hints (Nat.le_trans hlen hn2) hr hF hb (fun H hO hS => hsp w H a ns hlen hbits hO hS) fun H e s' => hCX w H s₁ e s'
/-- the law's promise: a script of whole numbers is handed in, True comes out -/
def spL (K : PySem.W.Frag) : Sp := fun vs H Q _ => ∃ (a : Addr) (ns : List Int), vs = [.ref a] ∧ SqL K H a (ns.map V.int) ∧ ns.length ≤ 63 ∧ Only H ∧ ∀ H', Q (.bl true) H'
theorem top_promise {P : Program} {w : World} {K : PySem.W.Frag} {mg : Str → Option Value} {base : Heap} {CX : CXT} {k : Nat} {fa : Addr} {fd : FuncData} {x : Str} {g : Gs} {f : Fn} (hg : g.K = K) (F : FnG P w K mg base CX k fa fd [x] (spF g f))
    (hf : ∀ ns : List Int, ns.length ≤ 63 → ∃ B, f [.scr (ns.map D.int)] [] = .ok (.bool true) B) : FnG P w K mg base CX k fa fd [x] (spL K) := by
  subst hg
  have imp : ∀ vs H Q E, spL g.K vs H Q E → spF g f vs H Q E := by
    rintro vs H Q E ⟨a, ns, rfl, hS, hl, hO, hq⟩
    obtain ⟨B, hB⟩ := hf ns hl
    refine ⟨{ P := H, io := fun _ => Option.none }, [.scr (ns.map D.int)], [], ⟨Same.refl _, fun n b e => by simp at e, fun _ _ _ e => (nomatch e), fun _ _ e => (nomatch e), fun _ _ e => (nomatch e)⟩, ?_, ?_⟩
    · simp only [Reps, Rep]
      exact ⟨_, _, rfl, ⟨a, ns.map V.int, rfl, hS, reps_ints g _ ns⟩, rfl⟩
    · rw [hB]
      intro w' v H' _ _ r
      simp only [Rep] at r
      subst r
      exact hq H'
  exact ⟨fun vs H Q E h => F.len vs H Q E (imp _ _ _ _ h), fun A outer s H args us vs Q E hg hr e0 hb r h => F.run A outer s H args us vs Q E hg hr e0 hb r (imp _ _ _ _ h)⟩
/-! ### isinstance's answers from a class's record -/
theorem kit_obj {K : PySem.W.Frag} {C : Addr} {b : String} (h : PySem.W.mroIn K C (.type b) = some false) (hm : PySem.W.kitMeta b = true := by decide +kernel) : PySem.W.kitOne K (.ref C) (.type b) = some false := by
  have e : (Value.ref C == Value.type b) = false := beq_eq_false_iff_ne.mpr (fun z => nomatch z)
  unfold PySem.W.kitOne PySem.W.kitCls
  simp only [e, Bool.false_eq_true, if_false, hm, if_true]
  exact h
theorem kit_self {K : PySem.W.Frag} {C : Addr} : PySem.W.kitOne K (.ref C) (.ref C) = some true := by
  unfold PySem.W.kitOne
  rw [if_pos (beq_self_eq_true _)]
theorem mro_no (C : Addr) : ∀ T ∈ ["NoneType", "int", "bool", "str", "list", "tuple", "dict"], (fastBuiltinMro T).map (·.contains (Value.ref C)) = some false := by
  intro T h
  simp only [List.mem_cons, List.not_mem_nil, or_false] at h
  rcases h with rfl | rfl | rfl | rfl | rfl | rfl | rfl <;> kernel_rfl
theorem kit_own {K : PySem.W.Frag} {C : Addr} {T : String} (hT : T ∈ ["NoneType", "int", "bool", "str", "list", "tuple", "dict"]) (hi : PySem.W.isClsIn K C = true) (ht : PySem.W.typeIn K (.ref C) = some (.type "type")) : PySem.W.kitOne K (.type T) (.ref C) = some false := by
  have e : (Value.type T == Value.ref C) = false := beq_eq_false_iff_ne.mpr (fun z => nomatch z)
  have hc : (PySem.W.clsIn K C).isSome = true := hi
  unfold PySem.W.kitOne PySem.W.kitCls
  simp only [e, Bool.false_eq_true, if_false, hc, ht, beq_self_eq_true, Bool.and_self, if_true]
  exact mro_no C T hT
end Hf

set_option Elab.async false
set_option linter.all false
set_option maxRecDepth 100000
set_option maxHeartbeats 8000000
namespace Hf
open PySem PySem.Spec PyProof.Rows L2

/-! ### a set of whole numbers, made of a list -/
theorem dd_more {ks : List Int} {i : Nat} {k : Int} (h : ks[i]? = some k) : (dd (ks.take (i + 1))).length = if decide (k ∈ ks.take i) = true then (dd (ks.take i)).length else (dd (ks.take i)).length + 1 := by
  have e : ks.take (i + 1) = ks.take i ++ [k] := by rw [List.take_add_one, h]; rfl
  by_cases c : k ∈ ks.take i
  · rw [decide_eq_true c, if_pos rfl]
    refine nodup_len (nodup_dd _) (nodup_dd _) fun a => ?_
    rw [mem_dd, mem_dd, e, List.mem_append, List.mem_singleton]
    exact ⟨fun h => h.elim id fun h => h ▸ c, .inl⟩
  · rw [decide_eq_false c, if_neg (by decide)]
    have : (dd (ks.take i)).length + 1 = (k :: dd (ks.take i)).length := rfl
    rw [this]
    refine nodup_len (nodup_dd _) (List.nodup_cons.mpr ⟨fun h => c (mem_dd.mp h), nodup_dd _⟩) fun a => ?_
    rw [mem_dd, e, List.mem_append, List.mem_singleton, List.mem_cons, mem_dd]
    exact ⟨fun h => h.elim .inr .inl, fun h => h.elim .inr .inl⟩
section
variable {P : Program} {w : World} {A : Around}
theorem set_update_ints {I : Addr} {fp wr : List Addr} {G : Array GenState → Array GenState → Prop} {n : Nat} {Pv : Nat → Value → Prop} {St : Nat → Shared → Prop} {R : Result → Shared → Prop}
    (W : WalksS P w A.in1 I fp wr G n Pv St) (S : Addr) (hSf : S ∉ fp) (ks : List Int) (hn : n = ks.length) (hfew : ks.length < 64) (hval : ∀ i v, Pv i v → ∃ k t, ks[i]? = some k ∧ v = .int k t)
    (h0 : Heap) (hS0 : h0.get? S = none) (hw0 : ∀ b ∈ wr, h0.get? b = none) :
    ∀ (k i : Nat) (s : Shared), n - i = k → i ≤ n → St i s → (∀ b o, h0.get? b = some o → s.heap.get? b = some o) → SetR w s.heap S (fun j => decide (j ∈ ks.take i)) (dd (ks.take i)).length →
      (∀ s', Moved (S :: wr) G s s' → SetR w s'.heap S (fun j => decide (j ∈ ks)) (dd ks).length → (∀ b o, h0.get? b = some o → s'.heap.get? b = some o) → R (.ok (.ret .none)) s') →
      codeAny (model P w) A (.builtin "set.update.loop" ⟨[.ref S, .ref I], []⟩) R s := by
  have hSw : S ∉ wr := fun h => hSf (W.sub _ h)
  have hsub : ∀ b ∈ wr, b ∈ S :: wr := fun b hb => List.mem_cons_of_mem _ hb
  have keepM : ∀ {s s' : Shared}, Moved wr G s s' → (∀ b o, h0.get? b = some o → s.heap.get? b = some o) → ∀ b o, h0.get? b = some o → s'.heap.get? b = some o := fun hm hkp b o e =>
    hm.heap b o (fun hb => by rw [hw0 b hb] at e; cases e) (hkp b o e)
  intro k
  induction k with
  | zero =>
    intro i s hk' hi hst hkp hS hR
    have hin : i = n := by omega
    subst hin
    refine codeAny_builtin PyProof.Rows.F.entry_set_update_loop ?_
    rw [Around.under_plainId PyProof.Rows.F.plain_set_update_loop _]
    show wpAny _ A.in1 (pyNext (.ref I) >>= _) _ _ s
    refine wpAny_bind (W.done s _ _ hst fun s' hm => ?_)
    show wpAny _ A.in1 (ret Value.none) _ _ s'
    have hS' := hS.at fun o e => hm.heap S o hSw e
    rw [hn, List.take_length] at hS'
    exact wpAny_pure (hR s' (hm.mono hsub) hS' (keepM hm hkp))
  | succ k ih =>
    intro i s hk' hi hst hkp hS hR
    have hlt : i < n := by omega
    refine codeAny_builtin PyProof.Rows.F.entry_set_update_loop ?_
    rw [Around.under_plainId PyProof.Rows.F.plain_set_update_loop _]
    show wpAny _ A.in1 (pyNext (.ref I) >>= _) _ _ s
    refine wpAny_bind (W.item i s _ _ hlt hst fun v s' hP hst' hm => ?_)
    obtain ⟨x, t, hx, rfl⟩ := hval i v hP
    have hkp' := keepM hm hkp
    have hS' : SetR w s'.heap S (fun j => decide (j ∈ ks.take i)) (dd (ks.take i)).length := hS.at fun o e => hm.heap S o hSw e
    have few : (dd (ks.take i)).length < 64 := Nat.lt_of_le_of_lt (dd_le _) (by rw [List.length_take]; omega)
    show wpAny _ A.in1 (holding [Value.int x t] (setAdd S (.int x t)) >>= _) _ _ s'
    refine wpAny_bind (wpAny_holding ?_)
    unfold setAdd
    refine wpAny_holding ?_
    refine wpAny_bind ((intKind P w).pyHash (intKind_is P w x t) ?_)
    refine setR_add_hashed (s := { s' with toks := s'.toks + 1 }) hS' (by unfold scanBound; omega) fun h' hsb hS2 => ?_
    have hS3 : SetR w h' S (fun j => decide (j ∈ ks.take (i + 1))) (dd (ks.take (i + 1))).length := by
      rw [dd_more hx]
      refine hS2.congr fun j => ?_
      have e : ks.take (i + 1) = ks.take i ++ [x] := by rw [List.take_add_one, hx]; rfl
      rw [e]
      simp
    have hkp2 : ∀ b o, h0.get? b = some o → h'.get? b = some o := fun b o e => (hsb.2 b (fun z => by rw [z, hS0] at e; cases e)).trans (hkp' b o e)
    refine wpAny_pure ⟨plainId_quiet PyProof.Rows.F.plain_set_update_loop _, ih (i + 1) _ (by omega) hlt (W.frame _ s' _ _ hst' (Nat.le_add_right _ _) fun b hb o e => ?_) hkp2 hS3 fun s'' hm'' hS'' hkp'' => ?_⟩
    · rw [hsb.2 b (fun h : b = S => hSf (by rw [← h]; exact hb))]; exact e
    · refine hR s'' (Moved.trans W.gtrans ((hm.mono hsub).then_heap (Nat.le_add_right _ _) fun b o hb e => ?_) hm'') hS'' hkp''
      rw [hsb.2 b (fun h : b = S => hb (by rw [h]; exact List.mem_cons_self))]; exact e
end
section
variable {g : Gs} {E : XK} {H0 : Hp} {X : Cx}
theorem sub_list_set : isSubtype (.type "list") (.type "set") = pure false := by
  rw [isSubtype_type]; kernel_rfl
theorem sub_list_frozenset : isSubtype (.type "list") (.type "frozenset") = pure false := by
  rw [isSubtype_type]; kernel_rfl
theorem ints_at : ∀ {us : List Value} {xs : List Int}, IntsAre us xs → ∀ (i : Nat) (v : Value), us[i]? = some v → ∃ k t, xs[i]? = some k ∧ v = .int k t
  | _, _, .nil, i, v, h => by simp at h
  | _, _, .cons n t hr, 0, v, h => by simp at h; exact ⟨n, t, rfl, h.symm⟩
  | _, _, .cons n t hr, i + 1, v, h => by
    simp only [List.getElem?_cons_succ] at h ⊢
    exact ints_at hr i v h
def rSetOf (K : PySem.W.Frag) (w : World) : List V → Hp → VK → Prop := fun vs H Q => ∃ (l : Addr) (ns : List Int), vs = [V.ref l] ∧ (SqL K H l (ns.map V.int) ∨ SqT K H l (ns.map V.int)) ∧ ns.length < 64 ∧
  ∀ p, H p = none → Q (.ref p) (upd H p (SetO w p (fun j => decide (j ∈ ns)) (dd ns).length))
theorem cr_setOf (hc : X.calm = true) : CallR X (.type "set") (rSetOf X.K X.w) := by
  intro pins s σ H vs us Q I r h
  obtain ⟨l, ns, rfl, hs, hfew, q⟩ := h
  rw [Vals.ref1 r]
  have hh : X.A.handled = Option.none := I.ok.hd hc
  have hz1 : (s.heap.push (newSet X.w)).objs.size = s.heap.objs.size + 1 := Heap.size_push ..
  have hS : (s.heap.push (newSet X.w)).get? s.heap.objs.size = some (newSet X.w) := Heap.get?_push_size _ rfl
  have fin : ∀ (h' : Heap) (tk : Nat), SetR X.w h' s.heap.objs.size (fun j => decide (j ∈ ns)) (dd ns).length → (∀ b o, s.heap.get? b = some o → h'.get? b = some o) → EP X pins σ Q (.ref s.heap.objs.size) { s with heap := h', toks := tk } := fun h' tk hT hk' =>
    ⟨.ref _, upd H s.heap.objs.size (SetO X.w s.heap.objs.size (fun j => decide (j ∈ ns)) (dd ns).length), I.laid (t' := tk) hk' (Nat.le_refl _) (setO_new hT), rfl, q _ (I.hok.fresh (Nat.le_refl _))⟩
  have fresh : ∀ (ito : Obj), SetR X.w ((s.heap.push (newSet X.w)).push ito) s.heap.objs.size (fun j => decide (j ∈ ns.take 0)) (dd (ns.take 0)).length := fun ito => by
    have h1 := (setR_fresh (h := s.heap) X.w).at (h' := (s.heap.push (newSet X.w)).push ito) fun o e => Heap.get?_push_of_some _ e
    exact h1.congr fun k => by simp
  have val : ∀ its : List Value, Vals (ns.map V.int) its → ∀ (i : Nat) (v : Value), its.toArray[i]? = some v → ∃ k t, ns[i]? = some k ∧ v = .int k t := fun its rv i v hv => ints_at rv.ints i v (by simpa using hv)
  rcases hs with hs | hs
  · obtain ⟨its, rv, ⟨⟨cls, od, data, sl⟩, ho, hcl, n, hd⟩, hz⟩ := let ⟨its, rv, p, hz⟩ := I.list hs; (⟨its, rv, p.isList, hz⟩ : ∃ its, Vals (ns.map V.int) its ∧ s.heap.IsList l its.toArray ∧ _)
    simp only at hcl hd
    subst hcl hd
    have hlS : l < s.heap.objs.size := Heap.lt_size ho
    have hsz : its.toArray.size = ns.length := by rw [List.size_toArray, ← rv.length, List.length_map]
    refine set_of (P := X.prog) (w := X.w) (Fin := fun h => SetR X.w h s.heap.objs.size (fun j => decide (j ∈ ns)) (dd ns).length) ho sub_list_set sub_list_frozenset (by decide) (fun A' E' s2 Q' h1 h2 => wpAny_pyIter_list ⟨_, h1, rfl, _, rfl⟩ h2) (fun R hR => ?_) fun h' tk hT hk' => fin h' tk hT hk'
    have Wk := (Walks.list (prog := X.prog) (w := X.w) (A := X.A.in1.in1.in1) (by simp [hh]) (s.heap.push (newSet X.w)).objs.size l (Nat.ne_of_lt (by rw [hz1]; exact Nat.lt_succ_of_lt hlS)) its.toArray).toS
    refine set_update_ints Wk s.heap.objs.size ?_ ns hsz hfew (fun i v hv => val its rv i v hv) s.heap (heap_none (Nat.le_refl _)) (fun b hb => ?_) (its.toArray.size - 0) 0 _ (by omega) (Nat.zero_le _)
      ⟨⟨_, Heap.get?_push_size _ rfl, rfl, rfl⟩, ⟨_, Heap.get?_push_of_some _ (Heap.get?_push_of_some _ ho), rfl, _, rfl⟩⟩ (fun b o e => Heap.get?_push_of_some _ (Heap.get?_push_of_some _ e)) (fresh _) ?_
    · simp only [List.mem_cons, List.not_mem_nil, or_false, not_or]
      exact ⟨Nat.ne_of_lt (by rw [hz1]; exact Nat.lt_succ_self _), Nat.ne_of_gt hlS⟩
    · rw [List.mem_singleton.mp hb]
      exact heap_none (by rw [hz1]; exact Nat.le_succ _)
    · rintro ⟨h', g2, d', tk', os'⟩ hm' hT hkp
      have eg : g2 = s.gens := hm'.gens
      have ed : d' = s.drawn := hm'.drawn
      have eo : os' = s.os := hm'.os
      subst eg ed eo
      exact hR h' tk' hT hkp
  · obtain ⟨its, rv, ⟨⟨cls, od, data, sl⟩, ho, hcl, n, hd⟩, hz⟩ := I.tuple hs
    simp only at hcl hd
    subst hcl hd
    have hlS : l < s.heap.objs.size := Heap.lt_size ho
    have hsz : its.toArray.size = ns.length := by rw [List.size_toArray, ← rv.length, List.length_map]
    refine set_of (P := X.prog) (w := X.w) (Fin := fun h => SetR X.w h s.heap.objs.size (fun j => decide (j ∈ ns)) (dd ns).length) ho sub_tuple_set sub_tuple_frozenset (by decide) (fun A' E' s2 Q' h1 h2 => wpAny_pyIter_tuple ⟨_, h1, rfl, _, rfl⟩ h2) (fun R hR => ?_) fun h' tk hT hk' => fin h' tk hT hk'
    have Wk := (Walks.tuple (prog := X.prog) (w := X.w) (A := X.A.in1.in1.in1) (by simp [hh]) (s.heap.push (newSet X.w)).objs.size l (Nat.ne_of_lt (by rw [hz1]; exact Nat.lt_succ_of_lt hlS)) its.toArray).toS
    refine set_update_ints Wk s.heap.objs.size ?_ ns hsz hfew (fun i v hv => val its rv i v hv) s.heap (heap_none (Nat.le_refl _)) (fun b hb => ?_) (its.toArray.size - 0) 0 _ (by omega) (Nat.zero_le _)
      ⟨⟨_, Heap.get?_push_size _ rfl, rfl, rfl⟩, ⟨_, Heap.get?_push_of_some _ (Heap.get?_push_of_some _ ho), rfl, _, rfl⟩⟩ (fun b o e => Heap.get?_push_of_some _ (Heap.get?_push_of_some _ e)) (fresh _) ?_
    · simp only [List.mem_cons, List.not_mem_nil, or_false, not_or]
      exact ⟨Nat.ne_of_lt (by rw [hz1]; exact Nat.lt_succ_self _), Nat.ne_of_gt hlS⟩
    · rw [List.mem_singleton.mp hb]
      exact heap_none (by rw [hz1]; exact Nat.le_succ _)
    · rintro ⟨h', g2, d', tk', os'⟩ hm' hT hkp
      have eg : g2 = s.gens := hm'.gens
      have ed : d' = s.drawn := hm'.drawn
      have eo : os' = s.os := hm'.os
      subst eg ed eo
      exact hR h' tk' hT hkp
/-! ### sorted(set(xs)), len(set(xs)) -/
variable {e : Expr} {m : Ev} {b1 : Bool} {p p2 q pos : Pos}
theorem srt_of_set {ns ks : List Int} (h1 : ns.Pairwise (· < ·)) (h2 : ∀ k, k ∈ ns ↔ decide (k ∈ ks) = true) : ns = srt (dd ks) := by
  refine srt_uniq ((List.perm_ext_iff_of_nodup (List.Pairwise.imp (fun h => Int.ne_of_lt h) h1) (nodup_dd ks)).mpr fun a => ?_) (List.Pairwise.imp (fun h => Int.le_of_lt h) h1)
  rw [h2, mem_dd, decide_eq_true_eq]
def fSrtSet : D → Bs → Rs D
  | .lst ds, B => match intsA ds with
    | some ns => if ns.length < 64 then .ok (.lst ((srt (dd ns)).map D.int)) B else .bad
    | Option.none => .bad
  | .tup ds, B => match intsA ds with
    | some ns => if ns.length < 64 then .ok (.lst ((srt (dd ns)).map D.int)) B else .bad
    | Option.none => .bad
  | _, _ => .bad
theorem newL2 {w : Wd} {σI : Sl} {B : Bs} {σ : L2.St} {H : Hp} {Q : VK} {ds : List D} {vs : List V} {p p' : Addr} {o : HO} (s : S0 g H0 w σI B σ H) (h : PostF g E w H Q (.ok (.lst ds) B)) (r : Reps g w ds vs) (hp : H p = Option.none) (hp' : upd H p o p' = Option.none) : Q (.ref p') (upd (upd H p o) p' (.lst vs)) := by
  have h0 : H p' = Option.none := by
    unfold upd at hp'
    split at hp'
    · cases hp'
    · exact hp'
  exact h w p' _ _ ((Ext.lay hp).trans (Ext.lay hp')) ((s.rb.lay hp).lay hp') upd_same (by simp only [Cont]; exact ⟨vs, rfl, r⟩) h0 (s.rb.fresh_P h0) (s.rb.fresh_io h0) (by simp)
theorem f_srtSet (ok : Ok g X) (ha : Snd g E H0 X b1 e m) (hg : Gl X "sorted" := by rfl) (hg2 : Gl X "set" := by rfl) (na : starEach [e] X.env = (false, eval e X.env) :: starEach [] X.env := by rfl)
    (nb : starEach [.Call (.Name "set" p2) [e] [] q] X.env = (false, eval (.Call (.Name "set" p2) [e] [] q) X.env) :: starEach [] X.env := by rfl) :
    SndF g E H0 X (.Call (.Name "sorted" p) [.Call (.Name "set" p2) [e] [] q] [] pos) (m1 fSrtSet m) := by
  have h1 := pe_callTy (p := p2) (pos := q) (cr_setOf ok.calm) hg2 (nbs ok) PyProof.Rows.boot_set (pa_cons ha pa_nil na) (by decide) (by decide) na rfl
  refine weak (pe_callB (cr_sortedSet ok.calm) hg (nbs ok) bt_sorted (pa_cons h1 pa_nil nb) (by decide) (by decide) nb rfl) ?_
  rintro σ H Q ⟨w, σI, B, s, p⟩
  refine tI_bindF s p fun d B1 w1 v H1 x1 s1 r1 p1 => ?_
  unfold fSrtSet at p1
  split at p1
  · split at p1
    · rename_i ns hn
      split at p1
      · rename_i hl
        have r := r1.up
        rw [intsA_map hn] at r
        obtain ⟨a, vs, rfl, q, r⟩ := r.lst s1
        rw [r.ints] at q
        exact ⟨a, ns, rfl, .inl (.inl (.inl q)), hl, fun p hp => ⟨p, _, _, rfl, upd_same, Nat.lt_of_le_of_lt (dd_le ns) hl, fun ns' p' k1 k2 k3 k4 => by
          rw [srt_of_set k1 k2]
          exact newL2 s1 p1 (reps_ints g w1 _) hp k4⟩⟩
      · exact p1.elim
    · exact p1.elim
  · split at p1
    · rename_i ns hn
      split at p1
      · rename_i hl
        have r := r1.up
        rw [intsA_map hn] at r
        obtain ⟨a, vs, rfl, q, r⟩ := r.tup s1
        rw [r.ints] at q
        exact ⟨a, ns, rfl, .inr (ok.K ▸ q), hl, fun p hp => ⟨p, _, _, rfl, upd_same, Nat.lt_of_le_of_lt (dd_le ns) hl, fun ns' p' k1 k2 k3 k4 => by
          rw [srt_of_set k1 k2]
          exact newL2 s1 p1 (reps_ints g w1 _) hp k4⟩⟩
      · exact p1.elim
    · exact p1.elim
  · exact p1.elim
end
/-! ### defs with defaults -/
section
variable {g : Gs} {k : Nat}
theorem fund_mk {K : PySem.W.Frag} {x qual : Str} {st : Stmt} {f : Addr} {oc : Value} {od an : Option Addr} {osl : Array (Option Value)} {dV kV doc pm cdv ct : Value} {dvs : List V} (l : K.lookup f = some ⟨oc, od, .func (PySem.W.fnOf x qual (defArgs st) (defBody st) (defScope st) dV kV doc pm an cdv ct), osl⟩)
    (c : PySem.W.codeIn K cdv qual = true) (kp : PySem.W.keepIn K (.ref f) = true) (hd : dvs ≠ []) (hD : ∃ (T : Addr) (o : Obj) (its : List Value) (n : Nat), dV = .ref T ∧ K.lookup T = some o ∧ o.data = .seq its.toArray n ∧ Vals dvs its) :
    FunD K x qual (defArgs st) (defBody st) (defScope st) dvs [] f (PySem.W.fnOf x qual (defArgs st) (defBody st) (defScope st) dV kV doc pm an cdv ct) := ⟨⟨oc, od, dV, kV, doc, pm, an, cdv, ct, osl, rfl, l, c, .inr ⟨hd, hD⟩, .inl rfl⟩, kp⟩
theorem def_okD {x qual : Str} {st : Stmt} {fa : Addr} {fd : FuncData} {N ps : List Str} {n : Nat} {b : Ms} {dvs : List V} {kws : List (Str × V)} (F : FunD g.K x qual (defArgs st) (defBody st) (defScope st) dvs kws fa fd) (S : FnScope N ps (defScope st)) (hn : ps.length = n) (hN : n ≤ N.length)
    (fx : Fx g) (hb : ∀ (E : XK) (w0 : Wd) (H0 : Hp) (X : Cx), OkC g E k X → PassesOwn (model X.prog X.w) X.A X.env X.xe → Takes X (fun cls d _ H => E cls d H) → X.N = N → X.env.scope = defScope st → X.fn = (fun _ => true) → SndB g E w0 H0 X (defBody st) b) :
    FnOk g.prog g.w g.K g.mg g.base (L2.CX g.prog g.w) (k + 1) fa fd ps (spF g (mkFn n N.length b)) := by
  refine F.ok S (fun vs H Q E h => ?_) (fun cdv A outer s H vs Q E hr h => ?_)
  · obtain ⟨w, ds, B, rb, r, p⟩ := h
    unfold mkFn at p
    split at p
    · rename_i e; rw [r.len, e, hn]
    · exact p.elim
  · obtain ⟨w, ds, B, rb, r, p⟩ := h
    unfold mkFn at p
    split at p
    · rename_i e
      refine ⟨_, hb E w H _ ⟨⟨rfl, rfl, rfl, ?_, rfl, rfl, rfl, fx⟩, hr, ?_⟩ (passes_of rfl) (takes_of rfl rfl rfl rfl) rfl rfl rfl, ?_⟩
      · have := hr.un; show A.units + 3 + 100 < cLine; have h2 : A.units + 3 + 16 * k + 200 < cLine := this; omega
      · exact passes_call (takes_of rfl rfl rfl rfl) (fun _ _ _ _ h => h)
      · refine ⟨w, _, B, start_at rb r e hN, Ext.refl _ _, ?_⟩
        revert p
        generalize b _ B = q
        intro p
        cases q with
        | next σI' B' => exact fun w' σ H' _ s x => p w' .non H' x s.rb (rep_none g w')
        | ret d B' => exact fun w' v H' rb x r => p w' v H' x rb r
        | exc c y B' => exact fun w' cls dd H' rb x r => p w' cls dd H' x rb r
        | bad => exact p
    · exact p.elim
end
end Hf

set_option Elab.async false
set_option linter.all false
set_option maxRecDepth 100000
set_option maxHeartbeats 8000000
namespace Hf
open PySem PySem.Spec PyProof.Rows L2
section
variable {g : Gs} {E : XK} {w0 w : Wd} {H0 H : Hp} {X : Cx} {e : Expr} {pos p : Pos} {x : Str} {f : Fn} {lv k : Nat} {dfl : List D} {σI : Sl} {σ : L2.St} {B : Bs} {Q : VK}
theorem s_callG0 (c : OkG g E lv X) (d : DefG g k x dfl f) (hk : k ≤ lv) (hg : Gl X x := by rfl) (hdb : (x == ("__debug__" : Str)) = false := by decide) : Snd g E H0 X false (.Call (.Name x p) [] [] pos) (mCall f dfl mNil) := by
  obtain ⟨fa, fd, ps, dvs, ds, F, hm, kp, b, hd, hr⟩ := d
  obtain ⟨prog, w', K, mg, base, A, N, s_0, H_0, env, outer, stack, ex, fn, calm, pn, xe⟩ := X
  obtain ⟨⟨⟨h1, h2, h3, h4, h5, h6, h7, hfx⟩, h8, h9⟩, h10⟩ := c
  simp only at h1 h2 h5 h6 h7
  subst h1 h2 h5 h6 h7
  refine weak (t := tCall (spF g f) dvs E tNil) ⟨fun pins s σ H Q I h => ?_⟩ ?_
  · refine wpAny_Call_Name_kw (ld_glob I hg hm ?_ hdb)
    exact PySem.W.callWith_K0 I.kIn kp (run_g (us := []) F h10 (h8.mono hk) b hd h9 I .nil h)
  · rintro σ H Q ⟨w, σI, B, s, p⟩
    exact ⟨w, [] ++ dfl, B, s.rb, Reps.app (by simp only [Reps]) (hr w), PostC.of s p⟩
end
end Hf

set_option Elab.async false
set_option linter.all false
set_option maxRecDepth 100000
set_option maxHeartbeats 8000000
namespace Hf
open PySem PySem.Spec PyProof.Rows L2
section
variable {g : Gs} {E : XK} {w0 w : Wd} {H0 H : Hp} {X : Cx} {o e a b : Expr} {es : List Expr} {m ma mb mo : Ev} {ms : Evs} {pos p p1 p2 apos cpos : Pos} {x n : Str} {f : Fn} {lv k c : Nat} {dfl : List D} {σI : Sl} {σ : L2.St} {B : Bs} {Q : VK} {b1 b2 bo : Bool} {i : Nat}
/-! ### t.index(x), l.index(x): the first place of an equal one -/
def ixD (d : D) : List D → Option Nat
  | [] => Option.none
  | z :: r => if PyData.eqv (toPy z) (toPy d) then some 0 else (ixD d r).map (· + 1)
theorem ixD_some {d : D} : ∀ {l : List D} {j : Nat}, ixD d l = some j → ∃ z, (toPys l)[j]? = some z ∧ PyData.eqv z (toPy d) = true ∧ ∀ (m : Nat) (z' : PyData), m < j → (toPys l)[m]? = some z' → PyData.eqv z' (toPy d) = false
  | [], j, h => by cases h
  | z :: r, j, h => by
    unfold ixD at h
    split at h
    · rename_i e
      cases h
      exact ⟨toPy z, by simp [toPys], e, fun m _ hm => absurd hm (Nat.not_lt_zero _)⟩
    · rename_i e
      obtain ⟨q, h1, rfl⟩ := Option.map_eq_some_iff.mp h
      obtain ⟨z1, a1, a2, a3⟩ := ixD_some h1
      refine ⟨z1, by simpa [toPys] using a1, a2, fun m z' hm hz => ?_⟩
      cases m with
      | zero =>
        have : z' = toPy z := by simpa [toPys] using hz.symm
        rw [this]; exact Bool.eq_false_iff.mpr e
      | succ m => exact a3 m z' (by omega) (by simpa [toPys] using hz)
def fIdx : D → D → Bs → Rs D
  | .tup ds, d, B => if shp (.tup ds) && shp d then (match ixD d ds with
    | some j => .ok (.int (j : Nat)) B
    | Option.none => .bad) else .bad
  | .lst ds, d, B => if shp (.lst ds) && shp d then (match ixD d ds with
    | some j => .ok (.int (j : Nat)) B
    | Option.none => .bad) else .bad
  | _, _, _ => .bad
def rIdxT (K : PySem.W.Frag) : V → List V → Hp → VK → Prop := fun x xs H Q => ∃ (a : Addr) (y : V) (d : PyData) (ds : List PyData) (j : Nat) (z : PyData), x = V.ref a ∧ xs = [y] ∧ Dp K H (V.ref a) (.tuple ds) ∧ Dp K H y d ∧
  SeqAt.shaped (.tuple ds) = true ∧ SeqAt.shaped d = true ∧ ds[j]? = some z ∧ PyData.eqv z d = true ∧ (∀ (m : Nat) (z' : PyData), m < j → ds[m]? = some z' → PyData.eqv z' d = false) ∧ Q (.int (j : Nat)) H
theorem mt_idxT (hu : X.A.units + 65 < cLine) : MtR X "tuple.index" (rIdxT X.K) := by
  intro pins s σ H x xs v us Q I rx rxs h
  obtain ⟨t, y, d, ds, j, z, rfl, rfl, hl, hy, sl, sd, hz, hzj, hno, q⟩ := h
  cases rx
  obtain ⟨uy, rfl, ry⟩ := vals1 rxs
  obtain ⟨bs, r1⟩ := Dp.reads I d y uy hy ry
  have hxs : PyData.canLayAll0 ds = true := SeqAt.canLay_of_shaped sl
  have hroom : X.A.units + 1 + min (PyData.depthAll ds) d.depth < cLine := room_in_shaped sd hu
  cases hl with
  | tup hs ha =>
    obtain ⟨its, rv, ⟨⟨cls, dd, data, sls⟩, ho, hc, n, hdt⟩, hlen⟩ := I.tuple hs
    simp only at hc hdt
    subst hc hdt
    obtain ⟨as, h4⟩ := Dp.readsAll I ds _ its ha rv
    have hn : its.length = ds.length := SeqAt.ReadsAll.length ds its as h4
    have hmap : its.map (SeqAt.readOf s.heap) = ds := SeqAt.readsAll_map ds its as hxs h4
    obtain ⟨hjd, _⟩ := List.getElem?_eq_some_iff.mp hz
    have hjl : j < its.length := by omega
    have hj : j < its.toArray.size := by simpa using hjl
    have at_ : ∀ (q : Nat) (hq : q < its.toArray.size) (z1 : PyData), ds[q]? = some z1 → SeqAt.readOf s.heap its.toArray[q] = z1 := by
      intro q hq z1 e
      have ql : q < its.length := by simpa using hq
      rw [← hmap, List.getElem?_map, List.getElem?_eq_getElem ql] at e
      have e1 : SeqAt.readOf s.heap its[q] = z1 := Option.some.inj e
      simpa using e1
    refine call_meets PySem.F.slot_tuple_index ⟨_, ho, rfl⟩ PySem.F.entry_tuple_index (PySem.F.args_tuple_index_2 _ _)
      (TI.tuple_indexAt t its.toArray n dd sls uy (fun u => PyData.eqv (SeqAt.readOf s.heap u) d) j hj ?_ ?_) ⟨ho, SeqAt.items_eqAt (vs := its.toArray) (show ReadsAll s.heap its.toArray.toList ds as from h4) r1 hxs (SeqAt.canLay_of_shaped sd) hroom, ?_⟩
    · show PyData.eqv (SeqAt.readOf s.heap its.toArray[j]) d = true
      rw [at_ j hj z hz]; exact hzj
    · intro q hq hqj
      have qd : q < ds.length := by omega
      have e := List.getElem?_eq_getElem qd
      show PyData.eqv (SeqAt.readOf s.heap its.toArray[q]) d = false
      rw [at_ q hq _ e]; exact hno q _ hqj e
    · exact ⟨.int (j : Nat), H, I.tok _, ⟨_, rfl⟩, q⟩
/-- an own tuple that has no dict -/
def tBMt (K : PySem.W.Frag) (r : V → List V → Hp → VK → Prop) (to : TE) (t : TA) : TE := fun σ H Q => to σ H fun x H1 => (∃ a xs, x = V.ref a ∧ SqN K H1 a xs) ∧ t σ H1 fun vs H2 => r x vs H2 Q
theorem sqN_is {pins : List (Addr × Obj)} {σ : L2.St} {H : Hp} {s : Shared} {a : Addr} {xs : List V} (I : Inv X pins σ H s) (h : SqN X.K H a xs) : s.TypeIs (.ref a) "tuple" ∧ ∀ q, (Value.ref a) = .ref q → ∃ ob, s.heap.get? q = some ob ∧ ob.dict = Option.none := by
  rcases h with ⟨ob, h, hd⟩ | ⟨ob, us, j, hk, hc, hd, _⟩
  · obtain ⟨e, _, _, _, o2, e2, hc, _⟩ := I.hok _ _ h
    rw [e] at e2; cases e2
    exact ⟨⟨ob, e, hc⟩, fun q z => by cases z; exact ⟨ob, e, hd⟩⟩
  · have e := I.kIn _ _ hk
    exact ⟨⟨ob, e, hc⟩, fun q z => by cases z; exact ⟨ob, e, hd⟩⟩
theorem pe_bmT {nm : Str} {id : String} {r : V → List V → Hp → VK → Prop} {to : TE} {t : TA} (pa : PlainAttrs "tuple") (slot : Slot "tuple" nm id) (hty : typeOf (.builtin id) = pure (.type "method_descriptor")) (hm : MtR X id r) (ho : PE X o to) (ha : PA X (e :: es) t)
    (hbase : attributeBase o nm X.env (eval o X.env) = eval o X.env)
    (hfew : ((backTo cpos (starEach (e :: es) X.env)).all (fun x => !x.1) && (backToKw cpos (keywordEach [] X.env)).all (fun x => x.1.isSome)
      && decide ((e :: es).length + ([] : List Keyword).length + (if ([] : List Keyword).isEmpty then 0 else 1) < 30)) = true)
    (hline : (apos.endLine == cpos.line) = true) (hs : starEach (e :: es) X.env = (false, eval e X.env) :: starEach es X.env) (hplain : (backTo cpos (starEach es X.env)).any (·.1) = false) :
    PE X (.Call (.Attribute o nm apos) (e :: es) [] cpos) (tBMt X.K r to t) := by
  refine ⟨fun pins s σ H Q I h => ?_⟩
  refine wpAny_Call_method_late hbase hfew hline rfl (thn (ho.run pins s σ H _ I h) fun v s1 ⟨x, H1, I1, r1, ⟨t0, xs, ex, hn⟩, q1⟩ => ?_)
  subst ex
  cases r1
  obtain ⟨h1, h2⟩ := sqN_is I1 hn
  refine ⟨"tuple", id, pa, slot, hty, h1, h2, ?_⟩
  have hA := ha.run cpos pins s1 σ H1 _ I1 q1
  rw [hs] at hA ⊢
  refine Calls.callWith_builtin (by show (false || (backTo cpos (starEach es X.env)).any (·.1)) = false; rw [hplain] <;> rfl) (Calls.evalArgs_plain ?_)
  exact thn hA fun us s2 ⟨vs, H2, I2, r2, q2⟩ => hm pins s2 σ H2 (.ref t0) vs (.ref t0) us Q I2 rfl r2 q2
/-- only of tuples -/
def isTu : D → Bs → Rs D
  | .tup ds, B => .ok (.tup ds) B
  | _, _ => .bad
def mIdxT (mo me : Ev) : Ev := fun σ B => (mo σ B).bind fun o B1 => (isTu o B1).bind fun o B2 => (me σ B2).bind fun d B3 => fIdx o d B3
theorem s_idxT (ok : Ok g X) (ho : Snd g E H0 X b1 o mo) (he : Snd g E H0 X false e m)
    (hbase : attributeBase o "index" X.env (eval o X.env) = eval o X.env := by rfl)
    (hfew : ((backTo cpos (starEach [e] X.env)).all (fun x => !x.1) && (backToKw cpos (keywordEach [] X.env)).all (fun x => x.1.isSome) && decide ([e].length + ([] : List Keyword).length + (if ([] : List Keyword).isEmpty then 0 else 1) < 30)) = true := by rfl)
    (hline : (apos.endLine == cpos.line) = true := by rfl) (hs : starEach [e] X.env = (false, eval e X.env) :: starEach [] X.env := by rfl) (hpl : (backTo cpos (starEach [] X.env)).any (·.1) = false := by rfl) :
    Snd g E H0 X false (.Call (.Attribute o "index" apos) [e] [] cpos) (mIdxT mo m) := by
  refine weak (pe_bmT PySem.F.plainAttrs_tuple PySem.F.slot_tuple_index PySem.F.type_tuple_index (mt_idxT (by have := ok.un; omega)) ho (pa_cons he pa_nil hs) hbase hfew hline hs hpl) ?_
  rintro σ H Q ⟨w, σI, B, s, p⟩
  refine tI_bind s p fun d B1 w1 v H1 x1 s1 r1 p1 => ?_
  cases d <;> first | exact p1.elim | skip
  rename_i ds
  obtain ⟨a0, vs0, e0, q0, rr0⟩ := r1.up.tupN s1
  refine ⟨⟨a0, vs0, e0, ok.K ▸ q0⟩, ?_⟩
  refine tI_bind s1 p1 fun d2 B2 w2 v2 H2 x2 s2 r2 p2 => ?_
  unfold fIdx at p2
  simp only at p2
  split at p2
  · rename_i hsh
    obtain ⟨sh1, sh2⟩ := Bool.and_eq_true_iff.mp hsh
    split at p2
    · rename_i j hj
      obtain ⟨z, z1, z2, z3⟩ := ixD_some hj
      have rt : RepO g w2 σI σ (.tup ds) v := r1.up.mono x2.le
      have dp := rt.dp s2 (SeqAt.canLay_of_shaped sh1)
      subst e0
      exact ⟨a0, v2, toPy d2, toPys ds, j, z, rfl, rfl, ok.K ▸ dp, ok.K ▸ r2.up.dp s2 (SeqAt.canLay_of_shaped sh2), sh1, sh2, z1, z2, z3, p2.nowR s2 (rep_int g w2 _)⟩
    · exact p2.elim
  · exact p2.elim
def isLi : D → Bs → Rs D
  | .lst ds, B => .ok (.lst ds) B
  | _, _ => .bad
def mIdxL (mo me : Ev) : Ev := fun σ B => (mo σ B).bind fun o B1 => (isLi o B1).bind fun o B2 => (me σ B2).bind fun d B3 => fIdx o d B3
theorem s_idxL (ok : Ok g X) (ho : Snd g E H0 X b1 o mo) (he : Snd g E H0 X false e m)
    (hbase : attributeBase o "index" X.env (eval o X.env) = eval o X.env := by rfl)
    (hfew : ((backTo cpos (starEach [e] X.env)).all (fun x => !x.1) && (backToKw cpos (keywordEach [] X.env)).all (fun x => x.1.isSome) && decide ([e].length + ([] : List Keyword).length + (if ([] : List Keyword).isEmpty then 0 else 1) < 30)) = true := by rfl)
    (hline : (apos.endLine == cpos.line) = true := by rfl) (hs : starEach [e] X.env = (false, eval e X.env) :: starEach [] X.env := by rfl) (hpl : (backTo cpos (starEach [] X.env)).any (·.1) = false := by rfl) :
    Snd g E H0 X false (.Call (.Attribute o "index" apos) [e] [] cpos) (mIdxL mo m) := by
  refine weak (pe_bm PySem.F.plainAttrs_list PySem.F.slot_list_index PySem.F.type_list_index (mt_indexD (by have := ok.un; omega)) ho (pa_cons he pa_nil hs) hbase hfew hline hs hpl) ?_
  rintro σ H Q ⟨w, σI, B, s, p⟩
  refine tI_bind s p fun d B1 w1 v H1 x1 s1 r1 p1 => ?_
  cases d <;> first | exact p1.elim | skip
  rename_i ds
  obtain ⟨a0, vs0, e0, q0, rr0⟩ := r1.up.lst s1
  subst e0
  refine ⟨tyL q0, ?_⟩
  refine tI_bind s1 p1 fun d2 B2 w2 v2 H2 x2 s2 r2 p2 => ?_
  unfold fIdx at p2
  simp only at p2
  split at p2
  · rename_i hsh
    obtain ⟨sh1, sh2⟩ := Bool.and_eq_true_iff.mp hsh
    split at p2
    · rename_i j hj
      obtain ⟨z, z1, z2, z3⟩ := ixD_some hj
      have rt : RepO g w2 σI σ (.lst ds) (.ref a0) := r1.up.mono x2.le
      have dp := rt.dp s2 (SeqAt.canLay_of_shaped sh1)
      exact ⟨a0, v2, toPy d2, toPys ds, j, z, rfl, rfl, ok.K ▸ dp, ok.K ▸ r2.up.dp s2 (SeqAt.canLay_of_shaped sh2), sh1, sh2, z1, z2, z3, p2.nowR s2 (rep_int g w2 _)⟩
    · exact p2.elim
  · exact p2.elim
/-! ### x[e], x(e, ..), e in x of an own instance -/
/-- c has the special method n, a def that means f, and is a function of the text -/
def DunF (g : Gs) (k c : Nat) (n : Str) (f : Fn) : Prop := ∃ fa, FnR g.prog g.w g.K g.mg g.base (L2.CX g.prog g.w) k fa (spF g f) ∧ PySem.W.findIn g.K (.ref (g.cl c)) n = some (some (.ref fa)) ∧ PySem.W.isFn g.K (.ref fa) = true ∧ PySem.W.fnIn g.K fa = true ∧ g.has c = true
def rIxC (g : Gs) (E : XK) (c : Nat) (f : Fn) : R2 := fun x y H Q => ∃ a dx fs, x = .ref a ∧ H a = some (.ins (g.cl c) dx fs) ∧ spF g f [.ref a, y] H Q E
theorem pe_ixC {ta tb : TE} (ok : OkC g E lv X) (N : DunF g k c "__getitem__" f) (hk : k + 1 ≤ lv) (ha : PE X a ta) (hb : PE X b tb) (hs : ∀ o i, subscripted b true o i = runValue (.builtin "lifetime.subscript" ⟨[o, i], []⟩)) :
    PE X (.Subscript a b pos) (tOp (rIxC g E c f) ta tb) := by
  refine ⟨fun pins s σ H Q I h => ?_⟩
  refine Subscript_ (binT ha hb I h fun v u s2 x y H2 I2 rx ry q => ?_)
  obtain ⟨q0, dx, fs, rfl, hi, q⟩ := q
  cases rx
  obtain ⟨fa, F, hf, hfn, hfi, hc⟩ := N
  obtain ⟨prog, w', K, mg, base, A, N, s_0, H_0, env, outer, stack, ex, fn, calm, pn, xe⟩ := X
  obtain ⟨⟨h1, h2, h3, h4, h5, h6, h7, hfx⟩, h8, h9⟩ := ok
  simp only at h1 h2 h5 h6 h7
  subst h1 h2 h5 h6 h7
  obtain ⟨od, J⟩ := inst_at I2 hi
  obtain ⟨mf, Fm⟩ := I2.fr
  exact PySem.W.sub_K Fm I2.ok.mod.kin J hf hfi hfn (run_at (us := [.ref q0, u]) (vs := [.ref q0, y]) F (h8.mono hk).in1 I2.env0.in1 h9 I2 (.cons rfl (.cons ry .nil)) q) (hs _ _)
/-- the first value is an instance of c: f of it and the others -/
def insF (c : Nat) (f : Fn) (d : D) (ds : List D) (B : Bs) : Rs D := match d with
  | .inst c' es => if c' = c then f (.inst c' es :: ds) B else .bad
  | _ => .bad
def mIxC (c : Nat) (f : Fn) (ma mb : Ev) : Ev := fun σ B => (ma σ B).bind fun d B1 => (mb σ B1).bind fun i B2 => insF c f d [i] B2
theorem s_ixC (ok : OkC g E lv X) (N : DunF g k c "__getitem__" f) (hk : k + 1 ≤ lv) (ha : Snd g E H0 X false a ma) (hb : Snd g E H0 X false b mb) (hs : ∀ o i, subscripted b true o i = runValue (.builtin "lifetime.subscript" ⟨[o, i], []⟩) := by exact fun _ _ => rfl) :
    Snd g E H0 X false (.Subscript a b pos) (mIxC c f ma mb) := by
  refine weak (pe_ixC ok N hk ha hb hs) ?_
  rintro σ H Q ⟨w, σI, B, s, p⟩
  refine tI_bind s p fun d B1 w1 v H1 x1 s1 r1 p1 => ?_
  refine tI_bind s1 p1 fun d2 B2 w2 v2 H2 x2 s2 r2 p2 => ?_
  unfold insF at p2
  split at p2
  · rename_i c' ds
    split at p2
    · rename_i hc'
      subst hc'
      obtain ⟨q0, dx, vs, rfl, hi, hl, hh, rr⟩ := ((RepB.up r1).mono x2.le).inst s2
      refine ⟨q0, dx, _, rfl, hi, w2, _, B2, s2.rb, ?_, PostC.of s2 p2⟩
      simp only [Reps]
      exact ⟨_, _, rfl, Rep.mono x2.le _ _ r1, _, _, rfl, r2, rfl⟩
    · exact p2.elim
  · exact p2.elim
/-- x(e, ..) of an own instance -/
def mCallO (c : Nat) (f : Fn) (m : Ev) (ms : Evs) : Ev := fun σ B => (m σ B).bind fun d B1 => match d with
  | .inst c' fs => if c' = c then (ms σ B1).bind fun ds B2 => f (.inst c' fs :: ds) B2 else .bad
  | _ => .bad
theorem s_callO (ok : OkC g E lv X) (N : DunF g k c "__call__" f) (hk : k ≤ lv) (hf : Snd g E H0 X false o m) (ha : Snds g E H0 X (e :: es) ms)
    (ht : eval (.Call o (e :: es) [] pos) X.env = (do callWith pos (← eval o X.env) [] (backTo pos (starEach (e :: es) X.env)) (backToKw pos (keywordEach [] X.env))) := by rfl)
    (he : starEach (e :: es) X.env = (false, eval e X.env) :: starEach es X.env := by rfl) (hpl : (backTo pos (starEach es X.env)).any (·.1) = false := by rfl) : Snd g E H0 X false (.Call o (e :: es) [] pos) (mCallO c f m ms) := by
  obtain ⟨fa, F, hfd, hfn, hfi, hc⟩ := N
  obtain ⟨prog, w', K, mg, base, A, N, s_0, H_0, env, outer, stack, ex, fn, calm, pn, xe⟩ := X
  obtain ⟨⟨h1, h2, h3, h4, h5, h6, h7, hfx⟩, h8, h9⟩ := ok
  simp only at h1 h2 h5 h6 h7
  subst h1 h2 h5 h6 h7
  refine weak (StX.pe_callO hf ⟨hfd, hfn, hfi⟩ F (h8.mono hk) h9 ha ht he hpl) ?_
  rintro σ H Q ⟨w, σI, B, s, p⟩
  refine tI_bind s p fun d B1 w1 v H1 x1 s1 r1 p1 => ?_
  split at p1
  · rename_i c' es'
    split at p1
    · rename_i hc'
      subst hc'
      obtain ⟨q0, dx, vs, rfl, hi, hl, hh, rr⟩ := (RepB.up r1).inst s1
      refine ⟨q0, rfl, tIs_bind s1 p1 fun ds B2 w2 vs2 H2 x2 s2 r2 p2 => ?_⟩
      obtain ⟨q1, dx1, vs1, e1, hi1, _⟩ := ((RepB.up r1).mono x2.le).inst s2
      cases e1
      refine ⟨.inr ⟨dx1, _, hi1⟩, w2, _, B2, s2.rb, ?_, PostC.of s2 p2⟩
      simp only [Reps]
      exact ⟨_, _, rfl, Rep.mono x2.le _ _ r1, r2⟩
    · exact p1.elim
  · exact p1.elim
/-- e in x, e not in x of an own instance -/
def toBn (neg : Bool → Bool) : Rs D → Rs D
  | .ok (.bool b) B => .ok (.bool (neg b)) B
  | _ => .bad
def fInC (c : Nat) (f : Fn) (neg : Bool → Bool) : D → D → Bs → Rs D
  | x, .inst c' es, B => if c' = c then toBn neg (f [.inst c' es, x] B) else .bad
  | _, _, _ => .bad
def rInC (g : Gs) (E : XK) (c : Nat) (f : Fn) (neg : Bool → Bool) : R2 := fun x y H Q => ∃ a dx fs, y = .ref a ∧ H a = some (.ins (g.cl c) dx fs) ∧ spF g f [.ref a, x] H (fun r H' => ∃ b, r = .bl b ∧ Q (.bl (neg b)) H') E
theorem toBn_go {r : Rs D} {neg : Bool → Bool} (p : PostE g E w H σI σ false Q (toBn neg r)) : PostC g E w H (fun v H' => ∃ b, v = .bl b ∧ Q (.bl (neg b)) H') r := by
  unfold toBn at p
  split at p
  · rename_i b B
    intro w' v H' x rb rr
    simp only [Rep] at rr
    exact ⟨b, rr, p w' (.bl (neg b)) H' x rb (rep_bool g w' _)⟩
  · exact p.elim
theorem op_inC (ok : OkC g E lv X) (N : DunF g k c "__contains__" f) (hk : k ≤ lv) : OpR X (compareOp .In) (rInC g E c f fun b => b) := by
  intro pins s σ H x y v u Q I rx ry h
  obtain ⟨q0, dx, fs, rfl, hi, q⟩ := h
  cases ry
  obtain ⟨fa, F, hf, hfn, hfi, hc⟩ := N
  obtain ⟨prog, w', K, mg, base, A, N, s_0, H_0, env, outer, stack, ex, fn, calm, pn, xe⟩ := X
  obtain ⟨⟨h1, h2, h3, h4, h5, h6, h7, hfx⟩, h8, h9⟩ := ok
  simp only at h1 h2 h5 h6 h7
  subst h1 h2 h5 h6 h7
  obtain ⟨od, J⟩ := inst_at I hi
  obtain ⟨mf, Fm⟩ := I.fr
  refine PySem.W.in_K Fm I.ok.mod.kin J hf hfn (wpAny_mono (run_at (us := [.ref q0, v]) (vs := [.ref q0, x]) F (h8.mono hk) I.env0 h9 I (.cons rfl (.cons rx .nil)) q) (fun r s1 hr => ?_) fun _ _ z => z)
  obtain ⟨z, H1, I1, rz, b, rfl, q1⟩ := hr
  obtain rfl : r = .bool b := rz
  exact wpAny_pure ⟨.bl b, H1, I1, rfl, q1⟩
theorem op_notinC (ok : OkC g E lv X) (N : DunF g k c "__contains__" f) (hk : k ≤ lv) : OpR X (compareOp .NotIn) (rInC g E c f fun b => !b) := by
  intro pins s σ H x y v u Q I rx ry h
  obtain ⟨q0, dx, fs, rfl, hi, q⟩ := h
  cases ry
  obtain ⟨fa, F, hf, hfn, hfi, hc⟩ := N
  obtain ⟨prog, w', K, mg, base, A, N, s_0, H_0, env, outer, stack, ex, fn, calm, pn, xe⟩ := X
  obtain ⟨⟨h1, h2, h3, h4, h5, h6, h7, hfx⟩, h8, h9⟩ := ok
  simp only at h1 h2 h5 h6 h7
  subst h1 h2 h5 h6 h7
  obtain ⟨od, J⟩ := inst_at I hi
  obtain ⟨mf, Fm⟩ := I.fr
  refine PySem.W.notIn_K Fm I.ok.mod.kin J hf hfn (wpAny_mono (run_at (us := [.ref q0, v]) (vs := [.ref q0, x]) F (h8.mono hk) I.env0 h9 I (.cons rfl (.cons rx .nil)) q) (fun r s1 hr => ?_) fun _ _ z => z)
  obtain ⟨z, H1, I1, rz, b, rfl, q1⟩ := hr
  obtain rfl : r = .bool b := rz
  exact wpAny_pure ⟨.bl (!b), H1, I1, rfl, q1⟩
theorem in_go {neg : Bool → Bool} (ha : Snd g E H0 X false a ma) (hb : Snd g E H0 X false b mb) : ∀ σ H Q, tI g E H0 false (mBin (fInC c f neg) ma mb) σ H Q → tOp (rInC g E c f neg) (tI g E H0 false ma) (tI g E H0 false mb) σ H Q := by
  rintro σ H Q ⟨w, σI, B, s, p⟩
  refine tI_bind s p fun d B1 w1 v H1 x1 s1 r1 p1 => ?_
  refine tI_bind s1 p1 fun d2 B2 w2 v2 H2 x2 s2 r2 p2 => ?_
  unfold fInC at p2
  split at p2
  · rename_i x0 c' es B0
    split at p2
    · rename_i hc'
      subst hc'
      obtain ⟨q0, dx, vs, rfl, hi, hl, hh, rr⟩ := (RepB.up r2).inst s2
      refine ⟨q0, dx, _, rfl, hi, w2, _, B2, s2.rb, ?_, toBn_go p2⟩
      simp only [Reps]
      exact ⟨_, _, rfl, r2, _, _, rfl, Rep.mono x2.le _ _ r1, rfl⟩
    · exact p2.elim
  · exact p2.elim
theorem s_inC (ok : OkC g E lv X) (N : DunF g k c "__contains__" f) (hk : k ≤ lv) (ha : Snd g E H0 X false a ma) (hb : Snd g E H0 X false b mb) (hm : behindInMarks .In b = false := by rfl) : Snd g E H0 X false (.Compare a [.In] [b] pos) (mBin (fInC c f fun b => b) ma mb) :=
  weak (pe_cmpR (op_inC ok N hk) ha hb hm) (in_go ha hb)
theorem s_notinC (ok : OkC g E lv X) (N : DunF g k c "__contains__" f) (hk : k ≤ lv) (ha : Snd g E H0 X false a ma) (hb : Snd g E H0 X false b mb) (hm : behindInMarks .NotIn b = false := by rfl) : Snd g E H0 X false (.Compare a [.NotIn] [b] pos) (mBin (fInC c f fun b => !b) ma mb) :=
  weak (pe_cmpR (op_notinC ok N hk) ha hb hm) (in_go ha hb)
/-! ### a, b = x, []: one of both is an own container -/
def mPar2S (i j : Nat) (ma mb : Ev) : Ms := fun σ B => (ma σ B).st fun d B1 => (mb σ B1).st fun e B2 => .next ((σ.set i (some (false, d))).set j (some (true, e))) B2
def mPar2F (i j : Nat) (ma mb : Ev) : Ms := fun σ B => (ma σ B).st fun d B1 => (mb σ B1).st fun e B2 => .next ((σ.set i (some (true, d))).set j (some (false, e))) B2
theorem z_par2S {i j : Nat} {x y : Str} {px py pt : Pos} {kt k2 : Nat} {pt2 : Pos} (c : Ok g X) (hN : X.N.Nodup) (ha : Snd g E H0 X false a ma) (hb : SndF g E H0 X b mb) (hw : swappedStores [.Tuple [.Name x px, .Name y py] kt pt] (.Tuple [a, b] k2 pt2) X.env = pure (some [x, y]) := by rfl)
    (hi : X.N[i]? = some x := by rfl) (hj : X.N[j]? = some y := by rfl) (hij : i ≠ j := by decide) (hx : X.env.scope.names.lookup x = some .local := by rfl) (hy : X.env.scope.names.lookup y = some .local := by rfl)
    (hs : swapsWithSole [.Tuple [.Name x px, .Name y py] kt pt] (.Tuple [a, b] k2 pt2) pos.line X.env = pure false := by rfl) (h1 : starEach [a, b] X.env = (false, eval a X.env) :: starEach [b] X.env := by rfl) (h2 : starEach [b] X.env = (false, eval b X.env) :: starEach [] X.env := by rfl) :
    SndS g E w0 H0 X (.Assign [.Tuple [.Name x px, .Name y py] kt pt] (.Tuple [a, b] k2 pt2) pos) (mPar2S i j ma mb) := by
  refine weakS (ps_par c.calm hN hi hj hij hx hy (pa_cons ha (pa_cons hb pa_nil h2) h1) hw hs) ?_
  rintro D σ H ⟨w, σI, B, s, x0, p⟩
  refine st_go s x0 p fun d B1 w1 v H1 x1 x2 s1 r1 p1 => ?_
  refine st_goF s1 x1 p1 fun e B2 w2 q ob H2 y1 y2 s2 e2 ct n pp io z p2 => ?_
  refine ⟨v, .ref q, rfl, p2 w2 _ H2 (Le.refl _) ((s2.set i (Rep.mono y2.le _ _ r1)).setO j e2 ct pp io (x1.none0 n) (fun l f hl => ?_) z) y1⟩
  by_cases hli : l = i
  · subst hli
    simp [List.getElem?_set] at hl
  · rw [List.getElem?_set_ne (Ne.symm hli)] at hl
    rw [List.getElem?_set_ne (Ne.symm hli)]
    exact s1.own_ne hl n
theorem z_par2F {i j : Nat} {x y : Str} {px py pt : Pos} {kt k2 : Nat} {pt2 : Pos} (c : Ok g X) (hN : X.N.Nodup) (ha : SndF g E H0 X a ma) (hb : Snd g E H0 X false b mb) (hw : swappedStores [.Tuple [.Name x px, .Name y py] kt pt] (.Tuple [a, b] k2 pt2) X.env = pure (some [x, y]) := by rfl)
    (hi : X.N[i]? = some x := by rfl) (hj : X.N[j]? = some y := by rfl) (hij : i ≠ j := by decide) (hx : X.env.scope.names.lookup x = some .local := by rfl) (hy : X.env.scope.names.lookup y = some .local := by rfl)
    (hs : swapsWithSole [.Tuple [.Name x px, .Name y py] kt pt] (.Tuple [a, b] k2 pt2) pos.line X.env = pure false := by rfl) (h1 : starEach [a, b] X.env = (false, eval a X.env) :: starEach [b] X.env := by rfl) (h2 : starEach [b] X.env = (false, eval b X.env) :: starEach [] X.env := by rfl) :
    SndS g E w0 H0 X (.Assign [.Tuple [.Name x px, .Name y py] kt pt] (.Tuple [a, b] k2 pt2) pos) (mPar2F i j ma mb) := by
  refine weakS (ps_par c.calm hN hi hj hij hx hy (pa_cons ha (pa_cons hb pa_nil h2) h1) hw hs) ?_
  rintro D σ H ⟨w, σI, B, s, x0, p⟩
  refine st_goF s x0 p fun e B1 w1 q ob H1 x1 x2 s1 e1 ct n pp io z p1 => ?_
  refine st_go s1 x1 p1 fun d B2 w2 v H2 y1 y2 s2 r p2 => ?_
  refine ⟨.ref q, v, rfl, p2 w2 _ H2 (Le.refl _) ((s2.setO i (y2.keep _ _ e1 io) (Cont.mono y2.le ct) ?_ ?_ (x0.none0 n) (fun l f hl => s.own_ne hl n) z).set j r) y1⟩
  · cases hp : w2.P q with
    | none => rfl
    | some u =>
      rcases y2.pf _ _ hp with h | h
      · rw [pp] at h; cases h
      · rw [e1] at h; cases h
  · intro k hk
    rcases y2.iof _ _ hk with h | h
    · exact io k h
    · rw [e1] at h; cases h
theorem z_par2SC {i j : Nat} {x y : Str} {px py pt : Pos} {kt k2 : Nat} {pt2 : Pos} (c : Ok g X) (hN : X.N.Nodup) (ha : Snd g E H0 X false a ma) (hb : SndF g E H0 X b mb)
    (hi : X.N[i]? = some x := by rfl) (hj : X.N[j]? = some y := by rfl) (hij : i ≠ j := by decide) (hx : Loc X.env.scope x := by first | exact .inl rfl | exact .inr rfl) (hy : Loc X.env.scope y := by first | exact .inl rfl | exact .inr rfl)
    (hs : swapsWithSole [.Tuple [.Name x px, .Name y py] kt pt] (.Tuple [a, b] k2 pt2) pos.line X.env = pure false := by rfl) (hw : swappedStores [.Tuple [.Name x px, .Name y py] kt pt] (.Tuple [a, b] k2 pt2) X.env = pure none := by rfl)
    (h1 : starEach [a, b] X.env = (false, eval a X.env) :: starEach [b] X.env := by rfl) (h2 : starEach [b] X.env = (false, eval b X.env) :: starEach [] X.env := by rfl)
    (h3 : (assignEach [.Tuple [.Name x px, .Name y py] kt pt] X.env).map (·.2) = [assign (.Tuple [.Name x px, .Name y py] kt pt) X.env] := by rfl)
    (h4 : (assignEach [.Name x px, .Name y py] X.env).length = 2 := by rfl) (h5 : (assignEach [.Name x px, .Name y py] X.env).findIdx? (·.1) = none := by rfl)
    (h6 : (assignEach [.Name x px, .Name y py] X.env).map (·.2) = assign (.Name x px) X.env :: (assignEach [.Name y py] X.env).map (·.2) := by rfl) (h7 : (assignEach [.Name y py] X.env).map (·.2) = assign (.Name y py) X.env :: (assignEach [] X.env).map (·.2) := by rfl)
    (f1 : X.fn x = true ∨ X.env.scope.names.lookup x = some .local := by first | exact .inl rfl | exact .inr rfl) (f2 : X.fn y = true ∨ X.env.scope.names.lookup y = some .local := by first | exact .inl rfl | exact .inr rfl) :
    SndS g E w0 H0 X (.Assign [.Tuple [.Name x px, .Name y py] kt pt] (.Tuple [a, b] k2 pt2) pos) (mPar2S i j ma mb) := by
  refine weakS (ps_asg (pe_tupN (pa_cons ha (pa_cons hb pa_nil h2) h1)) (pg_tup c.calm (pgs_cons (pg_name hN hi hx f1) (pgs_cons (pg_name hN hj hy f2) pgs_nil h7) h6) h4 h5) hs hw h3) ?_
  rintro D σ H ⟨w, σI, B, s, x0, p⟩
  refine st_go s x0 p fun d B1 w1 v H1 x1 x2 s1 r1 p1 => ?_
  refine st_goF s1 x1 p1 fun e B2 w2 q ob H2 y1 y2 s2 e2 ct n pp io z p2 => ?_
  refine ⟨by show 2 ≤ sizeLine; decide, fun t tb ht hd => ⟨t, _, rfl, .inl (.inr ⟨tb, upd_same⟩), rfl, v, _, rfl, .ref q, _, rfl, rfl, ?_⟩⟩
  have qt : q ≠ t := ne_of_none e2 ht
  have s3 := s2.step (Ext.lay (o := .frz tb (.tup [v, V.ref q])) ht) (s2.rb.lay ht)
  refine p2 w2 _ _ (Le.refl _) ((s3.set i (Rep.mono y2.le _ _ r1)).setO j (by rw [upd_ne qt]; exact e2) ct pp io (x1.none0 n) (fun l f hl => ?_) z) (y1.trans (Ext.lay ht))
  by_cases hli : l = i
  · subst hli
    simp [List.getElem?_set] at hl
  · rw [List.getElem?_set_ne (Ne.symm hli)] at hl
    rw [List.getElem?_set_ne (Ne.symm hli)]
    exact s1.own_ne hl n
theorem z_par2FC {i j : Nat} {x y : Str} {px py pt : Pos} {kt k2 : Nat} {pt2 : Pos} (c : Ok g X) (hN : X.N.Nodup) (ha : SndF g E H0 X a ma) (hb : Snd g E H0 X false b mb)
    (hi : X.N[i]? = some x := by rfl) (hj : X.N[j]? = some y := by rfl) (hij : i ≠ j := by decide) (hx : Loc X.env.scope x := by first | exact .inl rfl | exact .inr rfl) (hy : Loc X.env.scope y := by first | exact .inl rfl | exact .inr rfl)
    (hs : swapsWithSole [.Tuple [.Name x px, .Name y py] kt pt] (.Tuple [a, b] k2 pt2) pos.line X.env = pure false := by rfl) (hw : swappedStores [.Tuple [.Name x px, .Name y py] kt pt] (.Tuple [a, b] k2 pt2) X.env = pure none := by rfl)
    (h1 : starEach [a, b] X.env = (false, eval a X.env) :: starEach [b] X.env := by rfl) (h2 : starEach [b] X.env = (false, eval b X.env) :: starEach [] X.env := by rfl)
    (h3 : (assignEach [.Tuple [.Name x px, .Name y py] kt pt] X.env).map (·.2) = [assign (.Tuple [.Name x px, .Name y py] kt pt) X.env] := by rfl)
    (h4 : (assignEach [.Name x px, .Name y py] X.env).length = 2 := by rfl) (h5 : (assignEach [.Name x px, .Name y py] X.env).findIdx? (·.1) = none := by rfl)
    (h6 : (assignEach [.Name x px, .Name y py] X.env).map (·.2) = assign (.Name x px) X.env :: (assignEach [.Name y py] X.env).map (·.2) := by rfl) (h7 : (assignEach [.Name y py] X.env).map (·.2) = assign (.Name y py) X.env :: (assignEach [] X.env).map (·.2) := by rfl)
    (f1 : X.fn x = true ∨ X.env.scope.names.lookup x = some .local := by first | exact .inl rfl | exact .inr rfl) (f2 : X.fn y = true ∨ X.env.scope.names.lookup y = some .local := by first | exact .inl rfl | exact .inr rfl) :
    SndS g E w0 H0 X (.Assign [.Tuple [.Name x px, .Name y py] kt pt] (.Tuple [a, b] k2 pt2) pos) (mPar2F i j ma mb) := by
  refine weakS (ps_asg (pe_tupN (pa_cons ha (pa_cons hb pa_nil h2) h1)) (pg_tup c.calm (pgs_cons (pg_name hN hi hx f1) (pgs_cons (pg_name hN hj hy f2) pgs_nil h7) h6) h4 h5) hs hw h3) ?_
  rintro D σ H ⟨w, σI, B, s, x0, p⟩
  refine st_goF s x0 p fun e B1 w1 q ob H1 x1 x2 s1 e1 ct n pp io z p1 => ?_
  refine st_go s1 x1 p1 fun d B2 w2 v H2 y1 y2 s2 r p2 => ?_
  refine ⟨by show 2 ≤ sizeLine; decide, fun t tb ht hd => ⟨t, _, rfl, .inl (.inr ⟨tb, upd_same⟩), rfl, .ref q, _, rfl, v, _, rfl, rfl, ?_⟩⟩
  have e2 := y2.keep _ _ e1 io
  have qt : q ≠ t := ne_of_none e2 ht
  have s3 := s2.step (Ext.lay (o := .frz tb (.tup [V.ref q, v])) ht) (s2.rb.lay ht)
  refine p2 w2 _ _ (Le.refl _) ((s3.setO i (by rw [upd_ne qt]; exact e2) (Cont.mono y2.le ct) ?_ ?_ (x0.none0 n) (fun l f hl => s.own_ne hl n) z).set j r) (y1.trans (Ext.lay ht))
  · cases hp : w2.P q with
    | none => rfl
    | some u =>
      rcases y2.pf _ _ hp with h | h
      · rw [pp] at h; cases h
      · rw [e1] at h; cases h
  · intro k hk
    rcases y2.iof _ _ hk with h | h
    · exact io k h
    · rw [e1] at h; cases h
end
end Hf

set_option Elab.async false
set_option linter.all false
set_option maxRecDepth 100000
set_option maxHeartbeats 8000000
namespace Hf
open PySem PySem.Spec PyProof.Rows L2

/-! ### calls by the parameters' names -/
/-- the values in the parameters' order: pi tells for each parameter which of the named values it is -/
def permL {α : Type} (pi : List Nat) (ws : List α) : List α := pi.filterMap fun i => ws[i]?
theorem permL_reps {g : Gs} {w : Wd} {ds : List D} {vs : List V} (r : Reps g w ds vs) : ∀ pi : List Nat, Reps g w (permL pi ds) (permL pi vs)
  | [] => by simp [permL, Reps]
  | i :: pi => by
    have ih := permL_reps r pi
    unfold permL at ih ⊢
    rw [List.filterMap_cons, List.filterMap_cons]
    cases q : ds[i]? with
    | none =>
      have e : vs[i]? = none := by
        have := List.getElem?_eq_none_iff.mp q
        exact List.getElem?_eq_none_iff.mpr (by rw [r.len]; exact this)
      rw [e]; exact ih
    | some d =>
      obtain ⟨v, e, rv⟩ := Reps.get r q
      rw [e]
      simp only [Reps]
      exact ⟨v, _, rfl, rv, ih⟩
theorem permL_vals {vs : List V} {us : List Value} (r : Vals vs us) : ∀ pi : List Nat, Vals (permL pi vs) (permL pi us)
  | [] => .nil
  | i :: pi => by
    have ih := permL_vals r pi
    unfold permL at ih ⊢
    rw [List.filterMap_cons, List.filterMap_cons]
    cases q : vs[i]? with
    | none => rw [Vals.none_of r q]; exact ih
    | some v =>
      obtain ⟨u, e, rv⟩ := Vals.get r q
      rw [e]
      exact .cons rv ih
/-- m values by place, then named ones -/
def KwB (K : PySem.W.Frag) (fd : FuncData) (ps ks : List Str) (m : Nat) (pi : List Nat) : Prop := ∀ (s : Shared) (us ws : List Value), K.In s.heap → us.length = m → ws.length = ks.length → BindsTo s fd ⟨us, ks.zip ws⟩ (ps.zip (us ++ permL pi ws))
theorem kw_mk {K : PySem.W.Frag} {x qual : Str} {st : Stmt} {f : Addr} {fd : FuncData} {ps ks : List Str} {m : Nat} {pi : List Nat} (F : L2.Fun K x qual st f fd) (h : KwB K fd ps ks m pi) : KwB K fd ps ks m pi := h
abbrev SndK (g : Gs) (E : XK) (H0 : Hp) (X : Cx) (kws : List Keyword) (m : Evs) : Prop := PK X kws (tIs g E H0 m)
section
variable {g : Gs} {E : XK} {w0 w : Wd} {H0 H : Hp} {X : Cx} {e o a b : Expr} {es : List Expr} {m ma mb : Ev} {ms : Evs} {pos p apos kpos : Pos} {x : Str} {f : Fn} {lv k c : Nat} {σI : Sl} {σ : L2.St} {B : Bs} {Q : VK} {kws : List Keyword} {ks : List Str} {pi : List Nat} {nm : Option Str}
theorem weakK {t t' : TA} (h : PK X kws t) (i : ∀ σ H Q, t' σ H Q → t σ H Q) : PK X kws t' := ⟨fun pos pins s σ H Q I q => h.run pos pins s σ H Q I (i σ H Q q)⟩
theorem k_nil : SndK g E H0 X [] mNil := weakK pk_nil fun σ H Q ⟨w, σI, B, s, p⟩ => p w [] H (Ext.refl _ _) s.rb (by simp only [Reps])
theorem k_cons (he : Snd g E H0 X false e m) (hr : SndK g E H0 X kws ms) : SndK g E H0 X (⟨nm, e, kpos⟩ :: kws) (mCons m ms) := by
  refine weakK (pk_cons he hr) ?_
  rintro σ H Q ⟨w, σI, B, s, p⟩
  refine tI_bindA s p fun d B1 w1 v H1 x1 s1 r1 p1 => ?_
  refine tIs_bindA s1 p1 fun ds B2 w2 vs H2 x2 s2 r2 p2 => ?_
  refine p2 w2 _ H2 (Ext.refl _ _) s2.rb ?_
  simp only [Reps]
  exact ⟨v, vs, rfl, Rep.mono x2.le _ _ r1, r2⟩
def DefK (g : Gs) (k : Nat) (x : Str) (ks : List Str) (pi : List Nat) (f : Fn) : Prop := ∃ (fa : Addr) (fd : FuncData) (ps : List Str), FnOk g.prog g.w g.K g.mg g.base (L2.CX g.prog g.w) k fa fd ps (spF g f) ∧ g.mg x = some (.ref fa) ∧ PySem.W.keepIn g.K (.ref fa) = true ∧ KwB g.K fd ps ks 0 pi
def named (n : Nat) (pi : List Nat) (f : List D → Bs → Rs D) (ds : List D) (B : Bs) : Rs D := if ds.length = n then f (permL pi ds) B else .bad
def mCallK (f : Fn) (n : Nat) (pi : List Nat) (ms : Evs) : Ev := fun σ B => (ms σ B).bind (named n pi f)
theorem run_kw {CX : CXT} {fa : Addr} {fd : FuncData} {ps : List Str} {sp : Sp} {us ws : List Value} {vs : List V} {pins : List (Addr × Obj)} {s : Shared} {n : Nat} (F : FnOk X.prog X.w X.K X.mg X.base CX k fa fd ps sp) (hr : Room k X.A) (hb : KwB X.K fd ps ks n pi) (hx : Passes CX X E) (I : Inv X pins σ H s)
    (hn : us.length = n) (hl : ws.length = ks.length) (r : Vals vs (us ++ permL pi ws)) (h : sp vs H Q E) :
    codeAny (model X.prog X.w) X.A (.call (.ref fa) ⟨us, ks.zip ws⟩) (fun r s' => match r with | .ok (.ret v) => EP X pins σ Q v s' | .ok _ => False | .error e => X.xe e s') s := by
  refine codeAny_mono (F.run X.A X.stack s H ⟨us, ks.zip ws⟩ (us ++ permL pi ws) vs Q E hr I.env0 (hb s us ws I.kIn hn hl) r h) fun z s' hq => ?_
  cases z with
  | error e => exact hx pins σ H s e s' I hq
  | ok fl => cases fl with
    | ret u => exact I.after hq
    | next | brk | cont => exact hq.elim
theorem kw_len {zs : List V} {ws : List Value} {n : Nat} (r : Vals zs ws) (h : zs.length = n) : ws.length = n := by rw [← r.length]; exact h
/-- f(k = v, ..) -/
theorem s_callK (c : OkC g E lv X) (d : DefK g k x ks pi f) (hk : k ≤ lv) (ha : SndK g E H0 X kws ms) (hg : Gl X x := by rfl) (hdb : (x == ("__debug__" : Str)) = false := by decide) (hall : (backToKw pos (keywordEach kws X.env)).all (·.1.isSome) = true := by rfl)
    (hks : (backToKw pos (keywordEach kws X.env)).filterMap (·.1) = ks := by rfl) (hpl : ((backTo pos (starEach [] X.env)).any (·.1) || (backToKw pos (keywordEach kws X.env)).any (·.1.isNone)) = false := by rfl) :
    Snd g E H0 X false (.Call (.Name x p) [] kws pos) (mCallK f ks.length pi ms) := by
  obtain ⟨fa, fd, ps, F, hm, kp, hb⟩ := d
  obtain ⟨prog, w', K, mg, base, A, N, s_0, H_0, env, outer, stack, ex, fn, calm, pn, xe⟩ := X
  obtain ⟨⟨h1, h2, h3, h4, h5, h6, h7, hfx⟩, h8, h9⟩ := c
  simp only at h1 h2 h5 h6 h7
  subst h1 h2 h5 h6 h7
  refine ⟨fun pins s σ H Q I ⟨w, σI, B, s0, p⟩ => ?_⟩
  refine wpAny_Call_Name_kw (ld_glob I hg hm ?_ hdb)
  have hp : tIs g E H0 ms σ H fun zs H2 => zs.length = ks.length ∧ spF g f (permL pi zs) H2 Q E := tIs_bind s0 p fun ds B1 w1 vs H1 x1 s1 r1 p1 => by
    unfold named at p1
    split at p1
    · rename_i hl
      exact ⟨r1.len.trans hl, w1, _, B1, s1.rb, permL_reps r1 pi, PostC.of s1 p1⟩
    · exact p1.elim
  refine PySem.W.callWith_KW0 (h₀ := g.base) I.ok.mod.kin kp hall (thn (ha.run pos pins s σ H _ I hp) fun ws s2 ⟨zs, H2, I2, rz, hl, q2⟩ => ⟨I2.kIn, ?_⟩) hpl
  rw [hks]
  exact wpAny_call (run_kw F (h8.mono hk) hb h9 I2 rfl (kw_len rz hl) (permL_vals rz pi) q2)
/-! ### x.m() -/
theorem s_mth0 (ok : OkC g E lv X) {n : Str} (D : Mth g k c n [] f) (hk : k ≤ lv) (ho : Snd g E H0 X false o m) {pl : Sem Bool}
    (ht : eval (.Call (.Attribute o n apos) [] [] pos) X.env = (do
      let ov ← eval o X.env
      standAt apos.atName
      let (f, first) ← holding [ov] (getMethod ov n pl)
      callWith pos f first (backTo pos (starEach [] X.env)) (backToKw pos (keywordEach [] X.env))) := by rfl) :
    Snd g E H0 X false (.Call (.Attribute o n apos) [] [] pos) (mMth c f [] m mNil) := by
  obtain ⟨fa, fd, ps, dvs, ds, F, hm, b, hd, hr, hn, hc⟩ := D
  have C := ok.fx.cls _ hc
  obtain ⟨prog, w', K, mg, base, A, N, s_0, H_0, env, outer, stack, ex, fn, calm, pn, xe⟩ := X
  obtain ⟨⟨h1, h2, h3, h4, h5, h6, h7, hfx⟩, h8, h9⟩ := ok
  simp only at h1 h2 h5 h6 h7
  subst h1 h2 h5 h6 h7
  refine weak (pe_meth0 ho C.cls hm F (h8.mono hk) b hd h9 ht) ?_
  rintro σ H Q ⟨w, σI, B, s, p⟩
  refine tI_bind s p fun d B1 w1 v H1 x1 s1 r1 p1 => ?_
  split at p1
  · rename_i c' es'
    split at p1
    · rename_i hc'
      subst hc'
      obtain ⟨a, dx, vs, rfl, ha, hl, hh, rr⟩ := (RepB.up r1).inst s1
      refine ⟨a, dx, _, rfl, ha, zip_none hn vs, ?_⟩
      exact ⟨w1, _, B1, s1.rb, by simp only [Reps]; exact ⟨_, _, rfl, r1, Reps.app (by simp only [Reps]) (hr w1)⟩, PostC.of s1 p1⟩
    · exact p1.elim
  · exact p1.elim
/-! ### C.m(k = v, ..), m a class method -/
def CMtK (g : Gs) (k c : Nat) (n : Str) (ks : List Str) (pi : List Nat) (f : Fn) : Prop := ∃ mc pr fa fd ps, FnOk g.prog g.w g.K g.mg g.base (L2.CX g.prog g.w) k fa fd ps (spF g f) ∧ ClX.CRead g.K (g.cl c) mc ∧ ClX.CMet g.K (g.cl c) mc n pr fa ∧ g.has c = true ∧ KwB g.K fd ps ks 1 pi
def mCMthK (c : Nat) (f : Fn) (n : Nat) (pi : List Nat) (ms : Evs) : Ev := fun σ B => (ms σ B).bind (named n pi fun ds B1 => f (.cls c :: ds) B1)
theorem s_cmthK (ok : OkC g E lv X) {n : Str} (N : CMtK g k c n ks pi f) (C : ClsN g c x) (hk : k ≤ lv) (ha : SndK g E H0 X kws ms) (hg : Gl X x := by rfl) (hd : (x == ("__debug__" : Str)) = false := by decide) {pl : Sem Bool} (hall : (backToKw pos (keywordEach kws X.env)).all (·.1.isSome) = true := by rfl)
    (hks : (backToKw pos (keywordEach kws X.env)).filterMap (·.1) = ks := by rfl) (hpl : ((backTo pos (starEach [] X.env)).any (·.1) || (backToKw pos (keywordEach kws X.env)).any (·.1.isNone)) = false := by rfl)
    (ht : eval (.Call (.Attribute (.Name x p) n apos) [] kws pos) X.env = (do
      let ov ← eval (.Name x p) X.env
      standAt apos.atName
      let (f, first) ← holding [ov] (getMethod ov n pl)
      callWith pos f first (backTo pos (starEach [] X.env)) (backToKw pos (keywordEach kws X.env))) := by rfl) :
    Snd g E H0 X false (.Call (.Attribute (.Name x p) n apos) [] kws pos) (mCMthK c f ks.length pi ms) := by
  obtain ⟨mc, pr, fa, fd, ps, F, R, M, hc, hb⟩ := N
  obtain ⟨prog, w', K, mg, base, A, N, s_0, H_0, env, outer, stack, ex, fn, calm, pn, xe⟩ := X
  obtain ⟨⟨h1, h2, h3, h4, h5, h6, h7, hfx⟩, h8, h9⟩ := ok
  simp only at h1 h2 h5 h6 h7
  subst h1 h2 h5 h6 h7
  refine ⟨fun pins s σ H Q I ⟨w, σI, B, s0, p⟩ => ?_⟩
  have hp : tIs g E H0 ms σ H fun zs H2 => zs.length = ks.length ∧ spF g f (.ref (g.cl c) :: permL pi zs) H2 Q E := tIs_bind s0 p fun ds B1 w1 vs H1 x1 s1 r1 p1 => by
    unfold named at p1
    split at p1
    · rename_i hl
      refine ⟨r1.len.trans hl, w1, _, B1, s1.rb, ?_, PostC.of s1 p1⟩
      simp only [Reps, Rep]
      exact ⟨_, _, rfl, ⟨rfl, hc⟩, permL_reps r1 pi⟩
    · exact p1.elim
  refine PySem.W.methodCall_KW (pl := pl) (thn ((pe_glob (v := .ref (g.cl c)) hg C.mg rfl hd).run pins s σ H (fun y H1 => y = .ref (g.cl c) ∧ H1 = H) I ⟨rfl, rfl⟩) fun u s1 ⟨y, H1, I1, ry, ey, eH⟩ => ?_) ht
  subst ey eH
  obtain rfl : u = Value.ref (g.cl c) := ry
  refine ClX.getmethcm_ok I1 R M fun s2 I2 => ?_
  refine PySem.W.callWith_of hpl (PySem.W.keeps_M M.fi) (evalArgs_kw2_nil hall (thn (ha.run pos _ s2 σ H1 _ I2 hp) fun ws s3 ⟨zs, H2, I3, rz, hl, q2⟩ => ⟨⟨ClX.pin_at I3, I3.kIn⟩, ?_⟩))
  rw [hks]
  have z := wpAny_call (PySem.W.method_call (ClX.pin_at I3) (run_kw (us := [.ref (g.cl c)]) (vs := .ref (g.cl c) :: permL pi zs) F (h8.mono hk) hb h9 I3 rfl (kw_len rz hl) (.cons rfl (permL_vals rz pi)) q2))
  exact thn z fun _ _ y => ClX.unpinE y
/-! ### x(k = v, ..), x an own instance -/
def DunK (g : Gs) (k c : Nat) (n : Str) (ks : List Str) (pi : List Nat) (f : Fn) : Prop := ∃ fa fd ps, FnOk g.prog g.w g.K g.mg g.base (L2.CX g.prog g.w) k fa fd ps (spF g f) ∧ PySem.W.findIn g.K (.ref (g.cl c)) n = some (some (.ref fa)) ∧ PySem.W.isFn g.K (.ref fa) = true ∧ PySem.W.fnIn g.K fa = true ∧ g.has c = true ∧ KwB g.K fd ps ks 1 pi
def mCallOK (c : Nat) (f : Fn) (n : Nat) (pi : List Nat) (m : Ev) (ms : Evs) : Ev := fun σ B => (m σ B).bind fun d B1 => match d with
  | .inst c' fs => if c' = c then (ms σ B1).bind (named n pi fun ds B2 => f (.inst c' fs :: ds) B2) else .bad
  | _ => .bad
theorem inst_called {M : Model} {A : Around} {Er : Value → Shared → Prop} {s : Shared} {q : Addr} {pos : Pos} {Q : Value → Shared → Prop} {args : List (Bool × Sem Value)} {kw : List (Option Str × Sem Value)} (hpl : (args.any (·.1) || kw.any (·.1.isNone)) = false)
    (h : wpAny M A (evalArgs (.ref q) true args kw) (fun z t => (∃ C ox od, PySem.W.InstAt t.heap q ox C od ∧ ox.data = .plain) ∧ wpAny M A (call (.ref q) ([] ++ z.pos) z.kw) Q Er t) Er s) : wpAny M A (callWith pos (.ref q) [] args kw) Q Er s := by
  unfold callWith
  refine wpAny_bind (wpAny_holding (thn h fun z t hz => wpAny_bind (wpAny_standAt ?_)))
  obtain ⟨⟨C, ox, od, J, hd⟩, hc⟩ := hz
  simp only [hpl]
  exact wpAny_bind ((PySem.W.kco_keeper (M := M) J hd).here (wpAny_bind (thn (wpAny_operateT hc) fun r t2 hr => wpAny_bind (wpAny_holding (wpAny_point (wpAny_pure hr))))))
theorem s_callOK (ok : OkC g E lv X) (N : DunK g k c "__call__" ks pi f) (hk : k ≤ lv) (hf : Snd g E H0 X false o m) (ha : SndK g E H0 X kws ms) (hall : (backToKw pos (keywordEach kws X.env)).all (·.1.isSome) = true := by rfl)
    (hks : (backToKw pos (keywordEach kws X.env)).filterMap (·.1) = ks := by rfl) (hpl : ((backTo pos (starEach [] X.env)).any (·.1) || (backToKw pos (keywordEach kws X.env)).any (·.1.isNone)) = false := by rfl)
    (ht : eval (.Call o [] kws pos) X.env = (do callWith pos (← eval o X.env) [] (backTo pos (starEach [] X.env)) (backToKw pos (keywordEach kws X.env))) := by rfl) : Snd g E H0 X false (.Call o [] kws pos) (mCallOK c f ks.length pi m ms) := by
  obtain ⟨fa, fd, ps, F, hfd, hfn, hfi, hc, hb⟩ := N
  obtain ⟨prog, w', K, mg, base, A, N, s_0, H_0, env, outer, stack, ex, fn, calm, pn, xe⟩ := X
  obtain ⟨⟨h1, h2, h3, h4, h5, h6, h7, hfx⟩, h8, h9⟩ := ok
  simp only at h1 h2 h5 h6 h7
  subst h1 h2 h5 h6 h7
  have hp : ∀ σ H Q, tI g E H0 false (mCallOK c f ks.length pi m ms) σ H Q → tI g E H0 false m σ H fun y H1 => ∃ q, y = V.ref q ∧ tIs g E H0 ms σ H1 fun zs H2 => (∃ dx fs, H2 q = some (.ins (g.cl c) dx fs)) ∧ zs.length = ks.length ∧ spF g f (.ref q :: permL pi zs) H2 Q E := by
    rintro σ H Q ⟨w, σI, B, s, p⟩
    refine tI_bind s p fun d B1 w1 v H1 x1 s1 r1 p1 => ?_
    split at p1
    · rename_i c' es'
      split at p1
      · rename_i hc'
        subst hc'
        obtain ⟨q0, dx, vs, rfl, hi, hl, hh, rr⟩ := (RepB.up r1).inst s1
        refine ⟨q0, rfl, tIs_bind s1 p1 fun ds B2 w2 vs2 H2 x2 s2 r2 p2 => ?_⟩
        obtain ⟨q1, dx1, vs1, e1, hi1, _⟩ := ((RepB.up r1).mono x2.le).inst s2
        cases e1
        unfold named at p2
        split at p2
        · rename_i hl2
          refine ⟨⟨dx1, _, hi1⟩, r2.len.trans hl2, w2, _, B2, s2.rb, ?_, PostC.of s2 p2⟩
          simp only [Reps]
          exact ⟨_, _, rfl, Rep.mono x2.le _ _ r1, permL_reps r2 pi⟩
        · exact p2.elim
      · exact p1.elim
    · exact p1.elim
  refine ⟨fun pins s σ H Q I h => ?_⟩
  rw [ht]
  refine wpAny_bind (thn (hf.run pins s σ H _ I (hp σ H Q h)) fun u s1 ⟨y, H1, I1, ry, q, ey, q1⟩ => ?_)
  subst ey
  obtain rfl : u = Value.ref q := ry
  refine inst_called hpl (evalArgs_kw2_nil hall (thn (ha.run pos pins s1 σ H1 _ I1 q1) fun ws s2 ⟨zs, H2, I2, rz, ⟨dx, fs, hi⟩, hl, q2⟩ => ?_))
  obtain ⟨od, J⟩ := inst_at I2 hi
  refine ⟨⟨g.cl c, _, od, J, rfl⟩, ?_⟩
  rw [hks]
  exact wpAny_call (PySem.W.kco_code I2.kIn J rfl hfd hfn hfi (run_kw (us := [.ref q]) (vs := .ref q :: permL pi zs) F (h8.mono hk) hb h9 I2 rfl (kw_len rz hl) (.cons rfl (permL_vals rz pi)) q2))
end
end Hf

set_option Elab.async false
set_option linter.all false
set_option maxRecDepth 100000
set_option maxHeartbeats 8000000
namespace Hf
open PySem PySem.Spec PyProof.Rows L2

section
variable {g : Gs} {E : XK} {w0 w : Wd} {H0 H : Hp} {X : Cx} {e o a b : Expr} {es : List Expr} {m ma mb : Ev} {ms : Evs} {pos p apos kpos : Pos} {x : Str} {f : Fn} {lv k c : Nat} {σI : Sl} {σ : L2.St} {B : Bs} {Q : VK} {kws : List Keyword} {ks : List Str} {pi : List Nat} {b1 b2 : Bool}
/-! ### a ^ b of numbers -/
abbrev fXor := fI2 (fun i j => .int (Builtin.bitXor i j)) fun _ _ => true
theorem s_xor (ha : Snd g E H0 X b1 a ma) (hb : Snd g E H0 X b2 b mb) : Snd g E H0 X false (.BinOp a .BitXor b pos) (mBin fXor ma mb) := s_bin op_xor (os_I0 fun w i j => rep_int g w _) ha hb
/-! ### sorted of a list of data that is in order already -/
def tupB : PyData → Bool
  | .tuple (_ :: _) => true
  | _ => false
def inOrd : List D → Bool
  | [] => true
  | d :: ds => ds.all (fun e => PySem.W.dataLe false toPy d e) && inOrd ds
def srtG (ds : List D) : Bool := decide (ds.length ≤ sizeLine) && (toPys ds).all tupB && (toPys ds).all (fun x => (toPys ds).all fun y => PySem.W.alike x y) && PyData.canLayAll0 (toPys ds) && (toPys ds).all (fun x => decide (x.depth ≤ 50)) && inOrd ds
theorem inOrd_pw : ∀ {ds : List D}, inOrd ds = true → ds.Pairwise fun x y => PySem.W.dataLe false toPy x y = true
  | [], _ => .nil
  | d :: ds, h => by
    simp only [inOrd, Bool.and_eq_true, List.all_eq_true] at h
    exact .cons h.1 (inOrd_pw h.2)
theorem toPys_map : ∀ ds : List D, toPys ds = ds.map toPy
  | [] => by simp [toPys]
  | d :: ds => by simp [toPys, toPys_map ds]
def rSrtG (K : PySem.W.Frag) : List V → Hp → VK → Prop := fun vs H Q => ∃ (q : Addr) (xs : List V) (ds : List D), vs = [V.ref q] ∧ SqL K H q xs ∧ DpAll K H xs (toPys ds) ∧ srtG ds = true ∧ ∀ p, H p = none → Q (.ref p) (upd H p (.lst xs))
theorem each_zip {h : Heap} : ∀ {xs : List V} {us : List Value} {ds : List D}, Vals xs us → xs.length = ds.length → PySem.W.EachIs (fun u (p : V × D) => RelV p.1 u) us (xs.zip ds)
  | [], _, ds, r, hl => by
    cases r
    match ds, hl with
    | [], _ => exact .nil
  | x :: xs, _, ds, r, hl => by
    cases r with
    | cons r1 r2 => match ds, hl with
      | d :: ds, hl => exact .cons r1 (each_zip (h := h) r2 (by simpa using hl))
theorem zip_snd : ∀ {xs : List V} {ds : List D}, xs.length = ds.length → (xs.zip ds).map (·.2) = ds
  | [], [], _ => rfl
  | x :: xs, d :: ds, h => by simp [zip_snd (xs := xs) (ds := ds) (by simpa using h)]
theorem zip_fst : ∀ {xs : List V} {ds : List D}, xs.length = ds.length → (xs.zip ds).map (·.1) = xs
  | [], [], _ => rfl
  | x :: xs, d :: ds, h => by simp [zip_fst (xs := xs) (ds := ds) (by simpa using h)]
theorem vals_each : ∀ {us : List Value} {ps : List (V × D)}, PySem.W.EachIs (fun u (p : V × D) => RelV p.1 u) us ps → Vals (ps.map (·.1)) us
  | _, _, .nil => .nil
  | _, _, .cons h1 h2 => .cons h1 (vals_each h2)
theorem dpAll_len {K : PySem.W.Frag} : ∀ {xs : List V} {ds : List PyData}, DpAll K H xs ds → xs.length = ds.length
  | _, _, .nil => rfl
  | _, _, .cons _ h => by simp [dpAll_len h]
theorem each_reads {pins : List (Addr × Obj)} {s : Shared} (I : Inv X pins σ H s) : ∀ {xs : List V} {us : List Value} {ds : List D}, Vals xs us → DpAll X.K H xs (toPys ds) → PySem.W.EachIs (fun u (p : V × D) => ∃ as, Reads s.heap u (toPy p.2) as) us (xs.zip ds)
  | [], _, ds, r, h => by
    cases r
    cases ds with
    | nil => exact .nil
    | cons d ds => simp only [toPys] at h; cases h
  | x :: xs, _, ds, r, h => by
    cases r with
    | cons r1 r2 => cases ds with
      | nil => simp only [toPys] at h; cases h
      | cons d ds =>
        simp only [toPys] at h
        cases h with
        | cons h1 h2 => exact .cons (Dp.reads I _ _ _ h1 r1) (each_reads I r2 h2)
theorem cr_srtG (hu : X.A.units + 100 < cLine) : CallR X (.builtin "sorted") (rSrtG X.K) := by
  intro pins s σ H vs us Q I r h
  obtain ⟨q, xs, ds, rfl, hs, hd, hg, hq⟩ := h
  rw [Vals.ref1 r]
  simp only [srtG, Bool.and_eq_true, List.all_eq_true, decide_eq_true_eq] at hg
  obtain ⟨⟨⟨⟨⟨g1, g2⟩, g3⟩, g4⟩, g5⟩, g6⟩ := hg
  obtain ⟨its, rv, pl, hz⟩ := I.list hs
  have hl : xs.length = ds.length := by rw [dpAll_len hd, toPys_map]; simp
  have e1 : (xs.zip ds).map (fun p => toPy p.2) = toPys ds := by
    rw [toPys_map, show (fun p : V × D => toPy p.2) = toPy ∘ (·.2) from rfl, ← List.map_map, zip_snd hl]
  have e2 : (xs.zip ds).mergeSort (PySem.W.dataLe false fun p => toPy p.2) = xs.zip ds := by
    refine List.mergeSort_of_pairwise ?_
    have z := inOrd_pw g6
    rw [← zip_snd hl] at z
    exact (List.pairwise_map.mp z).imp fun h => h
  refine PySem.W.sorted_data (enc := fun p : V × D => toPy p.2) (R := fun u (p : V × D) => RelV p.1 u) pl.isList (each_zip (h := s.heap) rv hl) (each_reads I rv hd) (by rw [e1]; exact fun x hx y hy => g3 x hx y hy) (.inl (by
    rw [e1]
    intro x hx
    have := g2 x hx
    unfold tupB at this
    split at this
    · exact ⟨_, _, rfl⟩
    · cases this)) (by simp [hl, g1]) (fun p hp => by
      have : toPy p.2 ∈ toPys ds := by rw [← e1]; exact List.mem_map_of_mem hp
      have := g5 _ this
      omega) fun out h1 h2 => ?_
  rw [e2] at h2
  have rv2 := vals_each h2
  rw [zip_fst hl] at rv2
  obtain ⟨ep, he⟩ := PyProof.Rows.sortedAll_at s.heap its out.toArray
  have he' : (PyProof.Rows.sortedAll s.heap its out.toArray).get? (s.heap.objs.size + 1) = some (seqObj "list" out.toArray ep) := he
  exact ⟨.ref _, upd H (s.heap.objs.size + 1) (.lst xs), I.laid (t' := s.toks) (fun _ _ => PyProof.Rows.sortedAll_old) (Nat.le_succ _) ⟨hz, out, ep, rv2, he'⟩, rfl, hq _ (I.hok.fresh (Nat.le_succ _))⟩
def fSrtG : D → Bs → Rs D
  | .lst ds, B => if srtG ds then .ok (.lst ds) B else .bad
  | _, _ => .bad
theorem o_sortedG (c : Ok g X) : OneF g E H0 X (.builtin "sorted") fSrtG := ⟨_, cr_srtG c.un, fun w σI B σ H Q x d s r p => by
  unfold fSrtG at p
  split at p
  · split at p
    · rename_i ds hs
      have hs' := hs
      simp only [srtG, Bool.and_eq_true] at hs'
      obtain ⟨q, vs, rfl, hq, rr⟩ := r.lst s
      exact ⟨q, vs, ds, rfl, .inl (.inl hq), c.K ▸ Reps.dp s.rb.sub ds vs rr hs'.1.1.2, hs, fun l hl => p.newL s rr hl⟩
    · exact p.elim
  · exact p.elim⟩
theorem q_sortedG {p1 : Pos} (c : Ok g X) (he : Snd g E H0 X b1 e m) (hg : Gl X "sorted" := by rfl) (h1 : starEach (e :: []) X.env = (false, eval e X.env) :: starEach [] X.env := by rfl) : SndF g E H0 X (.Call (.Name "sorted" p1) [e] [] pos) (m1 fSrtG m) := f_b1 (o_sortedG c) bt_sorted (nbs c) he hg (by decide) (by decide) h1
/-! ### sum of a tuple of numbers -/
theorem cr_sumT (hc : X.calm = true) : CallR X (.builtin "sum") (fun vs H Q => ∃ (q : Addr) (ns : List Int), vs = [V.ref q] ∧ SqT X.K H q (ns.map V.int) ∧ Q (.int ns.sum) H) := by
  intro pins s σ H vs us Q I r h
  obtain ⟨q, ns, rfl, hs, hq⟩ := h
  obtain ⟨its, rv, tp, _⟩ := I.tuple hs
  rw [Vals.ref1 r]
  obtain ⟨xs, e⟩ := rv.ints.allInts.items
  have hn : numsOf (intItems xs).toList = ns := by rw [← e]; exact rv.ints.numsOf
  rw [nums_intItems] at hn
  have tp' : s.heap.IsTuple q its.toArray := tp
  rw [e] at tp'
  refine PySem.W.ktm_sumG (I.ok.hd hc) tp' fun h' tk t' hk => ⟨.int _, H, I.kept hk, ⟨t', ?_⟩, hq⟩
  rw [preSum_eq, List.take_of_length_le (by simp), hn]
def fSumT : D → Bs → Rs D
  | .tup ds, B => match intsA ds with
    | some bs => .ok (.int bs.sum) B
    | Option.none => .bad
  | _, _ => .bad
theorem o_sumT (c : Ok g X) : One g E H0 X (.builtin "sum") fSumT := ⟨_, cr_sumT c.calm, fun w σI B σ H Q x d s r p => by
  unfold fSumT at p
  split at p
  · split at p
    · rename_i bs hb
      rw [intsA_map hb] at r
      obtain ⟨q, vs, rfl, hq, rr⟩ := r.tup s
      rw [rr.ints] at hq
      exact ⟨q, bs, rfl, c.K ▸ hq, p.nowR s (rep_int g w _)⟩
    · exact p.elim
  · exact p.elim⟩
theorem q_sumT {p1 : Pos} (c : Ok g X) (he : Snd g E H0 X b1 e m) (hg : Gl X "sum" := by rfl) (h1 : starEach (e :: []) X.env = (false, eval e X.env) :: starEach [] X.env := by rfl) : Snd g E H0 X false (.Call (.Name "sum" p1) [e] [] pos) (m1 fSumT m) := s_b1 (o_sumT c) bt_sum (nbs c) he hg (by decide) (by decide) h1
end
end Hf

set_option Elab.async false
set_option linter.all false
set_option maxRecDepth 100000
set_option maxHeartbeats 8000000
namespace Hf
open PySem PySem.Spec PyProof.Rows L2

/-! ### an __init__ with parameters, some with defaults -/
section
variable {g : Gs} {E : XK} {w0 w : Wd} {H0 H : Hp} {X : Cx} {e : Expr} {es : List Expr} {m : Ev} {ms : Evs} {pos p : Pos} {x : Str} {f : Fn} {lv k c : Nat} {σI : Sl} {σ : L2.St} {B : Bs} {Q : VK} {kws : List Keyword} {ks : List Str} {pi : List Nat}
theorem start_ini {N : List Str} {q dx : Addr} {ds : List D} {ws : List V} {n : Nat} (hn : ds.length = n) (hN : n + 1 ≤ N.length) (hh : g.has c = true) (rb : RB g w B H) (r : Reps g w ds ws) (h1 : H q = Option.none) (h2 : H dx = Option.none) (h3 : dx ≠ q) :
    S0 g H { w with me := some q } (some (true, .inst c []) :: (ds.map (fun d => some (false, d)) ++ List.replicate (N.length - (n + 1)) Option.none)) B (L2.start N (V.ref q :: ws)) (upd (upd H dx (.own q)) q (.ins (g.cl c) dx [])) ∧
      Ext { w with me := some q } H { w with me := some q } (upd (upd H dx (.own q)) q (.ins (g.cl c) dx [])) := by
  generalize hH2 : upd (upd H dx (.own q)) q (.ins (g.cl c) dx []) = H2
  have e2 : ∀ b, b ≠ q → b ≠ dx → H2 b = H b := fun b q1 q2 => by rw [← hH2, upd_ne q1, upd_ne q2]
  have eq : H2 q = some (.ins (g.cl c) dx []) := by rw [← hH2, upd_same]
  have hk : Same H H2 := fun b u e => by rw [e2 b (ne_of_none e h1) (ne_of_none e h2)]; exact e
  have l1 : Le w { w with me := some q } := ⟨Same.refl _, fun _ _ h => h⟩
  have rb1 : RB g { w with me := some q } B H2 := rb.keep l1 rfl (fun b u e => hk b u (rb.sub b u e)) hk rb.np
  have rl := r.len
  have st : L2.start N (V.ref q :: ws) = some (V.ref q) :: (ws.map some ++ List.replicate (N.length - (n + 1)) Option.none) := by
    unfold L2.start
    rw [List.map_cons, List.cons_append, List.length_cons, rl, hn]
  have tl : ∀ {j : Nat} {fl : Bool} {d : D}, (ds.map (fun d => some (false, d)) ++ List.replicate (N.length - (n + 1)) Option.none)[j]? = some (some (fl, d)) → fl = false ∧ ds[j]? = some d := fun {j fl d} h => by
    by_cases hj : j < ds.length
    · rw [List.getElem?_append_left (by simpa using hj), List.getElem?_map] at h
      cases z : ds[j]? with
      | none => rw [z] at h; cases h
      | some d' => rw [z] at h; cases h; exact ⟨rfl, rfl⟩
    · rw [List.getElem?_append_right (by simp; omega), List.getElem?_replicate] at h
      split at h <;> cases h
  refine ⟨⟨rb1, by rw [st]; simp [rl], fun i d h => ?_, fun i d h => ?_, fun i j d e' a q1 q2 _ _ => ?_, fun i c' es' a q1 q2 => ?_⟩, ⟨Le.refl _, fun b o e _ => hk b o e, fun b o e => .inl e, fun b a e => .inl e, fun b e z => e (by
    cases y : H b with
    | none => rfl
    | some u => rw [hk b u y] at z; cases z), rfl⟩⟩
  · rw [st]
    match i, h with
    | 0, h => cases h
    | j + 1, h =>
      obtain ⟨_, hd⟩ := tl (j := j) h
      obtain ⟨v, e1, rv⟩ := Reps.get r hd
      refine ⟨v, ?_, Rep.mono l1 _ _ rv⟩
      have hj : j < ws.length := (List.getElem?_eq_some_iff.mp e1).1
      rw [List.getElem?_cons_succ, List.getElem?_append_left (by simpa using hj), List.getElem?_map, e1]; rfl
  · rw [st]
    match i, h with
    | 0, h =>
      cases h
      refine ⟨q, _, rfl, eq, ?_, rb.fresh_P h1, fun n => rb.fresh_io h1 n, h1⟩
      simp only [Cont]
      exact ⟨dx, [], by simp, Nat.zero_le _, hh, by simp only [Reps]⟩
    | j + 1, h => exact absurd (tl (j := j) h).1 (by decide)
  · match i, j, q1, q2 with
    | 0, 0, _, _ => rfl
    | 0, j + 1, _, h => exact absurd (tl (j := j) h).1 (by decide)
    | i + 1, _, h, _ => exact absurd (tl (j := i) h).1 (by decide)
  · match i, q1 with
    | 0, _ => rw [st] at q2; cases q2; rfl
    | i + 1, h => exact absurd (tl (j := i) h).1 (by decide)
theorem init_okD {q qual : Str} {st : Stmt} {fa : Addr} {fd : FuncData} {N ps : List Str} {n : Nat} {b : Ms} {dvs : List V} {kw : List (Str × V)} (F : FunD g.K q qual (defArgs st) (defBody st) (defScope st) dvs kw fa fd) (S : FnScope N ps (defScope st)) (hn : ps.length = n + 1) (hN : n + 1 ≤ N.length) (hh : g.has c = true)
    (fx : Fx g) (hb : ∀ (E : XK) (w0 : Wd) (H0 : Hp) (X : Cx), OkC g E k X → PassesOwn (model X.prog X.w) X.A X.env X.xe → Takes X (fun cls d _ H => E cls d H) → X.N = N → X.env.scope = defScope st → X.fn = (fun _ => true) → SndB g E w0 H0 X (defBody st) b) :
    FnOk g.prog g.w g.K g.mg g.base (L2.CX g.prog g.w) (k + 1) fa fd ps (spI g c (mkIni c n N.length b)) := by
  refine F.ok S (fun vs H Q E h => ?_) (fun cdv A outer s H vs Q E hr h => ?_)
  · obtain ⟨q, dx, ws, H1, w, ds, B, rfl, rfl, h1, h2, h3, rb, r, p⟩ := h
    unfold mkIni at p
    split at p
    · rename_i e; rw [List.length_cons, r.len, e, hn]
    · exact p.elim
  · obtain ⟨q, dx, ws, H1, w, ds, B, rfl, rfl, h1, h2, h3, rb, r, p⟩ := h
    unfold mkIni at p
    split at p
    · rename_i e
      refine ⟨_, hb E { w with me := some q } H1 _ ⟨⟨rfl, rfl, rfl, ?_, rfl, rfl, rfl, fx⟩, hr, ?_⟩ (passes_of rfl) (takes_of rfl rfl rfl rfl) rfl rfl rfl, ?_⟩
      · have := hr.un; show A.units + 3 + 100 < cLine; have h2 : A.units + 3 + 16 * k + 200 < cLine := this; omega
      · exact passes_call (takes_of rfl rfl rfl rfl) (fun _ _ _ _ h => h)
      · obtain ⟨s1, x1⟩ := start_ini (c := c) e hN hh rb r h1 h2 h3
        refine ⟨_, _, B, s1, x1, ?_⟩
        have z := fin_go h1 p
        refine PostS.le ?_ z
        exact ⟨Same.refl _, fun _ _ h => h⟩
    · exact p.elim
/-! ### C(k = v, ..) -/
def IniK (g : Gs) (k c : Nat) (ks : List Str) (pi : List Nat) (f : Fn) : Prop := ∃ fI fd ps, L2.Mk g.K (g.cl c) fI ∧ FnOk g.prog g.w g.K g.mg g.base (L2.CX g.prog g.w) k fI fd ps (spI g c f) ∧ g.has c = true ∧ KwB g.K fd ps ks 1 pi
def mMakeK (f : Fn) (n : Nat) (pi : List Nat) (ms : Evs) : Ev := fun σ B => (ms σ B).bind (named n pi f)
theorem s_makeK (ok : OkC g E lv X) (N : IniK g k c ks pi f) (C : ClsN g c x) (hk : k + 1 ≤ lv) (ha : SndK g E H0 X kws ms) (hg : Gl X x := by rfl) (hdb : (x == ("__debug__" : Str)) = false := by decide) (hall : (backToKw pos (keywordEach kws X.env)).all (·.1.isSome) = true := by rfl)
    (hks : (backToKw pos (keywordEach kws X.env)).filterMap (·.1) = ks := by rfl) (hpl : ((backTo pos (starEach [] X.env)).any (·.1) || (backToKw pos (keywordEach kws X.env)).any (·.1.isNone)) = false := by rfl) :
    Snd g E H0 X false (.Call (.Name x p) [] kws pos) (mMakeK f ks.length pi ms) := by
  obtain ⟨fI, fd, ps, M, F, hc, hb⟩ := N
  obtain ⟨prog, w', K, mg, base, A, N, s_0, H_0, env, outer, stack, ex, fn, calm, pn, xe⟩ := X
  obtain ⟨⟨h1, h2, h3, h4, h5, h6, h7, hfx⟩, h8, h9⟩ := ok
  simp only at h1 h2 h5 h6 h7
  subst h1 h2 h5 h6 h7
  have kb : KBn g.K fd ps 1 ks (fun us ws => us ++ permL pi ws) (fun vs zs => vs ++ permL pi zs) := ⟨hb, fun r1 r2 => r1.append (permL_vals r2 pi)⟩
  refine weak (pe_makeK0 M F (h8.mono hk) hg C.mg kb h9 ha hall hks hdb hpl) ?_
  rintro σ H Q ⟨w, σI, B, s, p⟩
  refine tIs_bind s p fun ds B1 w1 vs H1 x1 s1 r1 p1 => ?_
  unfold named at p1
  split at p1
  · rename_i hl
    exact ⟨rfl, r1.len.trans hl, make_go s1.rb (permL_reps r1 pi) (PostC.of s1 p1)⟩
  · exact p1.elim
end
end Hf

set_option Elab.async false
set_option linter.all false
set_option maxRecDepth 100000
set_option maxHeartbeats 8000000
namespace Hf
open PySem PySem.Spec PyProof.Rows L2

/-! ### defaults and names of an __init__, classes among each other -/
theorem kit_ref {K : PySem.W.Frag} {C D : Addr} {b : Bool} (h : PySem.W.mroIn K C (.ref D) = some b) (h2 : PySem.W.mroIn K D (.ref D) = some true) (hi : PySem.W.isClsIn K D = true) (ht : PySem.W.typeIn K (.ref D) = some (.type "type")) : PySem.W.kitOne K (.ref C) (.ref D) = some b := by
  by_cases e : C = D
  · subst e
    rw [h] at h2
    cases h2
    exact kit_self
  · have e' : (Value.ref C == Value.ref D) = false := beq_eq_false_iff_ne.mpr (fun z => e (Value.ref.inj z))
    have hc : (PySem.W.clsIn K D).isSome = true := hi
    unfold PySem.W.kitOne PySem.W.kitCls
    simp only [e', Bool.false_eq_true, if_false, hc, ht, beq_self_eq_true, Bool.and_self, if_true]
    exact h
theorem kw_mkD {K : PySem.W.Frag} {x qual : Str} {st : Stmt} {f : Addr} {fd : FuncData} {ps ks : List Str} {m : Nat} {pi : List Nat} {dvs : List V} {kws : List (Str × V)} (F : FunD K x qual (defArgs st) (defBody st) (defScope st) dvs kws f fd) (hd : dvs ≠ [])
    (h : ∀ (T : Addr) (kV doc pm : Value) (an : Option Addr) (cdv ct : Value) (us its ws : List Value), us.length = m → its.length = dvs.length → ws.length = ks.length →
      ∃ k, bindArgs (PySem.W.fnOf x qual (defArgs st) (defBody st) (defScope st) (.ref T) kV doc pm an cdv ct) ⟨us, ks.zip ws⟩ = seqItems? (.ref T) >>= k ∧ k (some its.toArray) = pure (ps.zip (us ++ permL pi ws))) : KwB K fd ps ks m pi := by
  obtain ⟨oc, od, dV, kV, doc, pm, an, cdv, ct, osl, rfl, lk, hcd, hD, hK⟩ := F.ex
  rcases hD with ⟨e, _⟩ | ⟨_, T, o, its, m, rfl, lT, oT, rT⟩
  · exact absurd e hd
  · intro s us ws X l1 l2
    obtain ⟨k, e1, e2⟩ := h T kV doc pm an cdv ct us its ws l1 rT.length.symm l2
    refine BindsTo.of_looks fun M => ?_
    rw [e1]
    exact looks_items X lT oT (.of_pure e2)
def wDfl (f : Fn) (dfl : List D) : Fn := fun ds B => f (ds ++ dfl) B
theorem ini_dfl {g : Gs} {c : Nat} {f : Fn} {dfl : List D} {dvs : List V} (hd : ∀ w, Reps g w dfl dvs) : ∀ vs H Q E, spI g c (wDfl f dfl) vs H Q E → spI g c f (vs ++ dvs) H Q E := by
  rintro vs H Q E ⟨x, dx, ws, H1, w, ds, B, rfl, e, h1, h2, h3, rb, r, p⟩
  exact ⟨x, dx, ws ++ dvs, H1, w, ds ++ dfl, B, rfl, e, h1, h2, h3, rb, r.app (hd w), p⟩
theorem ini_dfl0 {g : Gs} {c : Nat} {f : Fn} {dvs : List V} (hd : ∀ w, Reps g w [] dvs) : ∀ vs H Q E, spI g c f vs H Q E → spI g c f (vs ++ dvs) H Q E := by
  rintro vs H Q E ⟨x, dx, ws, H1, w, ds, B, rfl, e, h1, h2, h3, rb, r, p⟩
  refine ⟨x, dx, ws ++ dvs, H1, w, ds, B, rfl, e, h1, h2, h3, rb, ?_, p⟩
  have z := r.app (hd w)
  rwa [List.append_nil] at z
theorem init_ok {g : Gs} {c k : Nat} {q qual : Str} {st : Stmt} {fa : Addr} {fd : FuncData} {N ps : List Str} {n : Nat} {b : Ms} (F : L2.Fun g.K q qual st fa fd) (S : FnScope N ps (defScope st)) (hn : ps.length = n + 1) (hN : n + 1 ≤ N.length) (hh : g.has c = true)
    (fx : Fx g) (hb : ∀ (E : XK) (w0 : Wd) (H0 : Hp) (X : Cx), OkC g E k X → PassesOwn (model X.prog X.w) X.A X.env X.xe → Takes X (fun cls d _ H => E cls d H) → X.N = N → X.env.scope = defScope st → X.fn = (fun _ => true) → SndB g E w0 H0 X (defBody st) b) :
    FnOk g.prog g.w g.K g.mg g.base (L2.CX g.prog g.w) (k + 1) fa fd ps (spI g c (mkIni c n N.length b)) := by
  refine F.okX S (fun vs H Q E h => ?_) (fun cdv A outer s H vs Q E hr h => ?_)
  · obtain ⟨q, dx, ws, H1, w, ds, B, rfl, rfl, h1, h2, h3, rb, r, p⟩ := h
    unfold mkIni at p
    split at p
    · rename_i e; rw [List.length_cons, r.len, e, hn]
    · exact p.elim
  · obtain ⟨q, dx, ws, H1, w, ds, B, rfl, rfl, h1, h2, h3, rb, r, p⟩ := h
    unfold mkIni at p
    split at p
    · rename_i e
      refine ⟨_, hb E { w with me := some q } H1 _ ⟨⟨rfl, rfl, rfl, ?_, rfl, rfl, rfl, fx⟩, hr, ?_⟩ (passes_of rfl) (takes_of rfl rfl rfl rfl) rfl rfl rfl, ?_⟩
      · have := hr.un; show A.units + 3 + 100 < cLine; have h2 : A.units + 3 + 16 * k + 200 < cLine := this; omega
      · exact passes_call (takes_of rfl rfl rfl rfl) (fun _ _ _ _ h => h)
      · obtain ⟨s1, x1⟩ := start_ini (c := c) e hN hh rb r h1 h2 h3
        refine ⟨_, _, B, s1, x1, ?_⟩
        have z := fin_go h1 p
        refine PostS.le ?_ z
        exact ⟨Same.refl _, fun _ _ h => h⟩
    · exact p.elim
end Hf

set_option Elab.async false
set_option linter.all false
set_option maxRecDepth 100000
set_option maxHeartbeats 8000000
namespace Hf
open PySem PySem.Spec PyProof.Rows L2

/-! ### a box compared by what it holds -/
def deB (B : Bs) : D → D
  | .box n => match B[n]? with
    | some (.lst ds) => .lst ds
    | _ => .box n
  | d => d
def fNeB : D → D → Bs → Rs D := fun d e B => fNe (deB B d) (deB B e) B
section
variable {g : Gs} {E : XK} {H0 : Hp} {X : Cx}
theorem RepO.dpB {w : Wd} {H : Hp} {σI : Sl} {σ : L2.St} {B : Bs} {x : V} {d : D} (s : S0 g H0 w σI B σ H) (h : RepO g w σI σ d x) (c : (toPy (deB B d)).canLay0 = true) : Dp g.K H x (toPy (deB B d)) := by
  by_cases hd : ∃ n ds, d = .box n ∧ B[n]? = some (.lst ds)
  · obtain ⟨n, ds, rfl, hb⟩ := hd
    obtain ⟨a, rfl, ha⟩ := h.box s
    obtain ⟨a', o, h1, h2, ct⟩ := s.rb.get _ _ hb
    rw [ha] at h1; cases h1
    simp only [Cont] at ct
    obtain ⟨vs, rfl, r⟩ := ct
    have e : deB B (.box n) = .lst ds := by simp only [deB, hb]
    rw [e] at c ⊢
    simp only [toPy, PyData.canLay0] at c ⊢
    exact .lst (.inl (.inl h2)) (Reps.dp s.rb.sub _ vs r c)
  · have e : deB B d = d := by
      cases d <;> try rfl
      rename_i n
      simp only [deB]
      cases q : B[n]? with
      | none => rfl
      | some b =>
        cases b <;> try rfl
        exact absurd ⟨n, _, rfl, q⟩ hd
    rw [e] at c ⊢
    exact h.dp s c
theorem os_neB : OpSem g E H0 (rNeD g.K) fNeB := by
  intro w σI B σ H Q x y dx dy s rx ry p
  unfold fNeB fNe at p
  split at p
  · rename_i h
    obtain ⟨h1, h2⟩ := Bool.and_eq_true_iff.mp h
    exact ⟨_, _, rx.dpB s (SeqAt.canLay_of_shaped h1), ry.dpB s (SeqAt.canLay_of_shaped h2), h1, h2, p.nowR s (rep_bool g w _)⟩
  · exact p.elim
theorem c_neB (k : Ok g X) : Cmp g E H0 X .NotEq fNeB := ⟨⟨_, k.K ▸ op_neD (by have := k.un; omega), os_neB⟩, fun _ _ _ => blB _ _ _⟩
end
end Hf

set_option Elab.async false
set_option linter.all false
set_option maxRecDepth 100000
set_option maxHeartbeats 4000000
namespace Hk
open PySem PySem.Spec PyProof.Rows L2 Hf
def top (i : Nat) : Stmt := PySem.Challenge.pw_halfread_k56_words_that_are_none.main.body.getD i (.Pass ⟨0, 0, 0, 0⟩)
theorem nbg {g : Gs} {X : Cx} (ok : Ok g X) (x : String) (h : x ∈ ["len", "range", "isinstance", "tuple", "list", "all", "any", "max", "min", "set", "sorted", "enumerate", "zip", "repr", "str", "int", "sum", "dict", "bool"] := by decide) : g.mg (Str.ofString x) = Option.none := ok.fx.nb x h
/-! ### _law_pen -/
abbrev t__law_pen : Stmt := top 51
abbrev n__law_pen : List Str := ["_law_cell"]
def m__law_pen : Ms := (mRet (mBox (mLst (mCons (mBin fMax2 (mC (.int 0)) (mBin fSub (mVar 0) (mBin fPow (mC (.int 10)) (mC (.int 18))))) (mCons (mBin fAdd (mBin fMod (mVar 0) (mC (.int 2147483629))) (mC (.int 1))) (mCons (mC (.int 0)) mNil))))))
def f__law_pen : Fn := mkFn 1 1 m__law_pen
theorem b__law_pen {g : Gs}  : ∀ (E : XK) (w0 : Wd) (H0 : Hp) (X : Cx), OkC g E 0 X → PassesOwn (model X.prog X.w) X.A X.env X.xe → Takes X (fun cls d _ H => E cls d H) → X.N = n__law_pen → X.env.scope = defScope (t__law_pen) → X.fn = (fun _ => true) → SndB g E w0 H0 X (defBody (t__law_pen)) m__law_pen := by
  intro E w0 H0 X c po tk hN hs hf
  obtain ⟨prog, w', K, mg, base, A, N, s_0, H_0, ⟨e1, e2, e3, e4, e5, e6, e7, e8, e9⟩, outer, stack, ex, fn, calm, pn, xe⟩ := X
  simp only at hN hs hf
  subst hN hs hf
  have nd : (n__law_pen).Nodup := by decide +kernel
  exact (b_one (z_ret (s_box (f_lst (a_cons (q_max2 c.toOk s_int (s_sub (s_var (i := 0)) (s_pow s_int s_int))) (a_cons (s_add c.toOk (s_mod (s_var (i := 0)) s_int) s_int) (a_cons s_int a_nil)))))))
/-! ### _law_cell_at -/
abbrev t__law_cell_at : Stmt := top 50
abbrev n__law_cell_at : List Str := ["_law_script", "_law_k"]
def m__law_cell_at : Ms := (mSeq (mIf (mCmpT fLt (mVar 1) (m1 fLen (mVar 0))) (mRet (mBin fIx (mVar 0) (mVar 1))) mSkip)
  (mRet (mC (.int 0))))
def f__law_cell_at : Fn := mkFn 2 2 m__law_cell_at
theorem b__law_cell_at {g : Gs}  : ∀ (E : XK) (w0 : Wd) (H0 : Hp) (X : Cx), OkC g E 0 X → PassesOwn (model X.prog X.w) X.A X.env X.xe → Takes X (fun cls d _ H => E cls d H) → X.N = n__law_cell_at → X.env.scope = defScope (t__law_cell_at) → X.fn = (fun _ => true) → SndB g E w0 H0 X (defBody (t__law_cell_at)) m__law_cell_at := by
  intro E w0 H0 X c po tk hN hs hf
  obtain ⟨prog, w', K, mg, base, A, N, s_0, H_0, ⟨e1, e2, e3, e4, e5, e6, e7, e8, e9⟩, outer, stack, ex, fn, calm, pn, xe⟩ := X
  simp only at hN hs hf
  subst hN hs hf
  have nd : (n__law_cell_at).Nodup := by decide +kernel
  exact (b_cons (z_if (t_cmp c_lt (s_var (i := 1)) (q_len c.toOk (s_var (i := 0)))) (b_one (z_ret (s_ix c.toOk (s_var (i := 0)) (s_var (i := 1))))) b_nil)
  (b_one (z_ret s_int)))
/-! ### _law_draw -/
abbrev t__law_draw : Stmt := top 52
abbrev n__law_draw : List Str := ["_law_pen_here", "_law_many", "_law_found", "_law_mixed_here"]
def m__law_draw : Ms := (mSeq (mIf (mCmpT fGt (mBin fIx (mVar 0) (mC (.int 0))) (mC (.int 0))) (mSeq (mSet 2 (mBin fMod (mBin fIx (mVar 0) (mC (.int 0))) (mVar 1)))
  (mSeq (mSetIx (mVar 0) (mC (.int 0)) (mBin fDiv (mBin fIx (mVar 0) (mC (.int 0))) (mVar 1)))
  (mRet (mVar 2)))) mSkip)
  (mSeq (mSetIx (mVar 0) (mC (.int 2)) (mBin fAdd (mBin fIx (mVar 0) (mC (.int 2))) (mC (.int 1))))
  (mSeq (mSetIx (mVar 0) (mC (.int 1)) (mBin fMod (mBin fAdd (mBin fAdd (mBin fMul (mBin fIx (mVar 0) (mC (.int 1))) (mC (.int 48271))) (mBin fMul (mC (.int 1013)) (mBin fIx (mVar 0) (mC (.int 2))))) (mC (.int 7))) (mC (.int 2147483647))))
  (mSeq (mSet 3 (mBin fMod (mBin fAdd (mBin fAdd (mBin fMul (mBin fIx (mVar 0) (mC (.int 1))) (mBin fIx (mVar 0) (mC (.int 1)))) (mBin fMul (mC (.int 69621)) (mBin fIx (mVar 0) (mC (.int 1))))) (mC (.int 11))) (mC (.int 2147483629))))
  (mSeq (mSet 3 (mBin fMod (mBin fAdd (mBin fMul (mVar 3) (mVar 3)) (mBin fMul (mC (.int 40692)) (mVar 3))) (mC (.int 2147483587))))
  (mRet (mBin fMod (mBin fDiv (mVar 3) (mC (.int 16))) (mVar 1))))))))
def f__law_draw : Fn := mkFn 2 4 m__law_draw
theorem b__law_draw {g : Gs}  : ∀ (E : XK) (w0 : Wd) (H0 : Hp) (X : Cx), OkC g E 0 X → PassesOwn (model X.prog X.w) X.A X.env X.xe → Takes X (fun cls d _ H => E cls d H) → X.N = n__law_draw → X.env.scope = defScope (t__law_draw) → X.fn = (fun _ => true) → SndB g E w0 H0 X (defBody (t__law_draw)) m__law_draw := by
  intro E w0 H0 X c po tk hN hs hf
  obtain ⟨prog, w', K, mg, base, A, N, s_0, H_0, ⟨e1, e2, e3, e4, e5, e6, e7, e8, e9⟩, outer, stack, ex, fn, calm, pn, xe⟩ := X
  simp only at hN hs hf
  subst hN hs hf
  have nd : (n__law_draw).Nodup := by decide +kernel
  exact (b_cons (z_if (t_cmp c_gt (s_ix c.toOk (s_var (i := 0)) s_int) s_int) (b_cons (z_set (i := 2) nd (s_mod (s_ix c.toOk (s_var (i := 0)) s_int) (s_var (i := 1))))
  (b_cons (z_setIx (s_div (s_ix c.toOk (s_var (i := 0)) s_int) (s_var (i := 1))) (s_var (i := 0)) s_int)
  (b_one (z_ret (s_var (i := 2)))))) b_nil)
  (b_cons (z_setIx (s_add c.toOk (s_ix c.toOk (s_var (i := 0)) s_int) s_int) (s_var (i := 0)) s_int)
  (b_cons (z_setIx (s_mod (s_add c.toOk (s_add c.toOk (s_mul c.toOk (s_ix c.toOk (s_var (i := 0)) s_int) s_int) (s_mul c.toOk s_int (s_ix c.toOk (s_var (i := 0)) s_int))) s_int) s_int) (s_var (i := 0)) s_int)
  (b_cons (z_set (i := 3) nd (s_mod (s_add c.toOk (s_add c.toOk (s_mul c.toOk (s_ix c.toOk (s_var (i := 0)) s_int) (s_ix c.toOk (s_var (i := 0)) s_int)) (s_mul c.toOk s_int (s_ix c.toOk (s_var (i := 0)) s_int))) s_int) s_int))
  (b_cons (z_set (i := 3) nd (s_mod (s_add c.toOk (s_mul c.toOk (s_var (i := 3)) (s_var (i := 3))) (s_mul c.toOk s_int (s_var (i := 3)))) s_int))
  (b_one (z_ret (s_mod (s_div (s_var (i := 3)) s_int) (s_var (i := 1))))))))))
/-! ### _law_mixed -/
abbrev t__law_mixed : Stmt := top 55
abbrev n__law_mixed : List Str := ["_law_pen_here", "_law_some", "_law_left", "_law_found"]
def m__law_mixed : Ms := (mSeq (mPar2S 2 3 (mBox (m1 fLstO (mVar 1))) (mLst mNil))
  (mSeq (whileL (mCmpT fNeB (mVar 2) (mLst mNil)) (mApp 3 (mPopB 2 (mCall f__law_draw [] (mCons (mVar 0) (mCons (m1 fLen (mVar 2)) mNil))))) 4000)
  (mFrz 3 (mRet (mVar 3)))))
def f__law_mixed : Fn := mkFn 2 4 m__law_mixed
theorem b__law_mixed {g : Gs}  (d__law_draw : Def g 1 "_law_draw" [] f__law_draw) : ∀ (E : XK) (w0 : Wd) (H0 : Hp) (X : Cx), OkC g E 1 X → PassesOwn (model X.prog X.w) X.A X.env X.xe → Takes X (fun cls d _ H => E cls d H) → X.N = n__law_mixed → X.env.scope = defScope (t__law_mixed) → X.fn = (fun _ => true) → SndB g E w0 H0 X (defBody (t__law_mixed)) m__law_mixed := by
  intro E w0 H0 X c po tk hN hs hf
  obtain ⟨prog, w', K, mg, base, A, N, s_0, H_0, ⟨e1, e2, e3, e4, e5, e6, e7, e8, e9⟩, outer, stack, ex, fn, calm, pn, xe⟩ := X
  simp only at hN hs hf
  subst hN hs hf
  have nd : (n__law_mixed).Nodup := by decide +kernel
  exact (b_cons (z_par2S (i := 2) (j := 3) c.toOk nd (s_box (q_list c.toOk (s_var (i := 1)))) (f_lst a_nil))
  (b_cons (z_while 4000 po (t_cmp (c_neB c.toOk) (s_var (i := 2)) (f_val (f_lst a_nil))) (b_one (z_app (i := 3) (s_popB (i := 2) (s_call c d__law_draw (by decide) (a_cons (s_var (i := 0)) (a_cons (q_len c.toOk (s_var (i := 2))) a_nil)))))))
  (b_one (s_frz (i := 3) (z_ret (s_var (i := 3)))))))
/-! ### _law_all_words -/
abbrev t__law_all_words : Stmt := top 54
abbrev n__law_all_words : List Str := ["_law_many", "_law_found", "_law_turn", "_law_longer", "_law_row"]
def m__law_all_words : Ms := (mSeq (mSet 1 (mLst (mCons (mTup mNil) mNil)))
  (mSeq (mFor (gN 2) (mRng1 (mVar 0)) (mSeq (mSetO 3 (mLst mNil))
  (mSeq (mFor (gN 4) (mItems (mVar 1)) (mExt 3 (mLst (mCons (mBin fAdd (mVar 4) (mTup (mCons (mC (.int 0)) mNil))) (mCons (mBin fAdd (mVar 4) (mTup (mCons (mC (.int 1)) mNil))) mNil)))))
  (mFrz 3 (mSet 1 (mVar 3))))))
  (mRet (mVar 1))))
def f__law_all_words : Fn := mkFn 1 5 m__law_all_words
theorem b__law_all_words {g : Gs}  : ∀ (E : XK) (w0 : Wd) (H0 : Hp) (X : Cx), OkC g E 0 X → PassesOwn (model X.prog X.w) X.A X.env X.xe → Takes X (fun cls d _ H => E cls d H) → X.N = n__law_all_words → X.env.scope = defScope (t__law_all_words) → X.fn = (fun _ => true) → SndB g E w0 H0 X (defBody (t__law_all_words)) m__law_all_words := by
  intro E w0 H0 X c po tk hN hs hf
  obtain ⟨prog, w', K, mg, base, A, N, s_0, H_0, ⟨e1, e2, e3, e4, e5, e6, e7, e8, e9⟩, outer, stack, ex, fn, calm, pn, xe⟩ := X
  simp only at hN hs hf
  subst hN hs hf
  have nd : (n__law_all_words).Nodup := by decide +kernel
  exact (b_cons (z_set (i := 1) nd (f_val (f_lst (a_cons (s_tup a_nil) a_nil))))
  (b_cons (z_for c.toOk po (i_rng1 c.toOk (nbg c.toOk "range") (s_var (i := 0))) (g_name (i := 2) nd) (b_cons (z_setO (i := 3) nd (f_lst a_nil))
  (b_cons (z_for c.toOk po (i_seq c.toOk (s_var (i := 1))) (g_name (i := 4) nd) (b_one (z_ext (i := 3) (f_val (f_lst (a_cons (s_add c.toOk (s_var (i := 4)) (s_tup (a_cons s_int a_nil))) (a_cons (s_add c.toOk (s_var (i := 4)) (s_tup (a_cons s_int a_nil))) a_nil)))))))
  (b_one (s_frz (i := 3) (z_set (i := 1) nd (s_var (i := 3))))))))
  (b_one (z_ret (s_var (i := 1))))))
/-! ### _law_sparse -/
abbrev t__law_sparse : Stmt := top 64
abbrev n__law_sparse : List Str := ["_law_pen_here"]
def m__law_sparse : Ms := (mRet (m1 fTupO (mSl01 (mCall f__law_mixed [] (mCons (mVar 0) (mCons (mCall f__law_all_words [] (mCons (mC (.int 3)) mNil)) mNil))) (mBin fAdd (mC (.int 3)) (mCall f__law_draw [] (mCons (mVar 0) (mCons (mC (.int 4)) mNil)))))))
def f__law_sparse : Fn := mkFn 1 1 m__law_sparse
theorem b__law_sparse {g : Gs}  (d__law_mixed : Def g 2 "_law_mixed" [] f__law_mixed) (d__law_all_words : Def g 1 "_law_all_words" [] f__law_all_words) (d__law_draw : Def g 1 "_law_draw" [] f__law_draw) : ∀ (E : XK) (w0 : Wd) (H0 : Hp) (X : Cx), OkC g E 2 X → PassesOwn (model X.prog X.w) X.A X.env X.xe → Takes X (fun cls d _ H => E cls d H) → X.N = n__law_sparse → X.env.scope = defScope (t__law_sparse) → X.fn = (fun _ => true) → SndB g E w0 H0 X (defBody (t__law_sparse)) m__law_sparse := by
  intro E w0 H0 X c po tk hN hs hf
  obtain ⟨prog, w', K, mg, base, A, N, s_0, H_0, ⟨e1, e2, e3, e4, e5, e6, e7, e8, e9⟩, outer, stack, ex, fn, calm, pn, xe⟩ := X
  simp only at hN hs hf
  subst hN hs hf
  have nd : (n__law_sparse).Nodup := by decide +kernel
  exact (b_one (z_ret (q_tuple c.toOk (s_sl01 c.toOk (s_call c d__law_mixed (by decide) (a_cons (s_var (i := 0)) (a_cons (s_call c d__law_all_words (by decide) (a_cons s_int a_nil)) a_nil))) (s_add c.toOk s_int (s_call c d__law_draw (by decide) (a_cons (s_var (i := 0)) (a_cons s_int a_nil))))))))
/-! ### word_in -/
abbrev t_word_in : Stmt := top 19
abbrev n_word_in : List Str := ["line", "sign"]
def m_word_in : Ms := (mRet (m1 fTupO (mLc [1] (gN 1) (mItems (mVar 0)) mYes (mIte (mCmpT (fInD fun b => b) (mVar 1) (mC (.tup [(.str (Str.ofString "0")), (.str (Str.ofString "1"))]))) (m1 (fIxS [Str.ofString "0", Str.ofString "1"]) (mVar 1)) (mC (.int (-1)))))))
def f_word_in : Fn := mkFn 1 2 m_word_in
theorem b_word_in {g : Gs} (G_SIGNS : GlobC g "SIGNS" (.tup [(.str (Str.ofString "0")), (.str (Str.ofString "1"))])) (T_SIGNS : GlobT g "SIGNS" [Str.ofString "0", Str.ofString "1"]) (G_NO_WORD : GlobC g "NO_WORD" (.int (-1))) : ∀ (E : XK) (w0 : Wd) (H0 : Hp) (X : Cx), OkC g E 0 X → PassesOwn (model X.prog X.w) X.A X.env X.xe → Takes X (fun cls d _ H => E cls d H) → X.N = n_word_in → X.env.scope = defScope (t_word_in) → X.fn = (fun _ => true) → SndB g E w0 H0 X (defBody (t_word_in)) m_word_in := by
  intro E w0 H0 X c po tk hN hs hf
  obtain ⟨prog, w', K, mg, base, A, N, s_0, H_0, ⟨e1, e2, e3, e4, e5, e6, e7, e8, e9⟩, outer, stack, ex, fn, calm, pn, xe⟩ := X
  simp only at hN hs hf
  subst hN hs hf
  have nd : (n_word_in).Nodup := by decide +kernel
  exact (b_one (z_ret (q_tuple c.toOk (f_val (f_lc (own := [("sign", 1)]) c.toOk nd (i_seq c.toOk (s_var (i := 0))) (by first | exact L2.blkOk_by (by decide +kernel) | exact L2.blkOk_by (by kernel_rfl)) (by decide) (fun _ _ _ _ _ => (g_name (i := 1) nd)) (fun _ _ _ _ _ => ts_nil) (fun _ _ _ _ _ => (fun (cb : OkC g E0 0 _) => (s_ite (t_cmp (c_inA cb.toOk) (s_var (i := 1)) (s_glob cb.toOk G_SIGNS)) (s_gIx cb.toOk T_SIGNS (s_var (i := 1))) (s_glob cb.toOk G_NO_WORD))) (c.blk _ _ _ _ _)))))))
/-! ### is_between -/
abbrev t_is_between : Stmt := top 16
abbrev n_is_between : List Str := ["thing", "low", "high"]
def m_is_between : Ms := (mRet (mAnd (mIsB .int (mVar 0)) (mAnd (mNot (mIsB .bool (mVar 0))) (mChain fLe fLe (mVar 1) (mVar 0) (mVar 2)))))
def f_is_between : Fn := mkFn 3 3 m_is_between
theorem b_is_between {g : Gs}  : ∀ (E : XK) (w0 : Wd) (H0 : Hp) (X : Cx), OkC g E 0 X → PassesOwn (model X.prog X.w) X.A X.env X.xe → Takes X (fun cls d _ H => E cls d H) → X.N = n_is_between → X.env.scope = defScope (t_is_between) → X.fn = (fun _ => true) → SndB g E w0 H0 X (defBody (t_is_between)) m_is_between := by
  intro E w0 H0 X c po tk hN hs hf
  obtain ⟨prog, w', K, mg, base, A, N, s_0, H_0, ⟨e1, e2, e3, e4, e5, e6, e7, e8, e9⟩, outer, stack, ex, fn, calm, pn, xe⟩ := X
  simp only at hN hs hf
  subst hN hs hf
  have nd : (n_is_between).Nodup := by decide +kernel
  exact (b_one (z_ret (s_and c.toOk (s_isB c.toOk .int rfl (s_var (i := 0))) (s_and c.toOk (s_not c.toOk (s_isB c.toOk .bool rfl (s_var (i := 0)))) (s_one (s_chain c_le c_le (s_var (i := 1)) (s_var (i := 0)) (s_var (i := 2))))))))
/-! ### are_bits -/
abbrev t_are_bits : Stmt := top 17
abbrev n_are_bits : List Str := ["thing", "one"]
def m_are_bits : Ms := (mRet (mAnd (mIsB .tuple (mVar 0)) (m1 fAll (mLc [1] (gN 1) (mItems (mVar 0)) mYes (mCall f_is_between [] (mCons (mVar 1) (mCons (mC (.int 0)) (mCons (mC (.int 1)) mNil))))))))
def f_are_bits : Fn := mkFn 1 2 m_are_bits
theorem b_are_bits {g : Gs}  (d_is_between : Def g 1 "is_between" [] f_is_between) : ∀ (E : XK) (w0 : Wd) (H0 : Hp) (X : Cx), OkC g E 1 X → PassesOwn (model X.prog X.w) X.A X.env X.xe → Takes X (fun cls d _ H => E cls d H) → X.N = n_are_bits → X.env.scope = defScope (t_are_bits) → X.fn = (fun _ => true) → SndB g E w0 H0 X (defBody (t_are_bits)) m_are_bits := by
  intro E w0 H0 X c po tk hN hs hf
  obtain ⟨prog, w', K, mg, base, A, N, s_0, H_0, ⟨e1, e2, e3, e4, e5, e6, e7, e8, e9⟩, outer, stack, ex, fn, calm, pn, xe⟩ := X
  simp only at hN hs hf
  subst hN hs hf
  have nd : (n_are_bits).Nodup := by decide +kernel
  exact (b_one (z_ret (s_and c.toOk (s_isB c.toOk .tuple rfl (s_var (i := 0))) (s_one (q_all c.toOk (f_val (f_lc (own := [("one", 1)]) c.toOk nd (i_seq c.toOk (s_var (i := 0))) (by first | exact L2.blkOk_by (by decide +kernel) | exact L2.blkOk_by (by kernel_rfl)) (by decide) (fun _ _ _ _ _ => (g_name (i := 1) nd)) (fun _ _ _ _ _ => ts_nil) (fun _ _ _ _ _ => (fun (cb : OkC g E0 1 _) => (s_call cb d_is_between (by decide) (a_cons (s_var (i := 1)) (a_cons s_int (a_cons s_int a_nil))))) (c.blk _ _ _ _ _)))))))))
/-! ### are_words -/
abbrev t_are_words : Stmt := top 18
abbrev n_are_words : List Str := ["thing", "word"]
def m_are_words : Ms := (mSeq (mIf (mOrT (mNotT (mChainT fLe fLe (mC (.int (2))) (m1 fLen (mVar 0)) (mC (.int (16))))) (mNotT (mT (m1 fAll (mLc [1] (gN 1) (mItems (mVar 0)) mYes (mCall f_are_bits [] (mCons (mVar 1) mNil))))))) (mRet (mC (.bool false))) mSkip)
  (mSeq (mIf (mOrT (mNotT (mChainT fLe fLe (mC (.int 1)) (m1 fLen (mBin fIx (mVar 0) (mC (.int 0)))) (mC (.int (5))))) (mNotT (mT (m1 fAll (mLc [1] (gN 1) (mItems (mVar 0)) mYes (mBin fEq (m1 fLen (mVar 1)) (m1 fLen (mBin fIx (mVar 0) (mC (.int 0)))))))))) (mRet (mC (.bool false))) mSkip)
  (mRet (mBin fEq (m1 fLenSet (mVar 0)) (m1 fLen (mVar 0))))))
def f_are_words : Fn := mkFn 1 2 m_are_words
theorem b_are_words {g : Gs} (G_FEWEST_VALUES : GlobC g "FEWEST_VALUES" (.int (2))) (G_MOST_VALUES : GlobC g "MOST_VALUES" (.int (16))) (G_MOST_BITS : GlobC g "MOST_BITS" (.int (5))) (d_are_bits : Def g 2 "are_bits" [] f_are_bits) : ∀ (E : XK) (w0 : Wd) (H0 : Hp) (X : Cx), OkC g E 2 X → PassesOwn (model X.prog X.w) X.A X.env X.xe → Takes X (fun cls d _ H => E cls d H) → X.N = n_are_words → X.env.scope = defScope (t_are_words) → X.fn = (fun _ => true) → SndB g E w0 H0 X (defBody (t_are_words)) m_are_words := by
  intro E w0 H0 X c po tk hN hs hf
  obtain ⟨prog, w', K, mg, base, A, N, s_0, H_0, ⟨e1, e2, e3, e4, e5, e6, e7, e8, e9⟩, outer, stack, ex, fn, calm, pn, xe⟩ := X
  simp only at hN hs hf
  subst hN hs hf
  have nd : (n_are_words).Nodup := by decide +kernel
  exact (b_cons (z_if (t_w (w_or (t_not (t_chain c_le c_le (s_glob c.toOk G_FEWEST_VALUES) (q_len c.toOk (s_var (i := 0))) (s_glob c.toOk G_MOST_VALUES))) (w_or1 (t_not (t_val c.toOk (q_all c.toOk (f_val (f_lc (own := [("word", 1)]) c.toOk nd (i_seq c.toOk (s_var (i := 0))) (by first | exact L2.blkOk_by (by decide +kernel) | exact L2.blkOk_by (by kernel_rfl)) (by decide) (fun _ _ _ _ _ => (g_name (i := 1) nd)) (fun _ _ _ _ _ => ts_nil) (fun _ _ _ _ _ => (fun (cb : OkC g E0 2 _) => (s_call cb d_are_bits (by decide) (a_cons (s_var (i := 1)) a_nil))) (c.blk _ _ _ _ _)))))))))) (b_one (z_ret s_bool)) b_nil)
  (b_cons (z_if (t_w (w_or (t_not (t_chain c_le c_le s_int (q_len c.toOk (s_ix c.toOk (s_var (i := 0)) s_int)) (s_glob c.toOk G_MOST_BITS))) (w_or1 (t_not (t_val c.toOk (q_all c.toOk (f_val (f_lc (own := [("word", 1)]) c.toOk nd (i_seq c.toOk (s_var (i := 0))) (by first | exact L2.blkOk_by (by decide +kernel) | exact L2.blkOk_by (by kernel_rfl)) (by decide) (fun _ _ _ _ _ => (g_name (i := 1) nd)) (fun _ _ _ _ _ => ts_nil) (fun _ _ _ _ _ => (fun (cb : OkC g E0 2 _) => (s_cmp (c_eq cb.toOk) (q_len cb.toOk (s_var (i := 1))) (q_len cb.toOk (s_ix cb.toOk (s_var (i := 0)) s_int)))) (c.blk _ _ _ _ _)))))))))) (b_one (z_ret s_bool)) b_nil)
  (b_one (z_ret (s_cmp (c_eq c.toOk) (s_lenSet c.toOk (s_var (i := 0))) (q_len c.toOk (s_var (i := 0))))))))
/-! ### Code.__init__ -/
abbrev t_CodeX_initX : Stmt := inClass (top 20) 0
abbrev n_CodeX_initX : List Str := ["self", "words", "value", "word"]
def m_CodeX_initX : Ms := (mSeq (mIf (mNotT (mT (mCall f_are_words [] (mCons (mVar 1) mNil)))) mBad mSkip)
  (mSeq (mFldJ 0 0 (mVar 1))
  (mFldJ 0 1 (mDc [2, 3] (gT (gsC (gN 2) (gsC (gN 3) gs0))) (mEnum (mVar 1)) mYes (mVar 3) (mVar 2)))))
def f_CodeX_initX : Fn := mkIniS 0 4 m_CodeX_initX
theorem b_CodeX_initX {g : Gs}  (d_are_words : Def g 3 "are_words" [] f_are_words) : ∀ (E : XK) (w0 : Wd) (H0 : Hp) (X : Cx), OkC g E 3 X → PassesOwn (model X.prog X.w) X.A X.env X.xe → Takes X (fun cls d _ H => E cls d H) → X.N = n_CodeX_initX → X.env.scope = defScope (t_CodeX_initX) → X.fn = (fun _ => true) → SndB g E w0 H0 X (defBody (t_CodeX_initX)) m_CodeX_initX := by
  intro E w0 H0 X c po tk hN hs hf
  obtain ⟨prog, w', K, mg, base, A, N, s_0, H_0, ⟨e1, e2, e3, e4, e5, e6, e7, e8, e9⟩, outer, stack, ex, fn, calm, pn, xe⟩ := X
  simp only at hN hs hf
  subst hN hs hf
  have nd : (n_CodeX_initX).Nodup := by decide +kernel
  exact (b_cons (z_if (t_not (t_val c.toOk (s_call c d_are_words (by decide) (a_cons (s_var (i := 1)) a_nil)))) (b_one z_bad) b_nil)
  (b_cons (z_fldSet (c := 0) (j := 0) c.toOk rfl (s_var (i := 1)))
  (b_one (z_fldSet (c := 0) (j := 1) c.toOk rfl (s_dc (own := [("value", 2), ("word", 3)]) c.toOk nd (i_enum c.toOk (s_var (i := 1))) (by first | exact L2.blkOk_by (by decide +kernel) | exact L2.blkOk_by (by kernel_rfl)) (by decide) (fun _ _ _ _ _ => (fun (cb : OkC g E0 3 _) => (g_tup cb.toOk (gs_cons (g_name (i := 2) nd) (gs_cons (g_name (i := 3) nd) gs_nil)) (n_cons (n_cons n_nil)))) (c.blk _ _ _ _ _)) (fun _ _ _ _ _ => ts_nil) (fun _ _ _ _ _ => (s_var (i := 3))) (fun _ _ _ _ _ => (s_var (i := 2))))))))
/-! ### Code.read -/
abbrev t_Code_read : Stmt := inClass (top 20) 12
abbrev n_Code_read : List Str := ["cls", "text", "lines", "words", "line"]
def m_Code_read : Ms := (mSeq (mSet 2 (mIte (mT (mIsB .str (mVar 1))) (mSl01 (mMeth fSplit (mVar 1) (mC (.str (Str.ofString "\n")))) (mNeg (mC (.int 1)))) (mLst mNil)))
  (mSeq (mSet 3 (m1 fTupO (mLc [4] (gN 4) (mItems (mVar 2)) mYes (mCall f_word_in [] (mCons (mVar 4) mNil)))))
  (mSeq (mIf (mOrT (mNotT (mT (mCall f_are_words [] (mCons (mVar 3) mNil)))) (mCmpT fNe (mMeth fJoin (mC (.str (Str.ofString ""))) (mLc [4] (gN 4) (mItems (mVar 2)) mYes (mBin fAdd (mVar 4) (mC (.str (Str.ofString "\n")))))) (mVar 1))) mBad mSkip)
  (mRet (mMakeV 0 0 f_CodeX_initX (mVar 3))))))
def f_Code_read : Fn := mkFn 2 5 m_Code_read
theorem b_Code_read {g : Gs}  (d_word_in : Def g 1 "word_in" [] f_word_in) (d_are_words : Def g 3 "are_words" [] f_are_words) (d_CodeX_initX : Ini g 4 0 f_CodeX_initX) : ∀ (E : XK) (w0 : Wd) (H0 : Hp) (X : Cx), OkC g E 5 X → PassesOwn (model X.prog X.w) X.A X.env X.xe → Takes X (fun cls d _ H => E cls d H) → X.N = n_Code_read → X.env.scope = defScope (t_Code_read) → X.fn = (fun _ => true) → SndB g E w0 H0 X (defBody (t_Code_read)) m_Code_read := by
  intro E w0 H0 X c po tk hN hs hf
  obtain ⟨prog, w', K, mg, base, A, N, s_0, H_0, ⟨e1, e2, e3, e4, e5, e6, e7, e8, e9⟩, outer, stack, ex, fn, calm, pn, xe⟩ := X
  simp only at hN hs hf
  subst hN hs hf
  have nd : (n_Code_read).Nodup := by decide +kernel
  exact (b_cons (z_set (i := 2) nd (s_ite (t_val c.toOk (s_isB c.toOk .str rfl (s_var (i := 1)))) (s_sl01 c.toOk (f_split (s_var (i := 1)) s_str) (s_neg s_int)) (f_val (f_lst a_nil))))
  (b_cons (z_set (i := 3) nd (q_tuple c.toOk (f_val (f_lc (own := [("line", 4)]) c.toOk nd (i_seq c.toOk (s_var (i := 2))) (by first | exact L2.blkOk_by (by decide +kernel) | exact L2.blkOk_by (by kernel_rfl)) (by decide) (fun _ _ _ _ _ => (g_name (i := 4) nd)) (fun _ _ _ _ _ => ts_nil) (fun _ _ _ _ _ => (fun (cb : OkC g E0 5 _) => (s_call cb d_word_in (by decide) (a_cons (s_var (i := 4)) a_nil))) (c.blk _ _ _ _ _))))))
  (b_cons (z_if (t_w (w_or (t_not (t_val c.toOk (s_call c d_are_words (by decide) (a_cons (s_var (i := 3)) a_nil)))) (w_or1 (t_cmp (c_ne c.toOk) (s_join c.toOk s_str (f_val (f_lc (own := [("line", 4)]) c.toOk nd (i_seq c.toOk (s_var (i := 2))) (by first | exact L2.blkOk_by (by decide +kernel) | exact L2.blkOk_by (by kernel_rfl)) (by decide) (fun _ _ _ _ _ => (g_name (i := 4) nd)) (fun _ _ _ _ _ => ts_nil) (fun _ _ _ _ _ => (fun (cb : OkC g E0 5 _) => (s_add cb.toOk (s_var (i := 4)) s_str)) (c.blk _ _ _ _ _))))) (s_var (i := 1)))))) (b_one z_bad) b_nil)
  (b_one (z_ret (s_makeV (i := 0) c d_CodeX_initX (by decide) (s_var (i := 3))))))))
/-! ### _law_coded -/
abbrev t__law_coded : Stmt := top 56
abbrev n__law_coded : List Str := ["_law_ring", "_law_lines", "_law_word", "_law_bit"]
def m__law_coded : Ms := (mSeq (mSet 1 (mLc [2] (gN 2) (mItems (mVar 0)) mYes (mBin fAdd (mMeth fJoin (mC (.str (Str.ofString ""))) (mLc [3] (gN 3) (mItems (mVar 2)) mYes (m1 fStrI (mVar 3)))) (mC (.str (Str.ofString "\n"))))))
  (mRet (mCMth 0 f_Code_read (mCons (mMeth fJoin (mC (.str (Str.ofString ""))) (mVar 1)) mNil))))
def f__law_coded : Fn := mkFn 1 4 m__law_coded
theorem b__law_coded {g : Gs} (C_Code : ClsN g 0 "Code") (d_Code_read : CMt g 6 0 "read" f_Code_read) : ∀ (E : XK) (w0 : Wd) (H0 : Hp) (X : Cx), OkC g E 6 X → PassesOwn (model X.prog X.w) X.A X.env X.xe → Takes X (fun cls d _ H => E cls d H) → X.N = n__law_coded → X.env.scope = defScope (t__law_coded) → X.fn = (fun _ => true) → SndB g E w0 H0 X (defBody (t__law_coded)) m__law_coded := by
  intro E w0 H0 X c po tk hN hs hf
  obtain ⟨prog, w', K, mg, base, A, N, s_0, H_0, ⟨e1, e2, e3, e4, e5, e6, e7, e8, e9⟩, outer, stack, ex, fn, calm, pn, xe⟩ := X
  simp only at hN hs hf
  subst hN hs hf
  have nd : (n__law_coded).Nodup := by decide +kernel
  exact (b_cons (z_setLc (i := 1) (own := [("_law_word", 2)]) c.toOk nd rfl rfl (sw_true rfl rfl rfl (by decide +kernel)) (i_seq c.toOk (s_var (i := 0))) (by first | exact L2.blkOk_by (by decide +kernel) | exact L2.blkOk_by (by kernel_rfl)) (by decide) (fun _ _ _ _ _ => (g_name (i := 2) nd)) (fun _ _ _ _ _ => ts_nil) (fun _ _ _ _ _ => (fun (cb : OkC g E0 6 _) => (s_add cb.toOk (s_join cb.toOk s_str (f_val (f_lc (own := [("_law_bit", 3)]) cb.toOk nd (i_seq cb.toOk (s_var (i := 2))) (by first | exact L2.blkOk_by (by decide +kernel) | exact L2.blkOk_by (by kernel_rfl)) (by decide) (fun _ _ _ _ _ => (g_name (i := 3) nd)) (fun _ _ _ _ _ => ts_nil) (fun _ _ _ _ _ => (fun (cbb : OkC g E0 6 _) => (q_str cbb.toOk (s_var (i := 3)))) (cb.blk _ _ _ _ _))))) s_str)) (c.blk _ _ _ _ _)))
  (b_one (z_ret (s_cmth c d_Code_read C_Code (by decide) (a_cons (s_join c.toOk s_str (s_var (i := 1))) a_nil)))))
/-! ### need_code -/
abbrev t_need_code : Stmt := top 21
abbrev n_need_code : List Str := ["thing"]
def m_need_code : Ms := (mIf (mNotT (mT (mIsC 0 (mVar 0)))) mBad mSkip)
def f_need_code : Fn := mkFn 1 1 m_need_code
theorem b_need_code {g : Gs} (C_Code : ClsN g 0 "Code") : ∀ (E : XK) (w0 : Wd) (H0 : Hp) (X : Cx), OkC g E 0 X → PassesOwn (model X.prog X.w) X.A X.env X.xe → Takes X (fun cls d _ H => E cls d H) → X.N = n_need_code → X.env.scope = defScope (t_need_code) → X.fn = (fun _ => true) → SndB g E w0 H0 X (defBody (t_need_code)) m_need_code := by
  intro E w0 H0 X c po tk hN hs hf
  obtain ⟨prog, w', K, mg, base, A, N, s_0, H_0, ⟨e1, e2, e3, e4, e5, e6, e7, e8, e9⟩, outer, stack, ex, fn, calm, pn, xe⟩ := X
  simp only at hN hs hf
  subst hN hs hf
  have nd : (n_need_code).Nodup := by decide +kernel
  exact (b_one (z_if (t_not (t_val c.toOk (s_isC c.toOk C_Code (s_var (i := 0))))) (b_one z_bad) b_nil))
/-! ### Code.__len__ -/
abbrev t_CodeX_lenX : Stmt := inClass (top 20) 3
abbrev n_CodeX_lenX : List Str := ["self"]
def m_CodeX_lenX : Ms := (mRet (m1 fLen (mFld 0 0 (mVar 0))))
def f_CodeX_lenX : Fn := mkFn 1 1 m_CodeX_lenX
theorem b_CodeX_lenX {g : Gs}  : ∀ (E : XK) (w0 : Wd) (H0 : Hp) (X : Cx), OkC g E 0 X → PassesOwn (model X.prog X.w) X.A X.env X.xe → Takes X (fun cls d _ H => E cls d H) → X.N = n_CodeX_lenX → X.env.scope = defScope (t_CodeX_lenX) → X.fn = (fun _ => true) → SndB g E w0 H0 X (defBody (t_CodeX_lenX)) m_CodeX_lenX := by
  intro E w0 H0 X c po tk hN hs hf
  obtain ⟨prog, w', K, mg, base, A, N, s_0, H_0, ⟨e1, e2, e3, e4, e5, e6, e7, e8, e9⟩, outer, stack, ex, fn, calm, pn, xe⟩ := X
  simp only at hN hs hf
  subst hN hs hf
  have nd : (n_CodeX_lenX).Nodup := by decide +kernel
  exact (b_one (z_ret (q_len c.toOk (s_fld (c := 0) (j := 0) c.toOk rfl (s_var (i := 0))))))
/-! ### window_of -/
abbrev t_window_of : Stmt := top 25
abbrev n_window_of : List Str := ["code", "value", "span", "step"]
def m_window_of : Ms := (mRet (mLc [3] (gN 3) (mRng1 (mBin fAdd (mVar 2) (mC (.int 1)))) mYes (mBin fMod (mBin fAdd (mVar 1) (mVar 3)) (m1 (fLenA 0 f_CodeX_lenX) (mVar 0)))))
def f_window_of : Fn := mkFn 3 4 m_window_of
theorem b_window_of {g : Gs}  (d_CodeX_lenX : Dun g 1 0 "__len__" f_CodeX_lenX) : ∀ (E : XK) (w0 : Wd) (H0 : Hp) (X : Cx), OkC g E 2 X → PassesOwn (model X.prog X.w) X.A X.env X.xe → Takes X (fun cls d _ H => E cls d H) → X.N = n_window_of → X.env.scope = defScope (t_window_of) → X.fn = (fun _ => true) → SndB g E w0 H0 X (defBody (t_window_of)) m_window_of := by
  intro E w0 H0 X c po tk hN hs hf
  obtain ⟨prog, w', K, mg, base, A, N, s_0, H_0, ⟨e1, e2, e3, e4, e5, e6, e7, e8, e9⟩, outer, stack, ex, fn, calm, pn, xe⟩ := X
  simp only at hN hs hf
  subst hN hs hf
  have nd : (n_window_of).Nodup := by decide +kernel
  exact (b_one (z_ret (f_val (f_lc (own := [("step", 3)]) c.toOk nd (i_rng1 c.toOk (nbg c.toOk "range") (s_add c.toOk (s_var (i := 2)) s_int)) (by first | exact L2.blkOk_by (by decide +kernel) | exact L2.blkOk_by (by kernel_rfl)) (by decide) (fun _ _ _ _ _ => (g_name (i := 3) nd)) (fun _ _ _ _ _ => ts_nil) (fun _ _ _ _ _ => (fun (cb : OkC g E0 2 _) => (s_mod (s_add cb.toOk (s_var (i := 1)) (s_var (i := 3))) (s_lenA cb d_CodeX_lenX (by decide) (s_var (i := 0))))) (c.blk _ _ _ _ _))))))
/-! ### Code.words -/
abbrev t_Code_words : Stmt := inClass (top 20) 1
abbrev n_Code_words : List Str := ["self"]
def m_Code_words : Ms := (mRet (mFld 0 0 (mVar 0)))
def f_Code_words : Fn := mkFn 1 1 m_Code_words
theorem b_Code_words {g : Gs}  : ∀ (E : XK) (w0 : Wd) (H0 : Hp) (X : Cx), OkC g E 0 X → PassesOwn (model X.prog X.w) X.A X.env X.xe → Takes X (fun cls d _ H => E cls d H) → X.N = n_Code_words → X.env.scope = defScope (t_Code_words) → X.fn = (fun _ => true) → SndB g E w0 H0 X (defBody (t_Code_words)) m_Code_words := by
  intro E w0 H0 X c po tk hN hs hf
  obtain ⟨prog, w', K, mg, base, A, N, s_0, H_0, ⟨e1, e2, e3, e4, e5, e6, e7, e8, e9⟩, outer, stack, ex, fn, calm, pn, xe⟩ := X
  simp only at hN hs hf
  subst hN hs hf
  have nd : (n_Code_words).Nodup := by decide +kernel
  exact (b_one (z_ret (s_fld (c := 0) (j := 0) c.toOk rfl (s_var (i := 0)))))
/-! ### Code.bits -/
abbrev t_Code_bits : Stmt := inClass (top 20) 2
abbrev n_Code_bits : List Str := ["self"]
def m_Code_bits : Ms := (mRet (m1 fLen (mBin fIx (mFld 0 0 (mVar 0)) (mC (.int 0)))))
def f_Code_bits : Fn := mkFn 1 1 m_Code_bits
theorem b_Code_bits {g : Gs}  : ∀ (E : XK) (w0 : Wd) (H0 : Hp) (X : Cx), OkC g E 0 X → PassesOwn (model X.prog X.w) X.A X.env X.xe → Takes X (fun cls d _ H => E cls d H) → X.N = n_Code_bits → X.env.scope = defScope (t_Code_bits) → X.fn = (fun _ => true) → SndB g E w0 H0 X (defBody (t_Code_bits)) m_Code_bits := by
  intro E w0 H0 X c po tk hN hs hf
  obtain ⟨prog, w', K, mg, base, A, N, s_0, H_0, ⟨e1, e2, e3, e4, e5, e6, e7, e8, e9⟩, outer, stack, ex, fn, calm, pn, xe⟩ := X
  simp only at hN hs hf
  subst hN hs hf
  have nd : (n_Code_bits).Nodup := by decide +kernel
  exact (b_one (z_ret (q_len c.toOk (s_ix c.toOk (s_fld (c := 0) (j := 0) c.toOk rfl (s_var (i := 0))) s_int))))
/-! ### readings_in -/
abbrev t_readings_in : Stmt := top 26
abbrev n_readings_in : List Str := ["code", "value", "span", "words", "one", "found", "place", "bits", "longer", "word", "bit"]
def m_readings_in : Ms := (mSeq (mSet 3 (mLc [4] (gN 4) (mItems (mCall f_window_of [] (mCons (mVar 0) (mCons (mVar 1) (mCons (mVar 2) mNil))))) mYes (mBin fIx (mPrp 0 f_Code_words (mVar 0)) (mVar 4))))
  (mSeq (mSet 5 (mLst (mCons (mTup mNil) mNil)))
  (mSeq (mFor (gN 6) (mRng1 (mPrp 0 f_Code_bits (mVar 0))) (mSeq (mSet 7 (m1 fSrtSet (mLc [9] (gN 9) (mItems (mVar 3)) mYes (mBin fIx (mVar 9) (mVar 6)))))
  (mSeq (mSetO 8 (mLst mNil))
  (mSeq (mFor (gN 9) (mItems (mVar 5)) (mExt 8 (mLc [10] (gN 10) (mItems (mVar 7)) mYes (mTup (mStar (mVar 9) (mCons (mVar 10) mNil))))))
  (mFrz 8 (mSet 5 (mVar 8)))))))
  (mRet (m1 fTupO (mVar 5))))))
def f_readings_in : Fn := mkFn 3 11 m_readings_in
theorem b_readings_in {g : Gs}  (d_window_of : Def g 3 "window_of" [] f_window_of) (d_Code_words : Prp g 1 0 "words" f_Code_words) (d_Code_bits : Prp g 1 0 "bits" f_Code_bits) : ∀ (E : XK) (w0 : Wd) (H0 : Hp) (X : Cx), OkC g E 3 X → PassesOwn (model X.prog X.w) X.A X.env X.xe → Takes X (fun cls d _ H => E cls d H) → X.N = n_readings_in → X.env.scope = defScope (t_readings_in) → X.fn = (fun _ => true) → SndB g E w0 H0 X (defBody (t_readings_in)) m_readings_in := by
  intro E w0 H0 X c po tk hN hs hf
  obtain ⟨prog, w', K, mg, base, A, N, s_0, H_0, ⟨e1, e2, e3, e4, e5, e6, e7, e8, e9⟩, outer, stack, ex, fn, calm, pn, xe⟩ := X
  simp only at hN hs hf
  subst hN hs hf
  have nd : (n_readings_in).Nodup := by decide +kernel
  exact (b_cons (z_setLc (i := 3) (own := [("one", 4)]) c.toOk nd rfl rfl (sw_true rfl rfl rfl (by decide +kernel)) (i_seq c.toOk (s_call c d_window_of (by decide) (a_cons (s_var (i := 0)) (a_cons (s_var (i := 1)) (a_cons (s_var (i := 2)) a_nil))))) (by first | exact L2.blkOk_by (by decide +kernel) | exact L2.blkOk_by (by kernel_rfl)) (by decide) (fun _ _ _ _ _ => (g_name (i := 4) nd)) (fun _ _ _ _ _ => ts_nil) (fun _ _ _ _ _ => (fun (cb : OkC g E0 3 _) => (s_ix cb.toOk (s_prp cb d_Code_words (by decide) (s_var (i := 0))) (s_var (i := 4)))) (c.blk _ _ _ _ _)))
  (b_cons (z_set (i := 5) nd (f_val (f_lst (a_cons (s_tup a_nil) a_nil))))
  (b_cons (z_for c.toOk po (i_rng1 c.toOk (nbg c.toOk "range") (s_prp c d_Code_bits (by decide) (s_var (i := 0)))) (g_name (i := 6) nd) (b_cons (z_set (i := 7) nd (f_val (f_srtSet c.toOk (f_val (f_lc (own := [("word", 9)]) c.toOk nd (i_seq c.toOk (s_var (i := 3))) (by first | exact L2.blkOk_by (by decide +kernel) | exact L2.blkOk_by (by kernel_rfl)) (by decide) (fun _ _ _ _ _ => (g_name (i := 9) nd)) (fun _ _ _ _ _ => ts_nil) (fun _ _ _ _ _ => (fun (cb : OkC g E0 3 _) => (s_ix cb.toOk (s_var (i := 9)) (s_var (i := 6)))) (c.blk _ _ _ _ _)))))))
  (b_cons (z_setO (i := 8) nd (f_lst a_nil))
  (b_cons (z_for c.toOk po (i_seq c.toOk (s_var (i := 5))) (g_name (i := 9) nd) (b_one (z_ext (i := 8) (f_val (f_lc (own := [("bit", 10)]) c.toOk nd (i_seq c.toOk (s_var (i := 7))) (by first | exact L2.blkOk_by (by decide +kernel) | exact L2.blkOk_by (by kernel_rfl)) (by decide) (fun _ _ _ _ _ => (g_name (i := 10) nd)) (fun _ _ _ _ _ => ts_nil) (fun _ _ _ _ _ => (fun (cb : OkC g E0 3 _) => (s_tup (a_star cb.toOk (s_var (i := 9)) (a_cons (s_var (i := 10)) a_nil)))) (c.blk _ _ _ _ _)))))))
  (b_one (s_frz (i := 8) (z_set (i := 5) nd (s_var (i := 8)))))))))
  (b_one (z_ret (q_tuple c.toOk (s_var (i := 5))))))))
/-! ### Code.__getitem__ -/
abbrev t_CodeX_getitemX : Stmt := inClass (top 20) 6
abbrev n_CodeX_getitemX : List Str := ["self", "word"]
def m_CodeX_getitemX : Ms := (mSeq (mIf (mOrT (mNotT (mT (mCall f_are_bits [] (mCons (mVar 1) mNil)))) (mCmpT fNe (m1 fLen (mVar 1)) (m1 fLen (mBin fIx (mFld 0 0 (mVar 0)) (mC (.int 0)))))) mBad mSkip)
  (mRet (mGet (mFld 0 1 (mVar 0)) (mVar 1) (mC (.int (-1))))))
def f_CodeX_getitemX : Fn := mkFn 2 2 m_CodeX_getitemX
theorem b_CodeX_getitemX {g : Gs} (G_NO_WORD : GlobC g "NO_WORD" (.int (-1))) (d_are_bits : Def g 2 "are_bits" [] f_are_bits) : ∀ (E : XK) (w0 : Wd) (H0 : Hp) (X : Cx), OkC g E 2 X → PassesOwn (model X.prog X.w) X.A X.env X.xe → Takes X (fun cls d _ H => E cls d H) → X.N = n_CodeX_getitemX → X.env.scope = defScope (t_CodeX_getitemX) → X.fn = (fun _ => true) → SndB g E w0 H0 X (defBody (t_CodeX_getitemX)) m_CodeX_getitemX := by
  intro E w0 H0 X c po tk hN hs hf
  obtain ⟨prog, w', K, mg, base, A, N, s_0, H_0, ⟨e1, e2, e3, e4, e5, e6, e7, e8, e9⟩, outer, stack, ex, fn, calm, pn, xe⟩ := X
  simp only at hN hs hf
  subst hN hs hf
  have nd : (n_CodeX_getitemX).Nodup := by decide +kernel
  exact (b_cons (z_if (t_w (w_or (t_not (t_val c.toOk (s_call c d_are_bits (by decide) (a_cons (s_var (i := 1)) a_nil)))) (w_or1 (t_cmp (c_ne c.toOk) (q_len c.toOk (s_var (i := 1))) (q_len c.toOk (s_ix c.toOk (s_fld (c := 0) (j := 0) c.toOk rfl (s_var (i := 0))) s_int)))))) (b_one z_bad) b_nil)
  (b_one (z_ret (s_get c.toOk (s_fld (c := 0) (j := 1) c.toOk rfl (s_var (i := 0))) (s_var (i := 1)) (s_glob c.toOk G_NO_WORD)))))
/-! ### values_in -/
abbrev t_values_in : Stmt := top 34
abbrev n_values_in : List Str := ["code", "value", "span", "word"]
def m_values_in : Ms := (mRet (m1 fTupO (m1 fSrtSet (mLc [3] (gN 3) (mItems (mCall f_readings_in [] (mCons (mVar 0) (mCons (mVar 1) (mCons (mVar 2) mNil))))) mYes (mIxC 0 f_CodeX_getitemX (mVar 0) (mVar 3))))))
def f_values_in : Fn := mkFn 3 4 m_values_in
theorem b_values_in {g : Gs}  (d_readings_in : Def g 4 "readings_in" [] f_readings_in) (d_CodeX_getitemX : DunF g 3 0 "__getitem__" f_CodeX_getitemX) : ∀ (E : XK) (w0 : Wd) (H0 : Hp) (X : Cx), OkC g E 4 X → PassesOwn (model X.prog X.w) X.A X.env X.xe → Takes X (fun cls d _ H => E cls d H) → X.N = n_values_in → X.env.scope = defScope (t_values_in) → X.fn = (fun _ => true) → SndB g E w0 H0 X (defBody (t_values_in)) m_values_in := by
  intro E w0 H0 X c po tk hN hs hf
  obtain ⟨prog, w', K, mg, base, A, N, s_0, H_0, ⟨e1, e2, e3, e4, e5, e6, e7, e8, e9⟩, outer, stack, ex, fn, calm, pn, xe⟩ := X
  simp only at hN hs hf
  subst hN hs hf
  have nd : (n_values_in).Nodup := by decide +kernel
  exact (b_one (z_ret (q_tuple c.toOk (f_val (f_srtSet c.toOk (f_val (f_lc (own := [("word", 3)]) c.toOk nd (i_seq c.toOk (s_call c d_readings_in (by decide) (a_cons (s_var (i := 0)) (a_cons (s_var (i := 1)) (a_cons (s_var (i := 2)) a_nil))))) (by first | exact L2.blkOk_by (by decide +kernel) | exact L2.blkOk_by (by kernel_rfl)) (by decide) (fun _ _ _ _ _ => (g_name (i := 3) nd)) (fun _ _ _ _ _ => ts_nil) (fun _ _ _ _ _ => (fun (cb : OkC g E0 4 _) => (s_ixC cb d_CodeX_getitemX (by decide) (s_var (i := 0)) (s_var (i := 3)))) (c.blk _ _ _ _ _)))))))))
/-! ### Bridge.__init__ -/
abbrev t_BridgeX_initX : Stmt := inClass (top 35) 0
abbrev n_BridgeX_initX : List Str := ["self", "code", "depth", "ahead", "behind", "slow", "bounds", "number", "most", "value", "span"]
def m_BridgeX_initX : Ms := (mSeq (mDo (mCall f_need_code [] (mCons (mVar 1) mNil)))
  (mSeq (mSet 6 (mTup (mCons (mTup (mCons (mVar 2) (mCons (mBin fSub (m1 (fLenA 0 f_CodeX_lenX) (mVar 1)) (mC (.int 1))) mNil))) (mCons (mTup (mCons (mVar 3) (mCons (mC (.int (3))) mNil))) (mCons (mTup (mCons (mVar 4) (mCons (mC (.int (3))) mNil))) (mCons (mTup (mCons (mVar 5) (mCons (mC (.int (3))) mNil))) mNil))))))
  (mSeq (mIf (mNotT (mT (m1 fAll (mLc [7, 8] (gT (gsC (gN 7) (gsC (gN 8) gs0))) (mItems (mVar 6)) mYes (mCall f_is_between [] (mCons (mVar 7) (mCons (mC (.int 1)) (mCons (mVar 8) mNil)))))))) mBad mSkip)
  (mSeq (mFldJ 1 0 (mTup (mCons (mVar 1) (mCons (mVar 2) (mCons (mVar 3) (mCons (mVar 4) (mCons (mVar 5) mNil)))))))
  (mFldJ 1 1 (mLc [9] (gN 9) (mRng1 (m1 (fLenA 0 f_CodeX_lenX) (mVar 1))) mYes (mLc [10] (gN 10) (mRng1 (mBin fAdd (mVar 5) (mC (.int 1)))) mYes (mCall f_values_in [] (mCons (mVar 1) (mCons (mVar 9) (mCons (mVar 10) mNil)))))))))))
def f_BridgeX_initX : Fn := mkIni 1 5 11 m_BridgeX_initX
theorem b_BridgeX_initX {g : Gs} (G_MOST_LATE : GlobC g "MOST_LATE" (.int (3))) (G_MOST_SLOW : GlobC g "MOST_SLOW" (.int (3))) (d_need_code : Def g 1 "need_code" [] f_need_code) (d_CodeX_lenX : Dun g 1 0 "__len__" f_CodeX_lenX) (d_is_between : Def g 1 "is_between" [] f_is_between) (d_values_in : Def g 5 "values_in" [] f_values_in) : ∀ (E : XK) (w0 : Wd) (H0 : Hp) (X : Cx), OkC g E 5 X → PassesOwn (model X.prog X.w) X.A X.env X.xe → Takes X (fun cls d _ H => E cls d H) → X.N = n_BridgeX_initX → X.env.scope = defScope (t_BridgeX_initX) → X.fn = (fun _ => true) → SndB g E w0 H0 X (defBody (t_BridgeX_initX)) m_BridgeX_initX := by
  intro E w0 H0 X c po tk hN hs hf
  obtain ⟨prog, w', K, mg, base, A, N, s_0, H_0, ⟨e1, e2, e3, e4, e5, e6, e7, e8, e9⟩, outer, stack, ex, fn, calm, pn, xe⟩ := X
  simp only at hN hs hf
  subst hN hs hf
  have nd : (n_BridgeX_initX).Nodup := by decide +kernel
  exact (b_cons (z_expr (s_call c d_need_code (by decide) (a_cons (s_var (i := 1)) a_nil)))
  (b_cons (z_set (i := 6) nd (s_tup (a_cons (s_tup (a_cons (s_var (i := 2)) (a_cons (s_sub (s_lenA c d_CodeX_lenX (by decide) (s_var (i := 1))) s_int) a_nil))) (a_cons (s_tup (a_cons (s_var (i := 3)) (a_cons (s_glob c.toOk G_MOST_LATE) a_nil))) (a_cons (s_tup (a_cons (s_var (i := 4)) (a_cons (s_glob c.toOk G_MOST_LATE) a_nil))) (a_cons (s_tup (a_cons (s_var (i := 5)) (a_cons (s_glob c.toOk G_MOST_SLOW) a_nil))) a_nil))))))
  (b_cons (z_if (t_not (t_val c.toOk (q_all c.toOk (f_val (f_lc (own := [("number", 7), ("most", 8)]) c.toOk nd (i_seq c.toOk (s_var (i := 6))) (by first | exact L2.blkOk_by (by decide +kernel) | exact L2.blkOk_by (by kernel_rfl)) (by decide) (fun _ _ _ _ _ => (fun (cb : OkC g E0 5 _) => (g_tup cb.toOk (gs_cons (g_name (i := 7) nd) (gs_cons (g_name (i := 8) nd) gs_nil)) (n_cons (n_cons n_nil)))) (c.blk _ _ _ _ _)) (fun _ _ _ _ _ => ts_nil) (fun _ _ _ _ _ => (fun (cb : OkC g E0 5 _) => (s_call cb d_is_between (by decide) (a_cons (s_var (i := 7)) (a_cons s_int (a_cons (s_var (i := 8)) a_nil))))) (c.blk _ _ _ _ _))))))) (b_one z_bad) b_nil)
  (b_cons (z_fldSet (c := 1) (j := 0) c.toOk rfl (s_tup (a_cons (s_var (i := 1)) (a_cons (s_var (i := 2)) (a_cons (s_var (i := 3)) (a_cons (s_var (i := 4)) (a_cons (s_var (i := 5)) a_nil)))))))
  (b_one (z_fldSet (c := 1) (j := 1) c.toOk rfl (f_val (f_lc (own := [("value", 9)]) c.toOk nd (i_rng1 c.toOk (nbg c.toOk "range") (s_lenA c d_CodeX_lenX (by decide) (s_var (i := 1)))) (by first | exact L2.blkOk_by (by decide +kernel) | exact L2.blkOk_by (by kernel_rfl)) (by decide) (fun _ _ _ _ _ => (g_name (i := 9) nd)) (fun _ _ _ _ _ => ts_nil) (fun _ _ _ _ _ => (fun (cb : OkC g E0 5 _) => (f_val (f_lc (own := [("span", 10)]) cb.toOk nd (i_rng1 cb.toOk (nbg cb.toOk "range") (s_add cb.toOk (s_var (i := 5)) s_int)) (by first | exact L2.blkOk_by (by decide +kernel) | exact L2.blkOk_by (by kernel_rfl)) (by decide) (fun _ _ _ _ _ => (g_name (i := 10) nd)) (fun _ _ _ _ _ => ts_nil) (fun _ _ _ _ _ => (fun (cbb : OkC g E0 5 _) => (s_call cbb d_values_in (by decide) (a_cons (s_var (i := 1)) (a_cons (s_var (i := 9)) (a_cons (s_var (i := 10)) a_nil))))) (cb.blk _ _ _ _ _))))) (c.blk _ _ _ _ _))))))))))
/-! ### _law_built -/
abbrev t__law_built : Stmt := top 57
abbrev n__law_built : List Str := ["_law_plan"]
def m__law_built : Ms := (mRet (mMake f_BridgeX_initX (mCons (mCall f__law_coded [] (mCons (mBin fIx (mVar 0) (mC (.int 0))) mNil)) (mCons (mBin fIx (mVar 0) (mC (.int 1))) (mCons (mBin fIx (mVar 0) (mC (.int 2))) (mCons (mBin fIx (mVar 0) (mC (.int 3))) (mCons (mBin fIx (mVar 0) (mC (.int 4))) mNil)))))))
def f__law_built : Fn := mkFn 1 1 m__law_built
theorem b__law_built {g : Gs} (C_Bridge : ClsN g 1 "Bridge") (d_BridgeX_initX : Ini g 6 1 f_BridgeX_initX) (d__law_coded : Def g 7 "_law_coded" [] f__law_coded) : ∀ (E : XK) (w0 : Wd) (H0 : Hp) (X : Cx), OkC g E 7 X → PassesOwn (model X.prog X.w) X.A X.env X.xe → Takes X (fun cls d _ H => E cls d H) → X.N = n__law_built → X.env.scope = defScope (t__law_built) → X.fn = (fun _ => true) → SndB g E w0 H0 X (defBody (t__law_built)) m__law_built := by
  intro E w0 H0 X c po tk hN hs hf
  obtain ⟨prog, w', K, mg, base, A, N, s_0, H_0, ⟨e1, e2, e3, e4, e5, e6, e7, e8, e9⟩, outer, stack, ex, fn, calm, pn, xe⟩ := X
  simp only at hN hs hf
  subst hN hs hf
  have nd : (n__law_built).Nodup := by decide +kernel
  exact (b_one (z_ret (s_make c d_BridgeX_initX C_Bridge (by decide) (a_cons (s_call c d__law_coded (by decide) (a_cons (s_ix c.toOk (s_var (i := 0)) s_int) a_nil)) (a_cons (s_ix c.toOk (s_var (i := 0)) s_int) (a_cons (s_ix c.toOk (s_var (i := 0)) s_int) (a_cons (s_ix c.toOk (s_var (i := 0)) s_int) (a_cons (s_ix c.toOk (s_var (i := 0)) s_int) a_nil))))))))
/-! ### _law_same -/
abbrev t__law_same : Stmt := top 53
abbrev n__law_same : List Str := ["_law_found", "_law_due"]
def m__law_same : Ms := (mRet (mBin fEq (m1 fRepr (mVar 0)) (m1 fRepr (mVar 1))))
def f__law_same : Fn := mkFn 2 2 m__law_same
theorem b__law_same {g : Gs}  : ∀ (E : XK) (w0 : Wd) (H0 : Hp) (X : Cx), OkG g E 0 X → PassesOwn (model X.prog X.w) X.A X.env X.xe → Takes X (fun cls d _ H => E cls d H) → X.N = n__law_same → X.env.scope = defScope (t__law_same) → X.fn = (fun _ => true) → SndB g E w0 H0 X (defBody (t__law_same)) m__law_same := by
  intro E w0 H0 X cg po tk hN hs hf
  obtain ⟨prog, w', K, mg, base, A, N, s_0, H_0, ⟨e1, e2, e3, e4, e5, e6, e7, e8, e9⟩, outer, stack, ex, fn, calm, pn, xe⟩ := X
  simp only at hN hs hf
  subst hN hs hf
  have c := cg.toOkC
  have nd : (n__law_same).Nodup := by decide +kernel
  exact (b_one (z_ret (s_cmp (c_eq c.toOk) (q_repr cg (s_var (i := 0))) (q_repr cg (s_var (i := 1))))))
/-! ### _law_seen -/
abbrev t__law_seen : Stmt := top 59
abbrev n__law_seen : List Str := ["_law_ring", "_law_begin", "_law_many", "_law_rows", "_law_found", "_law_turn", "_law_place", "_law_row", "_law_longer", "_law_bits_here", "_law_word", "_law_bit"]
def m__law_seen : Ms := (mSeq (mAsg (gT (gsC (gN 3) (gsC (gN 4) gs0))) (mTup (mCons (mLc [5] (gN 5) (mRng1 (mBin fAdd (mVar 2) (mC (.int 1)))) mYes (mBin fIx (mVar 0) (mBin fMod (mBin fAdd (mVar 1) (mVar 5)) (m1 fLen (mVar 0))))) (mCons (mLst (mCons (mTup mNil) mNil)) mNil))))
  (mSeq (mFor (gN 6) (mRng1 (m1 fLen (mBin fIx (mVar 0) (mC (.int 0))))) (mSeq (mPar2F 8 9 (mLst mNil) (mLc [10] (gN 10) (mItems (mVar 3)) mYes (mBin fIx (mVar 10) (mVar 6))))
  (mSeq (mFor (gN 7) (mItems (mVar 4)) (mExt 8 (mLc [11] (gN 11) (mItems (mTup (mCons (mC (.int 0)) (mCons (mC (.int 1)) mNil)))) (mCmpT (fInD fun b => b) (mVar 11) (mVar 9)) (mBin fAdd (mVar 7) (mTup (mCons (mVar 11) mNil))))))
  (mFrz 8 (mSet 4 (mVar 8))))))
  (mRet (m1 fSrtSet (mLc [7] (gN 7) (mItems (mVar 4)) mYes (mIte (mCmpT (fInD fun b => b) (mVar 7) (mVar 0)) (mIdxT (mVar 0) (mVar 7)) (mNeg (mC (.int 1)))))))))
def f__law_seen : Fn := mkFn 3 12 m__law_seen
theorem b__law_seen {g : Gs}  : ∀ (E : XK) (w0 : Wd) (H0 : Hp) (X : Cx), OkC g E 0 X → PassesOwn (model X.prog X.w) X.A X.env X.xe → Takes X (fun cls d _ H => E cls d H) → X.N = n__law_seen → X.env.scope = defScope (t__law_seen) → X.fn = (fun _ => true) → SndB g E w0 H0 X (defBody (t__law_seen)) m__law_seen := by
  intro E w0 H0 X c po tk hN hs hf
  obtain ⟨prog, w', K, mg, base, A, N, s_0, H_0, ⟨e1, e2, e3, e4, e5, e6, e7, e8, e9⟩, outer, stack, ex, fn, calm, pn, xe⟩ := X
  simp only at hN hs hf
  subst hN hs hf
  have nd : (n__law_seen).Nodup := by decide +kernel
  exact (b_cons (z_par2 (i := 3) (j := 4) c.toOk nd (f_val (f_lc (own := [("_law_turn", 5)]) c.toOk nd (i_rng1 c.toOk (nbg c.toOk "range") (s_add c.toOk (s_var (i := 2)) s_int)) (by first | exact L2.blkOk_by (by decide +kernel) | exact L2.blkOk_by (by kernel_rfl)) (by decide) (fun _ _ _ _ _ => (g_name (i := 5) nd)) (fun _ _ _ _ _ => ts_nil) (fun _ _ _ _ _ => (fun (cb : OkC g E0 0 _) => (s_ix cb.toOk (s_var (i := 0)) (s_mod (s_add cb.toOk (s_var (i := 1)) (s_var (i := 5))) (q_len cb.toOk (s_var (i := 0)))))) (c.blk _ _ _ _ _)))) (f_val (f_lst (a_cons (s_tup a_nil) a_nil))))
  (b_cons (z_for c.toOk po (i_rng1 c.toOk (nbg c.toOk "range") (q_len c.toOk (s_ix c.toOk (s_var (i := 0)) s_int))) (g_name (i := 6) nd) (b_cons (z_par2FC (i := 8) (j := 9) c.toOk nd (f_lst a_nil) (f_val (f_lc (own := [("_law_word", 10)]) c.toOk nd (i_seq c.toOk (s_var (i := 3))) (by first | exact L2.blkOk_by (by decide +kernel) | exact L2.blkOk_by (by kernel_rfl)) (by decide) (fun _ _ _ _ _ => (g_name (i := 10) nd)) (fun _ _ _ _ _ => ts_nil) (fun _ _ _ _ _ => (fun (cb : OkC g E0 0 _) => (s_ix cb.toOk (s_var (i := 10)) (s_var (i := 6)))) (c.blk _ _ _ _ _)))))
  (b_cons (z_for c.toOk po (i_seq c.toOk (s_var (i := 4))) (g_name (i := 7) nd) (b_one (z_ext (i := 8) (f_val (f_lc (own := [("_law_bit", 11)]) c.toOk nd (i_seq c.toOk (s_tup (a_cons s_int (a_cons s_int a_nil)))) (by first | exact L2.blkOk_by (by decide +kernel) | exact L2.blkOk_by (by kernel_rfl)) (by decide) (fun _ _ _ _ _ => (g_name (i := 11) nd)) (fun _ _ _ _ _ => (fun (cb : OkC g E0 0 _) => (ts_one (t_cmp (c_inA cb.toOk) (s_var (i := 11)) (s_var (i := 9))))) (c.blk _ _ _ _ _)) (fun _ _ _ _ _ => (fun (cb : OkC g E0 0 _) => (s_add cb.toOk (s_var (i := 7)) (s_tup (a_cons (s_var (i := 11)) a_nil)))) (c.blk _ _ _ _ _)))))))
  (b_one (s_frz (i := 8) (z_set (i := 4) nd (s_var (i := 8))))))))
  (b_one (z_ret (f_val (f_srtSet c.toOk (f_val (f_lc (own := [("_law_row", 7)]) c.toOk nd (i_seq c.toOk (s_var (i := 4))) (by first | exact L2.blkOk_by (by decide +kernel) | exact L2.blkOk_by (by kernel_rfl)) (by decide) (fun _ _ _ _ _ => (g_name (i := 7) nd)) (fun _ _ _ _ _ => ts_nil) (fun _ _ _ _ _ => (fun (cb : OkC g E0 0 _) => (s_ite (t_cmp (c_inA cb.toOk) (s_var (i := 7)) (s_var (i := 0))) (s_idxT cb.toOk (s_var (i := 0)) (s_var (i := 7))) (s_neg s_int))) (c.blk _ _ _ _ _))))))))))
/-! ### are_numbers -/
abbrev t_are_numbers : Stmt := top 36
abbrev n_are_numbers : List Str := ["thing", "many", "low", "high", "one"]
def m_are_numbers : Ms := (mRet (mAnd (mIsB .tuple (mVar 0)) (mAnd (mBin fEq (m1 fLen (mVar 0)) (mVar 1)) (m1 fAll (mLc [4] (gN 4) (mItems (mVar 0)) mYes (mCall f_is_between [] (mCons (mVar 4) (mCons (mVar 2) (mCons (mVar 3) mNil)))))))))
def f_are_numbers : Fn := mkFn 4 5 m_are_numbers
theorem b_are_numbers {g : Gs}  (d_is_between : Def g 1 "is_between" [] f_is_between) : ∀ (E : XK) (w0 : Wd) (H0 : Hp) (X : Cx), OkC g E 1 X → PassesOwn (model X.prog X.w) X.A X.env X.xe → Takes X (fun cls d _ H => E cls d H) → X.N = n_are_numbers → X.env.scope = defScope (t_are_numbers) → X.fn = (fun _ => true) → SndB g E w0 H0 X (defBody (t_are_numbers)) m_are_numbers := by
  intro E w0 H0 X c po tk hN hs hf
  obtain ⟨prog, w', K, mg, base, A, N, s_0, H_0, ⟨e1, e2, e3, e4, e5, e6, e7, e8, e9⟩, outer, stack, ex, fn, calm, pn, xe⟩ := X
  simp only at hN hs hf
  subst hN hs hf
  have nd : (n_are_numbers).Nodup := by decide +kernel
  exact (b_one (z_ret (s_and c.toOk (s_isB c.toOk .tuple rfl (s_var (i := 0))) (s_and c.toOk (s_cmp (c_eq c.toOk) (q_len c.toOk (s_var (i := 0))) (s_var (i := 1))) (s_one (q_all c.toOk (f_val (f_lc (own := [("one", 4)]) c.toOk nd (i_seq c.toOk (s_var (i := 0))) (by first | exact L2.blkOk_by (by decide +kernel) | exact L2.blkOk_by (by kernel_rfl)) (by decide) (fun _ _ _ _ _ => (g_name (i := 4) nd)) (fun _ _ _ _ _ => ts_nil) (fun _ _ _ _ _ => (fun (cb : OkC g E0 1 _) => (s_call cb d_is_between (by decide) (a_cons (s_var (i := 4)) (a_cons (s_var (i := 2)) (a_cons (s_var (i := 3)) a_nil))))) (c.blk _ _ _ _ _))))))))))
/-! ### Bridge.code -/
abbrev t_Bridge_code : Stmt := inClass (top 35) 1
abbrev n_Bridge_code : List Str := ["self"]
def m_Bridge_code : Ms := (mRet (mBin fIx (mFld 1 0 (mVar 0)) (mC (.int 0))))
def f_Bridge_code : Fn := mkFn 1 1 m_Bridge_code
theorem b_Bridge_code {g : Gs}  : ∀ (E : XK) (w0 : Wd) (H0 : Hp) (X : Cx), OkC g E 0 X → PassesOwn (model X.prog X.w) X.A X.env X.xe → Takes X (fun cls d _ H => E cls d H) → X.N = n_Bridge_code → X.env.scope = defScope (t_Bridge_code) → X.fn = (fun _ => true) → SndB g E w0 H0 X (defBody (t_Bridge_code)) m_Bridge_code := by
  intro E w0 H0 X c po tk hN hs hf
  obtain ⟨prog, w', K, mg, base, A, N, s_0, H_0, ⟨e1, e2, e3, e4, e5, e6, e7, e8, e9⟩, outer, stack, ex, fn, calm, pn, xe⟩ := X
  simp only at hN hs hf
  subst hN hs hf
  have nd : (n_Bridge_code).Nodup := by decide +kernel
  exact (b_one (z_ret (s_ix c.toOk (s_fld (c := 1) (j := 0) c.toOk rfl (s_var (i := 0))) s_int)))
/-! ### Bridge.slow -/
abbrev t_Bridge_slow : Stmt := inClass (top 35) 5
abbrev n_Bridge_slow : List Str := ["self"]
def m_Bridge_slow : Ms := (mRet (mBin fIx (mFld 1 0 (mVar 0)) (mC (.int 4))))
def f_Bridge_slow : Fn := mkFn 1 1 m_Bridge_slow
theorem b_Bridge_slow {g : Gs}  : ∀ (E : XK) (w0 : Wd) (H0 : Hp) (X : Cx), OkC g E 0 X → PassesOwn (model X.prog X.w) X.A X.env X.xe → Takes X (fun cls d _ H => E cls d H) → X.N = n_Bridge_slow → X.env.scope = defScope (t_Bridge_slow) → X.fn = (fun _ => true) → SndB g E w0 H0 X (defBody (t_Bridge_slow)) m_Bridge_slow := by
  intro E w0 H0 X c po tk hN hs hf
  obtain ⟨prog, w', K, mg, base, A, N, s_0, H_0, ⟨e1, e2, e3, e4, e5, e6, e7, e8, e9⟩, outer, stack, ex, fn, calm, pn, xe⟩ := X
  simp only at hN hs hf
  subst hN hs hf
  have nd : (n_Bridge_slow).Nodup := by decide +kernel
  exact (b_one (z_ret (s_ix c.toOk (s_fld (c := 1) (j := 0) c.toOk rfl (s_var (i := 0))) s_int)))
/-! ### Bridge.ahead -/
abbrev t_Bridge_ahead : Stmt := inClass (top 35) 3
abbrev n_Bridge_ahead : List Str := ["self"]
def m_Bridge_ahead : Ms := (mRet (mBin fIx (mFld 1 0 (mVar 0)) (mC (.int 2))))
def f_Bridge_ahead : Fn := mkFn 1 1 m_Bridge_ahead
theorem b_Bridge_ahead {g : Gs}  : ∀ (E : XK) (w0 : Wd) (H0 : Hp) (X : Cx), OkC g E 0 X → PassesOwn (model X.prog X.w) X.A X.env X.xe → Takes X (fun cls d _ H => E cls d H) → X.N = n_Bridge_ahead → X.env.scope = defScope (t_Bridge_ahead) → X.fn = (fun _ => true) → SndB g E w0 H0 X (defBody (t_Bridge_ahead)) m_Bridge_ahead := by
  intro E w0 H0 X c po tk hN hs hf
  obtain ⟨prog, w', K, mg, base, A, N, s_0, H_0, ⟨e1, e2, e3, e4, e5, e6, e7, e8, e9⟩, outer, stack, ex, fn, calm, pn, xe⟩ := X
  simp only at hN hs hf
  subst hN hs hf
  have nd : (n_Bridge_ahead).Nodup := by decide +kernel
  exact (b_one (z_ret (s_ix c.toOk (s_fld (c := 1) (j := 0) c.toOk rfl (s_var (i := 0))) s_int)))
/-! ### Bridge.behind -/
abbrev t_Bridge_behind : Stmt := inClass (top 35) 4
abbrev n_Bridge_behind : List Str := ["self"]
def m_Bridge_behind : Ms := (mRet (mBin fIx (mFld 1 0 (mVar 0)) (mC (.int 3))))
def f_Bridge_behind : Fn := mkFn 1 1 m_Bridge_behind
theorem b_Bridge_behind {g : Gs}  : ∀ (E : XK) (w0 : Wd) (H0 : Hp) (X : Cx), OkC g E 0 X → PassesOwn (model X.prog X.w) X.A X.env X.xe → Takes X (fun cls d _ H => E cls d H) → X.N = n_Bridge_behind → X.env.scope = defScope (t_Bridge_behind) → X.fn = (fun _ => true) → SndB g E w0 H0 X (defBody (t_Bridge_behind)) m_Bridge_behind := by
  intro E w0 H0 X c po tk hN hs hf
  obtain ⟨prog, w', K, mg, base, A, N, s_0, H_0, ⟨e1, e2, e3, e4, e5, e6, e7, e8, e9⟩, outer, stack, ex, fn, calm, pn, xe⟩ := X
  simp only at hN hs hf
  subst hN hs hf
  have nd : (n_Bridge_behind).Nodup := by decide +kernel
  exact (b_one (z_ret (s_ix c.toOk (s_fld (c := 1) (j := 0) c.toOk rfl (s_var (i := 0))) s_int)))
/-! ### is_state_in -/
abbrev t_is_state_in : Stmt := top 37
abbrev n_is_state_in : List Str := ["bridge", "thing", "put", "taken", "looks", "glances", "puts", "takes", "last", "fresh"]
def m_is_state_in : Ms := (mSeq (mIf (mOrT (mNotT (mT (mIsB .tuple (mVar 1)))) (mCmpT fNe (m1 fLen (mVar 1)) (mC (.int 6)))) (mRet (mC (.bool false))) mSkip)
  (mSeq (mAsg (gT (gsC (gN 2) (gsC (gN 3) (gsC (gN 4) (gsC (gN 5) (gsC (gN 6) (gsC (gN 7) gs0))))))) (mVar 1))
  (mSeq (mAsg (gT (gsC (gN 8) (gsC (gN 9) gs0))) (mTup (mCons (mBin fSub (m1 (fLenA 0 f_CodeX_lenX) (mPrp 1 f_Bridge_code (mVar 0))) (mC (.int 1))) (mCons (mBin fSub (mPrp 1 f_Bridge_slow (mVar 0)) (mC (.int 1))) mNil))))
  (mSeq (mIf (mOrT (mNotT (mT (mCall f_is_between [] (mCons (mVar 2) (mCons (mC (.int 0)) (mCons (mVar 8) mNil)))))) (mNotT (mT (mCall f_is_between [] (mCons (mVar 3) (mCons (mC (.int 0)) (mCons (mVar 8) mNil))))))) (mRet (mC (.bool false))) mSkip)
  (mSeq (mIf (mOrT (mNotT (mT (mCall f_are_numbers [] (mCons (mVar 4) (mCons (mPrp 1 f_Bridge_ahead (mVar 0)) (mCons (mC (.int (-1))) (mCons (mVar 8) mNil))))))) (mNotT (mT (mCall f_are_numbers [] (mCons (mVar 5) (mCons (mPrp 1 f_Bridge_behind (mVar 0)) (mCons (mC (.int (-1))) (mCons (mVar 8) mNil)))))))) (mRet (mC (.bool false))) mSkip)
  (mRet (mAnd (mCall f_are_numbers [] (mCons (mVar 6) (mCons (mVar 9) (mCons (mC (.int 0)) (mCons (mC (.int 1)) mNil))))) (mCall f_are_numbers [] (mCons (mVar 7) (mCons (mVar 9) (mCons (mC (.int 0)) (mCons (mC (.int 1)) mNil))))))))))))
def f_is_state_in : Fn := mkFn 2 10 m_is_state_in
theorem b_is_state_in {g : Gs} (G_NO_WORD : GlobC g "NO_WORD" (.int (-1))) (d_Bridge_code : Prp g 1 1 "code" f_Bridge_code) (d_CodeX_lenX : Dun g 1 0 "__len__" f_CodeX_lenX) (d_Bridge_slow : Prp g 1 1 "slow" f_Bridge_slow) (d_is_between : Def g 1 "is_between" [] f_is_between) (d_are_numbers : Def g 2 "are_numbers" [] f_are_numbers) (d_Bridge_ahead : Prp g 1 1 "ahead" f_Bridge_ahead) (d_Bridge_behind : Prp g 1 1 "behind" f_Bridge_behind) : ∀ (E : XK) (w0 : Wd) (H0 : Hp) (X : Cx), OkC g E 2 X → PassesOwn (model X.prog X.w) X.A X.env X.xe → Takes X (fun cls d _ H => E cls d H) → X.N = n_is_state_in → X.env.scope = defScope (t_is_state_in) → X.fn = (fun _ => true) → SndB g E w0 H0 X (defBody (t_is_state_in)) m_is_state_in := by
  intro E w0 H0 X c po tk hN hs hf
  obtain ⟨prog, w', K, mg, base, A, N, s_0, H_0, ⟨e1, e2, e3, e4, e5, e6, e7, e8, e9⟩, outer, stack, ex, fn, calm, pn, xe⟩ := X
  simp only at hN hs hf
  subst hN hs hf
  have nd : (n_is_state_in).Nodup := by decide +kernel
  exact (b_cons (z_if (t_w (w_or (t_not (t_val c.toOk (s_isB c.toOk .tuple rfl (s_var (i := 1))))) (w_or1 (t_cmp (c_ne c.toOk) (q_len c.toOk (s_var (i := 1))) s_int)))) (b_one (z_ret s_bool)) b_nil)
  (b_cons (z_asg (s_var (i := 1)) (g_tup c.toOk (gs_cons (g_name (i := 2) nd) (gs_cons (g_name (i := 3) nd) (gs_cons (g_name (i := 4) nd) (gs_cons (g_name (i := 5) nd) (gs_cons (g_name (i := 6) nd) (gs_cons (g_name (i := 7) nd) gs_nil)))))) (n_cons (n_cons (n_cons (n_cons (n_cons (n_cons n_nil))))))))
  (b_cons (z_par2 (i := 8) (j := 9) c.toOk nd (s_sub (s_lenA c d_CodeX_lenX (by decide) (s_prp c d_Bridge_code (by decide) (s_var (i := 0)))) s_int) (s_sub (s_prp c d_Bridge_slow (by decide) (s_var (i := 0))) s_int))
  (b_cons (z_if (t_w (w_or (t_not (t_val c.toOk (s_call c d_is_between (by decide) (a_cons (s_var (i := 2)) (a_cons s_int (a_cons (s_var (i := 8)) a_nil)))))) (w_or1 (t_not (t_val c.toOk (s_call c d_is_between (by decide) (a_cons (s_var (i := 3)) (a_cons s_int (a_cons (s_var (i := 8)) a_nil))))))))) (b_one (z_ret s_bool)) b_nil)
  (b_cons (z_if (t_w (w_or (t_not (t_val c.toOk (s_call c d_are_numbers (by decide) (a_cons (s_var (i := 4)) (a_cons (s_prp c d_Bridge_ahead (by decide) (s_var (i := 0))) (a_cons (s_glob c.toOk G_NO_WORD) (a_cons (s_var (i := 8)) a_nil))))))) (w_or1 (t_not (t_val c.toOk (s_call c d_are_numbers (by decide) (a_cons (s_var (i := 5)) (a_cons (s_prp c d_Bridge_behind (by decide) (s_var (i := 0))) (a_cons (s_glob c.toOk G_NO_WORD) (a_cons (s_var (i := 8)) a_nil)))))))))) (b_one (z_ret s_bool)) b_nil)
  (b_one (z_ret (s_and c.toOk (s_call c d_are_numbers (by decide) (a_cons (s_var (i := 6)) (a_cons (s_var (i := 9)) (a_cons s_int (a_cons s_int a_nil))))) (s_one (s_call c d_are_numbers (by decide) (a_cons (s_var (i := 7)) (a_cons (s_var (i := 9)) (a_cons s_int (a_cons s_int a_nil))))))))))))))
/-! ### need_state -/
abbrev t_need_state : Stmt := top 38
abbrev n_need_state : List Str := ["bridge", "thing"]
def m_need_state : Ms := (mIf (mNotT (mT (mCall f_is_state_in [] (mCons (mVar 0) (mCons (mVar 1) mNil))))) mBad mSkip)
def f_need_state : Fn := mkFn 2 2 m_need_state
theorem b_need_state {g : Gs}  (d_is_state_in : Def g 3 "is_state_in" [] f_is_state_in) : ∀ (E : XK) (w0 : Wd) (H0 : Hp) (X : Cx), OkC g E 3 X → PassesOwn (model X.prog X.w) X.A X.env X.xe → Takes X (fun cls d _ H => E cls d H) → X.N = n_need_state → X.env.scope = defScope (t_need_state) → X.fn = (fun _ => true) → SndB g E w0 H0 X (defBody (t_need_state)) m_need_state := by
  intro E w0 H0 X c po tk hN hs hf
  obtain ⟨prog, w', K, mg, base, A, N, s_0, H_0, ⟨e1, e2, e3, e4, e5, e6, e7, e8, e9⟩, outer, stack, ex, fn, calm, pn, xe⟩ := X
  simp only at hN hs hf
  subst hN hs hf
  have nd : (n_need_state).Nodup := by decide +kernel
  exact (b_one (z_if (t_not (t_val c.toOk (s_call c d_is_state_in (by decide) (a_cons (s_var (i := 0)) (a_cons (s_var (i := 1)) a_nil))))) (b_one z_bad) b_nil))
/-! ### is_beat -/
abbrev t_is_beat : Stmt := top 39
abbrev n_is_beat : List Str := ["thing"]
def m_is_beat : Ms := (mRet (mAnd (mCall f_are_numbers [] (mCons (mVar 0) (mCons (mC (.int 2)) (mCons (mC (.int (0))) (mCons (mC (.int (2))) mNil))))) (mBin fNe (mVar 0) (mTup (mCons (mC (.int (0))) (mCons (mC (.int (0))) mNil))))))
def f_is_beat : Fn := mkFn 1 1 m_is_beat
theorem b_is_beat {g : Gs} (G_NO_BEAT : GlobC g "NO_BEAT" (.int (0))) (G_WISH : GlobC g "WISH" (.int (2))) (d_are_numbers : Def g 2 "are_numbers" [] f_are_numbers) : ∀ (E : XK) (w0 : Wd) (H0 : Hp) (X : Cx), OkC g E 2 X → PassesOwn (model X.prog X.w) X.A X.env X.xe → Takes X (fun cls d _ H => E cls d H) → X.N = n_is_beat → X.env.scope = defScope (t_is_beat) → X.fn = (fun _ => true) → SndB g E w0 H0 X (defBody (t_is_beat)) m_is_beat := by
  intro E w0 H0 X c po tk hN hs hf
  obtain ⟨prog, w', K, mg, base, A, N, s_0, H_0, ⟨e1, e2, e3, e4, e5, e6, e7, e8, e9⟩, outer, stack, ex, fn, calm, pn, xe⟩ := X
  simp only at hN hs hf
  subst hN hs hf
  have nd : (n_is_beat).Nodup := by decide +kernel
  exact (b_one (z_ret (s_and c.toOk (s_call c d_are_numbers (by decide) (a_cons (s_var (i := 0)) (a_cons s_int (a_cons (s_glob c.toOk G_NO_BEAT) (a_cons (s_glob c.toOk G_WISH) a_nil))))) (s_one (s_cmp (c_ne c.toOk) (s_var (i := 0)) (s_tup (a_cons (s_glob c.toOk G_NO_BEAT) (a_cons (s_glob c.toOk G_NO_BEAT) a_nil))))))))
/-! ### need_beat -/
abbrev t_need_beat : Stmt := top 40
abbrev n_need_beat : List Str := ["thing"]
def m_need_beat : Ms := (mIf (mNotT (mT (mCall f_is_beat [] (mCons (mVar 0) mNil)))) mBad mSkip)
def f_need_beat : Fn := mkFn 1 1 m_need_beat
theorem b_need_beat {g : Gs}  (d_is_beat : Def g 3 "is_beat" [] f_is_beat) : ∀ (E : XK) (w0 : Wd) (H0 : Hp) (X : Cx), OkC g E 3 X → PassesOwn (model X.prog X.w) X.A X.env X.xe → Takes X (fun cls d _ H => E cls d H) → X.N = n_need_beat → X.env.scope = defScope (t_need_beat) → X.fn = (fun _ => true) → SndB g E w0 H0 X (defBody (t_need_beat)) m_need_beat := by
  intro E w0 H0 X c po tk hN hs hf
  obtain ⟨prog, w', K, mg, base, A, N, s_0, H_0, ⟨e1, e2, e3, e4, e5, e6, e7, e8, e9⟩, outer, stack, ex, fn, calm, pn, xe⟩ := X
  simp only at hN hs hf
  subst hN hs hf
  have nd : (n_need_beat).Nodup := by decide +kernel
  exact (b_one (z_if (t_not (t_val c.toOk (s_call c d_is_beat (by decide) (a_cons (s_var (i := 0)) a_nil)))) (b_one z_bad) b_nil))
/-! ### Bridge.depth -/
abbrev t_Bridge_depth : Stmt := inClass (top 35) 2
abbrev n_Bridge_depth : List Str := ["self"]
def m_Bridge_depth : Ms := (mRet (mBin fIx (mFld 1 0 (mVar 0)) (mC (.int 1))))
def f_Bridge_depth : Fn := mkFn 1 1 m_Bridge_depth
theorem b_Bridge_depth {g : Gs}  : ∀ (E : XK) (w0 : Wd) (H0 : Hp) (X : Cx), OkC g E 0 X → PassesOwn (model X.prog X.w) X.A X.env X.xe → Takes X (fun cls d _ H => E cls d H) → X.N = n_Bridge_depth → X.env.scope = defScope (t_Bridge_depth) → X.fn = (fun _ => true) → SndB g E w0 H0 X (defBody (t_Bridge_depth)) m_Bridge_depth := by
  intro E w0 H0 X c po tk hN hs hf
  obtain ⟨prog, w', K, mg, base, A, N, s_0, H_0, ⟨e1, e2, e3, e4, e5, e6, e7, e8, e9⟩, outer, stack, ex, fn, calm, pn, xe⟩ := X
  simp only at hN hs hf
  subst hN hs hf
  have nd : (n_Bridge_depth).Nodup := by decide +kernel
  exact (b_one (z_ret (s_ix c.toOk (s_fld (c := 1) (j := 0) c.toOk rfl (s_var (i := 0))) s_int)))
/-! ### puts_in -/
abbrev t_puts_in : Stmt := top 41
abbrev n_puts_in : List Str := ["bridge", "state", "beat", "look"]
def m_puts_in : Ms := (mSeq (mSet 3 (mBin fIx (mBin fIx (mVar 1) (mC (.int 2))) (mNeg (mC (.int 1)))))
  (mRet (mAnd (mBin fEq (mBin fIx (mVar 2) (mC (.int 0))) (mC (.int (2)))) (mAnd (mBin fNe (mVar 3) (mC (.int (-1)))) (mBin fLt (mBin fMod (mBin fSub (mBin fIx (mVar 1) (mC (.int 0))) (mVar 3)) (m1 (fLenA 0 f_CodeX_lenX) (mPrp 1 f_Bridge_code (mVar 0)))) (mPrp 1 f_Bridge_depth (mVar 0)))))))
def f_puts_in : Fn := mkFn 3 4 m_puts_in
theorem b_puts_in {g : Gs} (G_WISH : GlobC g "WISH" (.int (2))) (G_NO_WORD : GlobC g "NO_WORD" (.int (-1))) (d_Bridge_code : Prp g 1 1 "code" f_Bridge_code) (d_CodeX_lenX : Dun g 1 0 "__len__" f_CodeX_lenX) (d_Bridge_depth : Prp g 1 1 "depth" f_Bridge_depth) : ∀ (E : XK) (w0 : Wd) (H0 : Hp) (X : Cx), OkC g E 2 X → PassesOwn (model X.prog X.w) X.A X.env X.xe → Takes X (fun cls d _ H => E cls d H) → X.N = n_puts_in → X.env.scope = defScope (t_puts_in) → X.fn = (fun _ => true) → SndB g E w0 H0 X (defBody (t_puts_in)) m_puts_in := by
  intro E w0 H0 X c po tk hN hs hf
  obtain ⟨prog, w', K, mg, base, A, N, s_0, H_0, ⟨e1, e2, e3, e4, e5, e6, e7, e8, e9⟩, outer, stack, ex, fn, calm, pn, xe⟩ := X
  simp only at hN hs hf
  subst hN hs hf
  have nd : (n_puts_in).Nodup := by decide +kernel
  exact (b_cons (z_set (i := 3) nd (s_ix c.toOk (s_ix c.toOk (s_var (i := 1)) s_int) (s_neg s_int)))
  (b_one (z_ret (s_and c.toOk (s_cmp (c_eq c.toOk) (s_ix c.toOk (s_var (i := 2)) s_int) (s_glob c.toOk G_WISH)) (s_and c.toOk (s_cmp (c_ne c.toOk) (s_var (i := 3)) (s_glob c.toOk G_NO_WORD)) (s_one (s_cmp c_lt (s_mod (s_sub (s_ix c.toOk (s_var (i := 1)) s_int) (s_var (i := 3))) (s_lenA c d_CodeX_lenX (by decide) (s_prp c d_Bridge_code (by decide) (s_var (i := 0))))) (s_prp c d_Bridge_depth (by decide) (s_var (i := 0))))))))))
/-! ### takes_in -/
abbrev t_takes_in : Stmt := top 42
abbrev n_takes_in : List Str := ["bridge", "state", "beat", "glance"]
def m_takes_in : Ms := (mSeq (mSet 3 (mBin fIx (mBin fIx (mVar 1) (mC (.int 3))) (mNeg (mC (.int 1)))))
  (mRet (mAnd (mBin fEq (mBin fIx (mVar 2) (mC (.int 1))) (mC (.int (2)))) (mAnd (mBin fNe (mVar 3) (mC (.int (-1)))) (mChain fLe fLe (mC (.int 1)) (mBin fMod (mBin fSub (mVar 3) (mBin fIx (mVar 1) (mC (.int 1)))) (m1 (fLenA 0 f_CodeX_lenX) (mPrp 1 f_Bridge_code (mVar 0)))) (mPrp 1 f_Bridge_depth (mVar 0)))))))
def f_takes_in : Fn := mkFn 3 4 m_takes_in
theorem b_takes_in {g : Gs} (G_WISH : GlobC g "WISH" (.int (2))) (G_NO_WORD : GlobC g "NO_WORD" (.int (-1))) (d_Bridge_code : Prp g 1 1 "code" f_Bridge_code) (d_CodeX_lenX : Dun g 1 0 "__len__" f_CodeX_lenX) (d_Bridge_depth : Prp g 1 1 "depth" f_Bridge_depth) : ∀ (E : XK) (w0 : Wd) (H0 : Hp) (X : Cx), OkC g E 2 X → PassesOwn (model X.prog X.w) X.A X.env X.xe → Takes X (fun cls d _ H => E cls d H) → X.N = n_takes_in → X.env.scope = defScope (t_takes_in) → X.fn = (fun _ => true) → SndB g E w0 H0 X (defBody (t_takes_in)) m_takes_in := by
  intro E w0 H0 X c po tk hN hs hf
  obtain ⟨prog, w', K, mg, base, A, N, s_0, H_0, ⟨e1, e2, e3, e4, e5, e6, e7, e8, e9⟩, outer, stack, ex, fn, calm, pn, xe⟩ := X
  simp only at hN hs hf
  subst hN hs hf
  have nd : (n_takes_in).Nodup := by decide +kernel
  exact (b_cons (z_set (i := 3) nd (s_ix c.toOk (s_ix c.toOk (s_var (i := 1)) s_int) (s_neg s_int)))
  (b_one (z_ret (s_and c.toOk (s_cmp (c_eq c.toOk) (s_ix c.toOk (s_var (i := 2)) s_int) (s_glob c.toOk G_WISH)) (s_and c.toOk (s_cmp (c_ne c.toOk) (s_var (i := 3)) (s_glob c.toOk G_NO_WORD)) (s_one (s_chain c_le c_le s_int (s_mod (s_sub (s_var (i := 3)) (s_ix c.toOk (s_var (i := 1)) s_int)) (s_lenA c d_CodeX_lenX (by decide) (s_prp c d_Bridge_code (by decide) (s_var (i := 0))))) (s_prp c d_Bridge_depth (by decide) (s_var (i := 0))))))))))
/-! ### moves_in -/
abbrev t_moves_in : Stmt := top 43
abbrev n_moves_in : List Str := ["bridge", "state", "beat", "puts", "takes"]
def m_moves_in : Ms := (mSeq (mAsg (gT (gsC (gN 3) (gsC (gN 4) gs0))) (mTup (mCons (mCall f_puts_in [] (mCons (mVar 0) (mCons (mVar 1) (mCons (mVar 2) mNil)))) (mCons (mCall f_takes_in [] (mCons (mVar 0) (mCons (mVar 1) (mCons (mVar 2) mNil)))) mNil))))
  (mSeq (mIf (mAndT (mT (mVar 3)) (mCmpT fGe (mBin fMod (mBin fSub (mBin fIx (mVar 1) (mC (.int 0))) (mBin fIx (mVar 1) (mC (.int 1)))) (m1 (fLenA 0 f_CodeX_lenX) (mPrp 1 f_Bridge_code (mVar 0)))) (mPrp 1 f_Bridge_depth (mVar 0)))) (mRet (mC (.str (Str.ofString "full")))) mSkip)
  (mRet (mIte (mAndT (mT (mVar 4)) (mCmpT fEq (mBin fIx (mVar 1) (mC (.int 0))) (mBin fIx (mVar 1) (mC (.int 1))))) (mC (.str (Str.ofString "empty"))) (mTup (mCons (mVar 3) (mCons (mVar 4) mNil)))))))
def f_moves_in : Fn := mkFn 3 5 m_moves_in
theorem b_moves_in {g : Gs} (G_FULL : GlobC g "FULL" (.str (Str.ofString "full"))) (G_EMPTY : GlobC g "EMPTY" (.str (Str.ofString "empty"))) (d_puts_in : Def g 3 "puts_in" [] f_puts_in) (d_takes_in : Def g 3 "takes_in" [] f_takes_in) (d_Bridge_code : Prp g 1 1 "code" f_Bridge_code) (d_CodeX_lenX : Dun g 1 0 "__len__" f_CodeX_lenX) (d_Bridge_depth : Prp g 1 1 "depth" f_Bridge_depth) : ∀ (E : XK) (w0 : Wd) (H0 : Hp) (X : Cx), OkC g E 3 X → PassesOwn (model X.prog X.w) X.A X.env X.xe → Takes X (fun cls d _ H => E cls d H) → X.N = n_moves_in → X.env.scope = defScope (t_moves_in) → X.fn = (fun _ => true) → SndB g E w0 H0 X (defBody (t_moves_in)) m_moves_in := by
  intro E w0 H0 X c po tk hN hs hf
  obtain ⟨prog, w', K, mg, base, A, N, s_0, H_0, ⟨e1, e2, e3, e4, e5, e6, e7, e8, e9⟩, outer, stack, ex, fn, calm, pn, xe⟩ := X
  simp only at hN hs hf
  subst hN hs hf
  have nd : (n_moves_in).Nodup := by decide +kernel
  exact (b_cons (z_par2 (i := 3) (j := 4) c.toOk nd (s_call c d_puts_in (by decide) (a_cons (s_var (i := 0)) (a_cons (s_var (i := 1)) (a_cons (s_var (i := 2)) a_nil)))) (s_call c d_takes_in (by decide) (a_cons (s_var (i := 0)) (a_cons (s_var (i := 1)) (a_cons (s_var (i := 2)) a_nil)))))
  (b_cons (z_if (t_w (w_and (t_val c.toOk (s_var (i := 3))) (w_and1 (t_cmp c_ge (s_mod (s_sub (s_ix c.toOk (s_var (i := 1)) s_int) (s_ix c.toOk (s_var (i := 1)) s_int)) (s_lenA c d_CodeX_lenX (by decide) (s_prp c d_Bridge_code (by decide) (s_var (i := 0))))) (s_prp c d_Bridge_depth (by decide) (s_var (i := 0))))))) (b_one (z_ret (s_glob c.toOk G_FULL))) b_nil)
  (b_one (z_ret (s_ite (t_w (w_and (t_val c.toOk (s_var (i := 4))) (w_and1 (t_cmp (c_eq c.toOk) (s_ix c.toOk (s_var (i := 1)) s_int) (s_ix c.toOk (s_var (i := 1)) s_int))))) (s_glob c.toOk G_EMPTY) (s_tup (a_cons (s_var (i := 3)) (a_cons (s_var (i := 4)) a_nil))))))))
/-! ### read_of -/
abbrev t_read_of : Stmt := top 44
abbrev n_read_of : List Str := ["bridge", "value", "steps"]
def m_read_of : Ms := (mRet (mBin fIx (mBin fIx (mFld 1 1 (mVar 0)) (mBin fMod (mBin fSub (mVar 1) (mVar 2)) (m1 (fLenA 0 f_CodeX_lenX) (mPrp 1 f_Bridge_code (mVar 0))))) (mVar 2)))
def f_read_of : Fn := mkFn 3 3 m_read_of
theorem b_read_of {g : Gs}  (d_Bridge_code : Prp g 1 1 "code" f_Bridge_code) (d_CodeX_lenX : Dun g 1 0 "__len__" f_CodeX_lenX) : ∀ (E : XK) (w0 : Wd) (H0 : Hp) (X : Cx), OkC g E 2 X → PassesOwn (model X.prog X.w) X.A X.env X.xe → Takes X (fun cls d _ H => E cls d H) → X.N = n_read_of → X.env.scope = defScope (t_read_of) → X.fn = (fun _ => true) → SndB g E w0 H0 X (defBody (t_read_of)) m_read_of := by
  intro E w0 H0 X c po tk hN hs hf
  obtain ⟨prog, w', K, mg, base, A, N, s_0, H_0, ⟨e1, e2, e3, e4, e5, e6, e7, e8, e9⟩, outer, stack, ex, fn, calm, pn, xe⟩ := X
  simp only at hN hs hf
  subst hN hs hf
  have nd : (n_read_of).Nodup := by decide +kernel
  exact (b_one (z_ret (s_ix c.toOk (s_ix c.toOk (s_fld (c := 1) (j := 1) c.toOk rfl (s_var (i := 0))) (s_mod (s_sub (s_var (i := 1)) (s_var (i := 2))) (s_lenA c d_CodeX_lenX (by decide) (s_prp c d_Bridge_code (by decide) (s_var (i := 0)))))) (s_var (i := 2)))))
/-! ### looks_in -/
abbrev t_looks_in : Stmt := top 45
abbrev n_looks_in : List Str := ["bridge", "state", "beat", "moves", "takes"]
def m_looks_in : Ms := (mSeq (mSet 4 (m1 fInt (mBin fIx (mVar 3) (mC (.int 1)))))
  (mRet (mIte (mCmpT fEq (mBin fIx (mVar 2) (mC (.int 0))) (mC (.int (0)))) (mTup mNil) (mCall f_read_of [] (mCons (mVar 0) (mCons (mBin fAdd (mBin fIx (mVar 1) (mC (.int 1))) (mVar 4)) (mCons (mBin fAdd (mVar 4) (m1 fSumT (mBin fIx (mVar 1) (mC (.int 5))))) mNil)))))))
def f_looks_in : Fn := mkFn 4 5 m_looks_in
theorem b_looks_in {g : Gs} (G_NO_BEAT : GlobC g "NO_BEAT" (.int (0))) (d_read_of : Def g 3 "read_of" [] f_read_of) : ∀ (E : XK) (w0 : Wd) (H0 : Hp) (X : Cx), OkC g E 3 X → PassesOwn (model X.prog X.w) X.A X.env X.xe → Takes X (fun cls d _ H => E cls d H) → X.N = n_looks_in → X.env.scope = defScope (t_looks_in) → X.fn = (fun _ => true) → SndB g E w0 H0 X (defBody (t_looks_in)) m_looks_in := by
  intro E w0 H0 X c po tk hN hs hf
  obtain ⟨prog, w', K, mg, base, A, N, s_0, H_0, ⟨e1, e2, e3, e4, e5, e6, e7, e8, e9⟩, outer, stack, ex, fn, calm, pn, xe⟩ := X
  simp only at hN hs hf
  subst hN hs hf
  have nd : (n_looks_in).Nodup := by decide +kernel
  exact (b_cons (z_set (i := 4) nd (q_int c.toOk (s_ix c.toOk (s_var (i := 3)) s_int)))
  (b_one (z_ret (s_ite (t_cmp (c_eq c.toOk) (s_ix c.toOk (s_var (i := 2)) s_int) (s_glob c.toOk G_NO_BEAT)) (s_tup a_nil) (s_call c d_read_of (by decide) (a_cons (s_var (i := 0)) (a_cons (s_add c.toOk (s_ix c.toOk (s_var (i := 1)) s_int) (s_var (i := 4))) (a_cons (s_add c.toOk (s_var (i := 4)) (q_sumT c.toOk (s_ix c.toOk (s_var (i := 1)) s_int))) a_nil))))))))
/-! ### glances_in -/
abbrev t_glances_in : Stmt := top 46
abbrev n_glances_in : List Str := ["bridge", "state", "beat", "moves", "puts"]
def m_glances_in : Ms := (mSeq (mSet 4 (m1 fInt (mBin fIx (mVar 3) (mC (.int 0)))))
  (mRet (mIte (mCmpT fEq (mBin fIx (mVar 2) (mC (.int 1))) (mC (.int (0)))) (mTup mNil) (mCall f_read_of [] (mCons (mVar 0) (mCons (mBin fAdd (mBin fIx (mVar 1) (mC (.int 0))) (mVar 4)) (mCons (mBin fAdd (mVar 4) (m1 fSumT (mBin fIx (mVar 1) (mC (.int 4))))) mNil)))))))
def f_glances_in : Fn := mkFn 4 5 m_glances_in
theorem b_glances_in {g : Gs} (G_NO_BEAT : GlobC g "NO_BEAT" (.int (0))) (d_read_of : Def g 3 "read_of" [] f_read_of) : ∀ (E : XK) (w0 : Wd) (H0 : Hp) (X : Cx), OkC g E 3 X → PassesOwn (model X.prog X.w) X.A X.env X.xe → Takes X (fun cls d _ H => E cls d H) → X.N = n_glances_in → X.env.scope = defScope (t_glances_in) → X.fn = (fun _ => true) → SndB g E w0 H0 X (defBody (t_glances_in)) m_glances_in := by
  intro E w0 H0 X c po tk hN hs hf
  obtain ⟨prog, w', K, mg, base, A, N, s_0, H_0, ⟨e1, e2, e3, e4, e5, e6, e7, e8, e9⟩, outer, stack, ex, fn, calm, pn, xe⟩ := X
  simp only at hN hs hf
  subst hN hs hf
  have nd : (n_glances_in).Nodup := by decide +kernel
  exact (b_cons (z_set (i := 4) nd (q_int c.toOk (s_ix c.toOk (s_var (i := 3)) s_int)))
  (b_one (z_ret (s_ite (t_cmp (c_eq c.toOk) (s_ix c.toOk (s_var (i := 2)) s_int) (s_glob c.toOk G_NO_BEAT)) (s_tup a_nil) (s_call c d_read_of (by decide) (a_cons (s_var (i := 0)) (a_cons (s_add c.toOk (s_ix c.toOk (s_var (i := 1)) s_int) (s_var (i := 4))) (a_cons (s_add c.toOk (s_var (i := 4)) (q_sumT c.toOk (s_ix c.toOk (s_var (i := 1)) s_int))) a_nil))))))))
/-! ### behind_in -/
abbrev t_behind_in : Stmt := top 47
abbrev n_behind_in : List Str := ["bridge", "state", "beat", "moves", "look", "glance", "puts", "takes", "fresh", "put", "taken", "looks", "glances"]
def m_behind_in : Ms := (mSeq (mAsg (gT (gsC (gN 6) (gsC (gN 7) (gsC (gN 8) gs0)))) (mTup (mCons (m1 fInt (mBin fIx (mVar 3) (mC (.int 0)))) (mCons (m1 fInt (mBin fIx (mVar 3) (mC (.int 1)))) (mCons (mBin fSub (mPrp 1 f_Bridge_slow (mVar 0)) (mC (.int 1))) mNil)))))
  (mSeq (mAsg (gT (gsC (gN 9) (gsC (gN 10) gs0))) (mTup (mCons (mBin fMod (mBin fAdd (mBin fIx (mVar 1) (mC (.int 0))) (mVar 6)) (m1 (fLenA 0 f_CodeX_lenX) (mPrp 1 f_Bridge_code (mVar 0)))) (mCons (mBin fMod (mBin fAdd (mBin fIx (mVar 1) (mC (.int 1))) (mVar 7)) (m1 (fLenA 0 f_CodeX_lenX) (mPrp 1 f_Bridge_code (mVar 0)))) mNil))))
  (mSeq (mSet 11 (mIte (mCmpT fEq (mBin fIx (mVar 2) (mC (.int 0))) (mC (.int (0)))) (mBin fIx (mVar 1) (mC (.int 2))) (mTup (mCons (mVar 4) (mStar (mSl01 (mBin fIx (mVar 1) (mC (.int 2))) (mNeg (mC (.int 1)))) mNil)))))
  (mSeq (mSet 12 (mIte (mCmpT fEq (mBin fIx (mVar 2) (mC (.int 1))) (mC (.int (0)))) (mBin fIx (mVar 1) (mC (.int 3))) (mTup (mCons (mVar 5) (mStar (mSl01 (mBin fIx (mVar 1) (mC (.int 3))) (mNeg (mC (.int 1)))) mNil)))))
  (mRet (mTup (mCons (mVar 9) (mCons (mVar 10) (mCons (mVar 11) (mCons (mVar 12) (mCons (mSl01 (mTup (mCons (mVar 6) (mStar (mBin fIx (mVar 1) (mC (.int 4))) mNil))) (mVar 8)) (mCons (mSl01 (mTup (mCons (mVar 7) (mStar (mBin fIx (mVar 1) (mC (.int 5))) mNil))) (mVar 8)) mNil))))))))))))
def f_behind_in : Fn := mkFn 6 13 m_behind_in
theorem b_behind_in {g : Gs} (G_NO_BEAT : GlobC g "NO_BEAT" (.int (0))) (d_Bridge_slow : Prp g 1 1 "slow" f_Bridge_slow) (d_Bridge_code : Prp g 1 1 "code" f_Bridge_code) (d_CodeX_lenX : Dun g 1 0 "__len__" f_CodeX_lenX) : ∀ (E : XK) (w0 : Wd) (H0 : Hp) (X : Cx), OkC g E 2 X → PassesOwn (model X.prog X.w) X.A X.env X.xe → Takes X (fun cls d _ H => E cls d H) → X.N = n_behind_in → X.env.scope = defScope (t_behind_in) → X.fn = (fun _ => true) → SndB g E w0 H0 X (defBody (t_behind_in)) m_behind_in := by
  intro E w0 H0 X c po tk hN hs hf
  obtain ⟨prog, w', K, mg, base, A, N, s_0, H_0, ⟨e1, e2, e3, e4, e5, e6, e7, e8, e9⟩, outer, stack, ex, fn, calm, pn, xe⟩ := X
  simp only at hN hs hf
  subst hN hs hf
  have nd : (n_behind_in).Nodup := by decide +kernel
  exact (b_cons (z_par3 (i := 6) (j := 7) (l := 8) c.toOk nd (q_int c.toOk (s_ix c.toOk (s_var (i := 3)) s_int)) (q_int c.toOk (s_ix c.toOk (s_var (i := 3)) s_int)) (s_sub (s_prp c d_Bridge_slow (by decide) (s_var (i := 0))) s_int))
  (b_cons (z_par2 (i := 9) (j := 10) c.toOk nd (s_mod (s_add c.toOk (s_ix c.toOk (s_var (i := 1)) s_int) (s_var (i := 6))) (s_lenA c d_CodeX_lenX (by decide) (s_prp c d_Bridge_code (by decide) (s_var (i := 0))))) (s_mod (s_add c.toOk (s_ix c.toOk (s_var (i := 1)) s_int) (s_var (i := 7))) (s_lenA c d_CodeX_lenX (by decide) (s_prp c d_Bridge_code (by decide) (s_var (i := 0))))))
  (b_cons (z_set (i := 11) nd (s_ite (t_cmp (c_eq c.toOk) (s_ix c.toOk (s_var (i := 2)) s_int) (s_glob c.toOk G_NO_BEAT)) (s_ix c.toOk (s_var (i := 1)) s_int) (s_tup (a_cons (s_var (i := 4)) (a_star c.toOk (s_sl01 c.toOk (s_ix c.toOk (s_var (i := 1)) s_int) (s_neg s_int)) a_nil)))))
  (b_cons (z_set (i := 12) nd (s_ite (t_cmp (c_eq c.toOk) (s_ix c.toOk (s_var (i := 2)) s_int) (s_glob c.toOk G_NO_BEAT)) (s_ix c.toOk (s_var (i := 1)) s_int) (s_tup (a_cons (s_var (i := 5)) (a_star c.toOk (s_sl01 c.toOk (s_ix c.toOk (s_var (i := 1)) s_int) (s_neg s_int)) a_nil)))))
  (b_one (z_ret (s_tup (a_cons (s_var (i := 9)) (a_cons (s_var (i := 10)) (a_cons (s_var (i := 11)) (a_cons (s_var (i := 12)) (a_cons (s_sl01 c.toOk (s_tup (a_cons (s_var (i := 6)) (a_star c.toOk (s_ix c.toOk (s_var (i := 1)) s_int) a_nil))) (s_var (i := 8))) (a_cons (s_sl01 c.toOk (s_tup (a_cons (s_var (i := 7)) (a_star c.toOk (s_ix c.toOk (s_var (i := 1)) s_int) a_nil))) (s_var (i := 8))) a_nil)))))))))))))
/-! ### next_in -/
abbrev t_next_in : Stmt := top 48
abbrev n_next_in : List Str := ["bridge", "state", "beat", "moves", "found", "look", "glance"]
def m_next_in : Ms := (mSeq (mPar2S 3 4 (mCall f_moves_in [] (mCons (mVar 0) (mCons (mVar 1) (mCons (mVar 2) mNil)))) (mLst mNil))
  (mSeq (mIf (mT (mIsB .str (mVar 3))) (mRet (mVar 3)) mSkip)
  (mSeq (mFor (gN 5) (mItems (mOr (mCall f_looks_in [] (mCons (mVar 0) (mCons (mVar 1) (mCons (mVar 2) (mCons (mVar 3) mNil))))) (mTup (mCons (mC .none) mNil)))) (mFor (gN 6) (mItems (mOr (mCall f_glances_in [] (mCons (mVar 0) (mCons (mVar 1) (mCons (mVar 2) (mCons (mVar 3) mNil))))) (mTup (mCons (mC .none) mNil)))) (mApp 4 (mCall f_behind_in [] (mCons (mVar 0) (mCons (mVar 1) (mCons (mVar 2) (mCons (mVar 3) (mCons (mVar 5) (mCons (mVar 6) mNil))))))))))
  (mRet (m1 fTupO (m1 fSrtG (mBor 4)))))))
def f_next_in : Fn := mkFn 3 7 m_next_in
theorem b_next_in {g : Gs}  (d_moves_in : Def g 4 "moves_in" [] f_moves_in) (d_looks_in : Def g 4 "looks_in" [] f_looks_in) (d_glances_in : Def g 4 "glances_in" [] f_glances_in) (d_behind_in : Def g 3 "behind_in" [] f_behind_in) : ∀ (E : XK) (w0 : Wd) (H0 : Hp) (X : Cx), OkC g E 4 X → PassesOwn (model X.prog X.w) X.A X.env X.xe → Takes X (fun cls d _ H => E cls d H) → X.N = n_next_in → X.env.scope = defScope (t_next_in) → X.fn = (fun _ => true) → SndB g E w0 H0 X (defBody (t_next_in)) m_next_in := by
  intro E w0 H0 X c po tk hN hs hf
  obtain ⟨prog, w', K, mg, base, A, N, s_0, H_0, ⟨e1, e2, e3, e4, e5, e6, e7, e8, e9⟩, outer, stack, ex, fn, calm, pn, xe⟩ := X
  simp only at hN hs hf
  subst hN hs hf
  have nd : (n_next_in).Nodup := by decide +kernel
  exact (b_cons (z_par2S (i := 3) (j := 4) c.toOk nd (s_call c d_moves_in (by decide) (a_cons (s_var (i := 0)) (a_cons (s_var (i := 1)) (a_cons (s_var (i := 2)) a_nil)))) (f_lst a_nil))
  (b_cons (z_if (t_val c.toOk (s_isB c.toOk .str rfl (s_var (i := 3)))) (b_one (z_ret (s_var (i := 3)))) b_nil)
  (b_cons (z_for c.toOk po (i_seq c.toOk (s_or c.toOk (s_call c d_looks_in (by decide) (a_cons (s_var (i := 0)) (a_cons (s_var (i := 1)) (a_cons (s_var (i := 2)) (a_cons (s_var (i := 3)) a_nil))))) (s_one (s_tup (a_cons s_none a_nil))))) (g_name (i := 5) nd) (b_one (z_for c.toOk po (i_seq c.toOk (s_or c.toOk (s_call c d_glances_in (by decide) (a_cons (s_var (i := 0)) (a_cons (s_var (i := 1)) (a_cons (s_var (i := 2)) (a_cons (s_var (i := 3)) a_nil))))) (s_one (s_tup (a_cons s_none a_nil))))) (g_name (i := 6) nd) (b_one (z_app (i := 4) (s_call c d_behind_in (by decide) (a_cons (s_var (i := 0)) (a_cons (s_var (i := 1)) (a_cons (s_var (i := 2)) (a_cons (s_var (i := 3)) (a_cons (s_var (i := 5)) (a_cons (s_var (i := 6)) a_nil))))))))))))
  (b_one (z_ret (q_tuple c.toOk (f_val (q_sortedG c.toOk (s_bor (i := 4))))))))))
/-! ### Bridge.__call__ -/
abbrev t_BridgeX_callX : Stmt := inClass (top 35) 6
abbrev n_BridgeX_callX : List Str := ["self", "state", "beat"]
def m_BridgeX_callX : Ms := (mSeq (mDo (mCall f_need_state [] (mCons (mVar 0) (mCons (mVar 1) mNil))))
  (mSeq (mDo (mCall f_need_beat [] (mCons (mVar 2) mNil)))
  (mRet (mCall f_next_in [] (mCons (mVar 0) (mCons (mVar 1) (mCons (mVar 2) mNil)))))))
def f_BridgeX_callX : Fn := mkFn 3 3 m_BridgeX_callX
theorem b_BridgeX_callX {g : Gs}  (d_need_state : Def g 4 "need_state" [] f_need_state) (d_need_beat : Def g 4 "need_beat" [] f_need_beat) (d_next_in : Def g 5 "next_in" [] f_next_in) : ∀ (E : XK) (w0 : Wd) (H0 : Hp) (X : Cx), OkC g E 5 X → PassesOwn (model X.prog X.w) X.A X.env X.xe → Takes X (fun cls d _ H => E cls d H) → X.N = n_BridgeX_callX → X.env.scope = defScope (t_BridgeX_callX) → X.fn = (fun _ => true) → SndB g E w0 H0 X (defBody (t_BridgeX_callX)) m_BridgeX_callX := by
  intro E w0 H0 X c po tk hN hs hf
  obtain ⟨prog, w', K, mg, base, A, N, s_0, H_0, ⟨e1, e2, e3, e4, e5, e6, e7, e8, e9⟩, outer, stack, ex, fn, calm, pn, xe⟩ := X
  simp only at hN hs hf
  subst hN hs hf
  have nd : (n_BridgeX_callX).Nodup := by decide +kernel
  exact (b_cons (z_expr (s_call c d_need_state (by decide) (a_cons (s_var (i := 0)) (a_cons (s_var (i := 1)) a_nil))))
  (b_cons (z_expr (s_call c d_need_beat (by decide) (a_cons (s_var (i := 2)) a_nil)))
  (b_one (z_ret (s_call c d_next_in (by decide) (a_cons (s_var (i := 0)) (a_cons (s_var (i := 1)) (a_cons (s_var (i := 2)) a_nil))))))))
/-! ### _law_steps_right -/
abbrev t__law_steps_right : Stmt := top 66
abbrev n__law_steps_right : List Str := ["_law_made", "_law_plan", "_law_ring", "_law_begin", "_law_stand", "_law_some", "_law_one"]
def m__law_steps_right : Ms := (mSeq (mSet 2 (mBin fIx (mVar 1) (mC (.int 0))))
  (mSeq (mFor (gN 3) (mRng1 (m1 fLen (mVar 2))) (mSeq (mSet 4 (mTup (mCons (mVar 3) (mCons (mVar 3) (mCons (mBin fMul (mTup (mCons (mVar 3) mNil)) (mBin fIx (mVar 1) (mC (.int 2)))) (mCons (mBin fMul (mTup (mCons (mVar 3) mNil)) (mBin fIx (mVar 1) (mC (.int 3)))) (mCons (mBin fMul (mTup (mCons (mC (.int 0)) mNil)) (mBin fSub (mBin fIx (mVar 1) (mC (.int 4))) (mC (.int 1)))) (mCons (mBin fMul (mTup (mCons (mC (.int 0)) mNil)) (mBin fSub (mBin fIx (mVar 1) (mC (.int 4))) (mC (.int 1)))) mNil))))))))
  (mSeq (mSet 5 (mCallO 1 f_BridgeX_callX (mVar 0) (mCons (mVar 4) (mCons (mTup (mCons (mC (.int 2)) (mCons (mC (.int 1)) mNil))) mNil))))
  (mSeq (mIf (mNotT (mT (mIsB .tuple (mVar 5)))) (mRet (mC (.bool false))) mSkip)
  (mIf (mNotT (mT (mCall f__law_same [] (mCons (mLc [6] (gN 6) (mItems (mVar 5)) mYes (mBin fIx (mBin fIx (mVar 6) (mC (.int 3))) (mC (.int 0)))) (mCons (mCall f__law_seen [] (mCons (mVar 2) (mCons (mVar 3) (mCons (mC (.int 1)) mNil)))) mNil))))) (mRet (mC (.bool false))) mSkip)))))
  (mRet (mC (.bool true)))))
def f__law_steps_right : Fn := mkFn 2 7 m__law_steps_right
theorem b__law_steps_right {g : Gs}  (d_BridgeX_callX : DunF g 6 1 "__call__" f_BridgeX_callX) (d__law_same : DefG g 1 "_law_same" [] f__law_same) (d__law_seen : Def g 1 "_law_seen" [] f__law_seen) : ∀ (E : XK) (w0 : Wd) (H0 : Hp) (X : Cx), OkG g E 6 X → PassesOwn (model X.prog X.w) X.A X.env X.xe → Takes X (fun cls d _ H => E cls d H) → X.N = n__law_steps_right → X.env.scope = defScope (t__law_steps_right) → X.fn = (fun _ => true) → SndB g E w0 H0 X (defBody (t__law_steps_right)) m__law_steps_right := by
  intro E w0 H0 X cg po tk hN hs hf
  obtain ⟨prog, w', K, mg, base, A, N, s_0, H_0, ⟨e1, e2, e3, e4, e5, e6, e7, e8, e9⟩, outer, stack, ex, fn, calm, pn, xe⟩ := X
  simp only at hN hs hf
  subst hN hs hf
  have c := cg.toOkC
  have nd : (n__law_steps_right).Nodup := by decide +kernel
  exact (b_cons (z_set (i := 2) nd (s_ix c.toOk (s_var (i := 1)) s_int))
  (b_cons (z_for c.toOk po (i_rng1 c.toOk (nbg c.toOk "range") (q_len c.toOk (s_var (i := 2)))) (g_name (i := 3) nd) (b_cons (z_set (i := 4) nd (s_tup (a_cons (s_var (i := 3)) (a_cons (s_var (i := 3)) (a_cons (s_mul c.toOk (s_tup (a_cons (s_var (i := 3)) a_nil)) (s_ix c.toOk (s_var (i := 1)) s_int)) (a_cons (s_mul c.toOk (s_tup (a_cons (s_var (i := 3)) a_nil)) (s_ix c.toOk (s_var (i := 1)) s_int)) (a_cons (s_mul c.toOk (s_tup (a_cons s_int a_nil)) (s_sub (s_ix c.toOk (s_var (i := 1)) s_int) s_int)) (a_cons (s_mul c.toOk (s_tup (a_cons s_int a_nil)) (s_sub (s_ix c.toOk (s_var (i := 1)) s_int) s_int)) a_nil))))))))
  (b_cons (z_set (i := 5) nd (s_callO c d_BridgeX_callX (by decide) (s_var (i := 0)) (a_cons (s_var (i := 4)) (a_cons (s_tup (a_cons s_int (a_cons s_int a_nil))) a_nil))))
  (b_cons (z_if (t_not (t_val c.toOk (s_isB c.toOk .tuple rfl (s_var (i := 5))))) (b_one (z_ret s_bool)) b_nil)
  (b_one (z_if (t_not (t_val c.toOk (s_callG cg d__law_same (by decide) (a_cons (f_val (f_lc (own := [("_law_one", 6)]) c.toOk nd (i_seq c.toOk (s_var (i := 5))) (by first | exact L2.blkOk_by (by decide +kernel) | exact L2.blkOk_by (by kernel_rfl)) (by decide) (fun _ _ _ _ _ => (g_name (i := 6) nd)) (fun _ _ _ _ _ => ts_nil) (fun _ _ _ _ _ => (fun (cb : OkC g E0 6 _) => (s_ix cb.toOk (s_ix cb.toOk (s_var (i := 6)) s_int) s_int)) (c.blk _ _ _ _ _)))) (a_cons (s_call c d__law_seen (by decide) (a_cons (s_var (i := 2)) (a_cons (s_var (i := 3)) (a_cons s_int a_nil)))) a_nil))))) (b_one (z_ret s_bool)) b_nil))))))
  (b_one (z_ret s_bool))))
/-! ### _law_formed -/
abbrev t__law_formed : Stmt := top 63
abbrev n__law_formed : List Str := ["_law_pen_here", "_law_plan", "_law_many", "_law_fresh", "_law_mine", "_law_turn", "_law_its", "_law_rows", "_law_side"]
def m__law_formed : Ms := (mSeq (mAsg (gT (gsC (gN 2) (gsC (gN 3) gs0))) (mTup (mCons (m1 fLen (mBin fIx (mVar 1) (mC (.int 0)))) (mCons (mBin fSub (mBin fIx (mVar 1) (mC (.int 4))) (mC (.int 1))) mNil))))
  (mSeq (mSet 4 (m1 fTupO (mLc [5] (gN 5) (mRng1 (mBin fIx (mVar 1) (mC (.int 2)))) mYes (mBin fSub (mCall f__law_draw [] (mCons (mVar 0) (mCons (mBin fAdd (mVar 2) (mC (.int 1))) mNil))) (mC (.int 1))))))
  (mSeq (mSet 6 (m1 fTupO (mLc [5] (gN 5) (mRng1 (mBin fIx (mVar 1) (mC (.int 3)))) mYes (mBin fSub (mCall f__law_draw [] (mCons (mVar 0) (mCons (mBin fAdd (mVar 2) (mC (.int 1))) mNil))) (mC (.int 1))))))
  (mSeq (mSet 7 (mLc [8] (gN 8) (mItems (mTup (mCons (mC (.int 0)) (mCons (mC (.int 1)) mNil)))) mYes (m1 fTupO (mLc [5] (gN 5) (mRng1 (mVar 3)) mYes (mCall f__law_draw [] (mCons (mVar 0) (mCons (mC (.int 2)) mNil)))))))
  (mRet (mTup (mCons (mCall f__law_draw [] (mCons (mVar 0) (mCons (mVar 2) mNil))) (mCons (mCall f__law_draw [] (mCons (mVar 0) (mCons (mVar 2) mNil))) (mCons (mVar 4) (mCons (mVar 6) (mCons (mBin fIx (mVar 7) (mC (.int 0))) (mCons (mBin fIx (mVar 7) (mC (.int 1))) mNil))))))))))))
def f__law_formed : Fn := mkFn 2 9 m__law_formed
theorem b__law_formed {g : Gs}  (d__law_draw : Def g 1 "_law_draw" [] f__law_draw) : ∀ (E : XK) (w0 : Wd) (H0 : Hp) (X : Cx), OkC g E 1 X → PassesOwn (model X.prog X.w) X.A X.env X.xe → Takes X (fun cls d _ H => E cls d H) → X.N = n__law_formed → X.env.scope = defScope (t__law_formed) → X.fn = (fun _ => true) → SndB g E w0 H0 X (defBody (t__law_formed)) m__law_formed := by
  intro E w0 H0 X c po tk hN hs hf
  obtain ⟨prog, w', K, mg, base, A, N, s_0, H_0, ⟨e1, e2, e3, e4, e5, e6, e7, e8, e9⟩, outer, stack, ex, fn, calm, pn, xe⟩ := X
  simp only at hN hs hf
  subst hN hs hf
  have nd : (n__law_formed).Nodup := by decide +kernel
  exact (b_cons (z_asg (s_tup (a_cons (q_len c.toOk (s_ix c.toOk (s_var (i := 1)) s_int)) (a_cons (s_sub (s_ix c.toOk (s_var (i := 1)) s_int) s_int) a_nil))) (g_tup c.toOk (gs_cons (g_name (i := 2) nd) (gs_cons (g_name (i := 3) nd) gs_nil)) (n_cons (n_cons n_nil))))
  (b_cons (z_set (i := 4) nd (q_tuple c.toOk (f_val (f_lc (own := [("_law_turn", 5)]) c.toOk nd (i_rng1 c.toOk (nbg c.toOk "range") (s_ix c.toOk (s_var (i := 1)) s_int)) (by first | exact L2.blkOk_by (by decide +kernel) | exact L2.blkOk_by (by kernel_rfl)) (by decide) (fun _ _ _ _ _ => (g_name (i := 5) nd)) (fun _ _ _ _ _ => ts_nil) (fun _ _ _ _ _ => (fun (cb : OkC g E0 1 _) => (s_sub (s_call cb d__law_draw (by decide) (a_cons (s_var (i := 0)) (a_cons (s_add cb.toOk (s_var (i := 2)) s_int) a_nil))) s_int)) (c.blk _ _ _ _ _))))))
  (b_cons (z_set (i := 6) nd (q_tuple c.toOk (f_val (f_lc (own := [("_law_turn", 5)]) c.toOk nd (i_rng1 c.toOk (nbg c.toOk "range") (s_ix c.toOk (s_var (i := 1)) s_int)) (by first | exact L2.blkOk_by (by decide +kernel) | exact L2.blkOk_by (by kernel_rfl)) (by decide) (fun _ _ _ _ _ => (g_name (i := 5) nd)) (fun _ _ _ _ _ => ts_nil) (fun _ _ _ _ _ => (fun (cb : OkC g E0 1 _) => (s_sub (s_call cb d__law_draw (by decide) (a_cons (s_var (i := 0)) (a_cons (s_add cb.toOk (s_var (i := 2)) s_int) a_nil))) s_int)) (c.blk _ _ _ _ _))))))
  (b_cons (z_setLc (i := 7) (own := [("_law_side", 8)]) c.toOk nd rfl rfl (sw_true rfl rfl rfl (by decide +kernel)) (i_seq c.toOk (s_tup (a_cons s_int (a_cons s_int a_nil)))) (by first | exact L2.blkOk_by (by decide +kernel) | exact L2.blkOk_by (by kernel_rfl)) (by decide) (fun _ _ _ _ _ => (g_name (i := 8) nd)) (fun _ _ _ _ _ => ts_nil) (fun _ _ _ _ _ => (fun (cb : OkC g E0 1 _) => (q_tuple cb.toOk (f_val (f_lc (own := [("_law_turn", 5)]) cb.toOk nd (i_rng1 cb.toOk (nbg cb.toOk "range") (s_var (i := 3))) (by first | exact L2.blkOk_by (by decide +kernel) | exact L2.blkOk_by (by kernel_rfl)) (by decide) (fun _ _ _ _ _ => (g_name (i := 5) nd)) (fun _ _ _ _ _ => ts_nil) (fun _ _ _ _ _ => (fun (cbb : OkC g E0 1 _) => (s_call cbb d__law_draw (by decide) (a_cons (s_var (i := 0)) (a_cons s_int a_nil)))) (cb.blk _ _ _ _ _)))))) (c.blk _ _ _ _ _)))
  (b_one (z_ret (s_tup (a_cons (s_call c d__law_draw (by decide) (a_cons (s_var (i := 0)) (a_cons (s_var (i := 2)) a_nil))) (a_cons (s_call c d__law_draw (by decide) (a_cons (s_var (i := 0)) (a_cons (s_var (i := 2)) a_nil))) (a_cons (s_var (i := 4)) (a_cons (s_var (i := 6)) (a_cons (s_ix c.toOk (s_var (i := 7)) s_int) (a_cons (s_ix c.toOk (s_var (i := 7)) s_int) a_nil)))))))))))))
/-! ### _law_pulses -/
abbrev t__law_pulses : Stmt := top 58
abbrev n__law_pulses : List Str := []
def m__law_pulses : Ms := (mRet (mLst (mCons (mTup (mCons (mC (.int 0)) (mCons (mC (.int 1)) mNil))) (mCons (mTup (mCons (mC (.int 0)) (mCons (mC (.int 2)) mNil))) (mCons (mTup (mCons (mC (.int 1)) (mCons (mC (.int 0)) mNil))) (mCons (mTup (mCons (mC (.int 1)) (mCons (mC (.int 1)) mNil))) (mCons (mTup (mCons (mC (.int 1)) (mCons (mC (.int 2)) mNil))) (mCons (mTup (mCons (mC (.int 2)) (mCons (mC (.int 0)) mNil))) (mCons (mTup (mCons (mC (.int 2)) (mCons (mC (.int 1)) mNil))) (mCons (mTup (mCons (mC (.int 2)) (mCons (mC (.int 2)) mNil))) mNil))))))))))
def f__law_pulses : Fn := mkFn 0 0 m__law_pulses
theorem b__law_pulses {g : Gs}  : ∀ (E : XK) (w0 : Wd) (H0 : Hp) (X : Cx), OkC g E 0 X → PassesOwn (model X.prog X.w) X.A X.env X.xe → Takes X (fun cls d _ H => E cls d H) → X.N = n__law_pulses → X.env.scope = defScope (t__law_pulses) → X.fn = (fun _ => true) → SndB g E w0 H0 X (defBody (t__law_pulses)) m__law_pulses := by
  intro E w0 H0 X c po tk hN hs hf
  obtain ⟨prog, w', K, mg, base, A, N, s_0, H_0, ⟨e1, e2, e3, e4, e5, e6, e7, e8, e9⟩, outer, stack, ex, fn, calm, pn, xe⟩ := X
  simp only at hN hs hf
  subst hN hs hf
  have nd : (n__law_pulses).Nodup := by decide +kernel
  exact (b_one (z_ret (f_val (f_lst (a_cons (s_tup (a_cons s_int (a_cons s_int a_nil))) (a_cons (s_tup (a_cons s_int (a_cons s_int a_nil))) (a_cons (s_tup (a_cons s_int (a_cons s_int a_nil))) (a_cons (s_tup (a_cons s_int (a_cons s_int a_nil))) (a_cons (s_tup (a_cons s_int (a_cons s_int a_nil))) (a_cons (s_tup (a_cons s_int (a_cons s_int a_nil))) (a_cons (s_tup (a_cons s_int (a_cons s_int a_nil))) (a_cons (s_tup (a_cons s_int (a_cons s_int a_nil))) a_nil))))))))))))
/-! ### _law_moves -/
abbrev t__law_moves : Stmt := top 60
abbrev n__law_moves : List Str := ["_law_plan", "_law_stand", "_law_pulse", "_law_many", "_law_mine", "_law_its", "_law_more", "_law_less"]
def m__law_moves : Ms := (mSeq (mAsg (gT (gsC (gN 3) (gsC (gN 4) (gsC (gN 5) gs0)))) (mTup (mCons (m1 fLen (mBin fIx (mVar 0) (mC (.int 0)))) (mCons (mBin fIx (mBin fIx (mVar 1) (mC (.int 2))) (mNeg (mC (.int 1)))) (mCons (mBin fIx (mBin fIx (mVar 1) (mC (.int 3))) (mNeg (mC (.int 1)))) mNil)))))
  (mSeq (mSet 6 (mAnd (mBin fEq (mBin fIx (mVar 2) (mC (.int 0))) (mC (.int 2))) (mAnd (mBin fGt (mVar 4) (mNeg (mC (.int 1)))) (mBin fLt (mBin fMod (mBin fSub (mBin fIx (mVar 1) (mC (.int 0))) (mVar 4)) (mVar 3)) (mBin fIx (mVar 0) (mC (.int 1)))))))
  (mSeq (mSet 7 (mAnd (mBin fEq (mBin fIx (mVar 2) (mC (.int 1))) (mC (.int 2))) (mAnd (mBin fGt (mVar 5) (mNeg (mC (.int 1)))) (mChain fLt fLe (mC (.int 0)) (mBin fMod (mBin fSub (mVar 5) (mBin fIx (mVar 1) (mC (.int 1)))) (mVar 3)) (mBin fIx (mVar 0) (mC (.int 1)))))))
  (mSeq (mIf (mAndT (mT (mVar 6)) (mCmpT fGe (mBin fMod (mBin fSub (mBin fIx (mVar 1) (mC (.int 0))) (mBin fIx (mVar 1) (mC (.int 1)))) (mVar 3)) (mBin fIx (mVar 0) (mC (.int 1))))) (mRet (mC (.str (Str.ofString "full")))) mSkip)
  (mRet (mIte (mAndT (mT (mVar 7)) (mCmpT fEq (mBin fIx (mVar 1) (mC (.int 0))) (mBin fIx (mVar 1) (mC (.int 1))))) (mC (.str (Str.ofString "empty"))) (mTup (mCons (m1 fInt (mVar 6)) (mCons (m1 fInt (mVar 7)) mNil)))))))))
def f__law_moves : Fn := mkFn 3 8 m__law_moves
theorem b__law_moves {g : Gs}  : ∀ (E : XK) (w0 : Wd) (H0 : Hp) (X : Cx), OkC g E 0 X → PassesOwn (model X.prog X.w) X.A X.env X.xe → Takes X (fun cls d _ H => E cls d H) → X.N = n__law_moves → X.env.scope = defScope (t__law_moves) → X.fn = (fun _ => true) → SndB g E w0 H0 X (defBody (t__law_moves)) m__law_moves := by
  intro E w0 H0 X c po tk hN hs hf
  obtain ⟨prog, w', K, mg, base, A, N, s_0, H_0, ⟨e1, e2, e3, e4, e5, e6, e7, e8, e9⟩, outer, stack, ex, fn, calm, pn, xe⟩ := X
  simp only at hN hs hf
  subst hN hs hf
  have nd : (n__law_moves).Nodup := by decide +kernel
  exact (b_cons (z_par3 (i := 3) (j := 4) (l := 5) c.toOk nd (q_len c.toOk (s_ix c.toOk (s_var (i := 0)) s_int)) (s_ix c.toOk (s_ix c.toOk (s_var (i := 1)) s_int) (s_neg s_int)) (s_ix c.toOk (s_ix c.toOk (s_var (i := 1)) s_int) (s_neg s_int)))
  (b_cons (z_set (i := 6) nd (s_and c.toOk (s_cmp (c_eq c.toOk) (s_ix c.toOk (s_var (i := 2)) s_int) s_int) (s_and c.toOk (s_cmp c_gt (s_var (i := 4)) (s_neg s_int)) (s_one (s_cmp c_lt (s_mod (s_sub (s_ix c.toOk (s_var (i := 1)) s_int) (s_var (i := 4))) (s_var (i := 3))) (s_ix c.toOk (s_var (i := 0)) s_int))))))
  (b_cons (z_set (i := 7) nd (s_and c.toOk (s_cmp (c_eq c.toOk) (s_ix c.toOk (s_var (i := 2)) s_int) s_int) (s_and c.toOk (s_cmp c_gt (s_var (i := 5)) (s_neg s_int)) (s_one (s_chain c_lt c_le s_int (s_mod (s_sub (s_var (i := 5)) (s_ix c.toOk (s_var (i := 1)) s_int)) (s_var (i := 3))) (s_ix c.toOk (s_var (i := 0)) s_int))))))
  (b_cons (z_if (t_w (w_and (t_val c.toOk (s_var (i := 6))) (w_and1 (t_cmp c_ge (s_mod (s_sub (s_ix c.toOk (s_var (i := 1)) s_int) (s_ix c.toOk (s_var (i := 1)) s_int)) (s_var (i := 3))) (s_ix c.toOk (s_var (i := 0)) s_int))))) (b_one (z_ret s_str)) b_nil)
  (b_one (z_ret (s_ite (t_w (w_and (t_val c.toOk (s_var (i := 7))) (w_and1 (t_cmp (c_eq c.toOk) (s_ix c.toOk (s_var (i := 1)) s_int) (s_ix c.toOk (s_var (i := 1)) s_int))))) s_str (s_tup (a_cons (q_int c.toOk (s_var (i := 6))) (a_cons (q_int c.toOk (s_var (i := 7))) a_nil))))))))))
/-! ### _law_fronts -/
abbrev t__law_fronts : Stmt := top 61
abbrev n__law_fronts : List Str := ["_law_plan", "_law_row", "_law_here", "_law_steps", "_law_has_beat", "_law_begin", "_law_some", "_law_one"]
def m__law_fronts : Ms := (mSeq (mIf (mNotT (mT (mVar 4))) (mRet (mLst (mCons (mVar 1) mNil))) mSkip)
  (mSeq (mSet 5 (mBin fMod (mBin fSub (mVar 2) (mVar 3)) (m1 fLen (mBin fIx (mVar 0) (mC (.int 0))))))
  (mSeq (mSet 6 (mIte (mCmpT fGt (m1 fLen (mVar 0)) (mC (.int 5))) (mBin fIx (mBin fIx (mBin fIx (mVar 0) (mC (.int 5))) (mVar 5)) (mVar 3)) (mCall f__law_seen [] (mCons (mBin fIx (mVar 0) (mC (.int 0))) (mCons (mVar 5) (mCons (mVar 3) mNil))))))
  (mRet (mLc [7] (gN 7) (mItems (mVar 6)) mYes (mBin fAdd (mTup (mCons (mVar 7) mNil)) (mSl01 (mVar 1) (mNeg (mC (.int 1))))))))))
def f__law_fronts : Fn := mkFn 5 8 m__law_fronts
theorem b__law_fronts {g : Gs}  (d__law_seen : Def g 1 "_law_seen" [] f__law_seen) : ∀ (E : XK) (w0 : Wd) (H0 : Hp) (X : Cx), OkC g E 1 X → PassesOwn (model X.prog X.w) X.A X.env X.xe → Takes X (fun cls d _ H => E cls d H) → X.N = n__law_fronts → X.env.scope = defScope (t__law_fronts) → X.fn = (fun _ => true) → SndB g E w0 H0 X (defBody (t__law_fronts)) m__law_fronts := by
  intro E w0 H0 X c po tk hN hs hf
  obtain ⟨prog, w', K, mg, base, A, N, s_0, H_0, ⟨e1, e2, e3, e4, e5, e6, e7, e8, e9⟩, outer, stack, ex, fn, calm, pn, xe⟩ := X
  simp only at hN hs hf
  subst hN hs hf
  have nd : (n__law_fronts).Nodup := by decide +kernel
  exact (b_cons (z_if (t_not (t_val c.toOk (s_var (i := 4)))) (b_one (z_ret (f_val (f_lst (a_cons (s_var (i := 1)) a_nil))))) b_nil)
  (b_cons (z_set (i := 5) nd (s_mod (s_sub (s_var (i := 2)) (s_var (i := 3))) (q_len c.toOk (s_ix c.toOk (s_var (i := 0)) s_int))))
  (b_cons (z_set (i := 6) nd (s_ite (t_cmp c_gt (q_len c.toOk (s_var (i := 0))) s_int) (s_ix c.toOk (s_ix c.toOk (s_ix c.toOk (s_var (i := 0)) s_int) (s_var (i := 5))) (s_var (i := 3))) (s_call c d__law_seen (by decide) (a_cons (s_ix c.toOk (s_var (i := 0)) s_int) (a_cons (s_var (i := 5)) (a_cons (s_var (i := 3)) a_nil))))))
  (b_one (z_ret (f_val (f_lc (own := [("_law_one", 7)]) c.toOk nd (i_seq c.toOk (s_var (i := 6))) (by first | exact L2.blkOk_by (by decide +kernel) | exact L2.blkOk_by (by kernel_rfl)) (by decide) (fun _ _ _ _ _ => (g_name (i := 7) nd)) (fun _ _ _ _ _ => ts_nil) (fun _ _ _ _ _ => (fun (cb : OkC g E0 1 _) => (s_add cb.toOk (s_tup (a_cons (s_var (i := 7)) a_nil)) (s_sl01 cb.toOk (s_var (i := 1)) (s_neg s_int)))) (c.blk _ _ _ _ _)))))))))
/-! ### _law_next -/
abbrev t__law_next : Stmt := top 62
abbrev n__law_next : List Str := ["_law_plan", "_law_stand", "_law_pulse", "_law_moves_here", "_law_there", "_law_here", "_law_mores", "_law_lesses", "_law_mine", "_law_its", "_law_found", "_law_marks", "_law_one", "_law_other"]
def m__law_next : Ms := (mSeq (mSet 3 (mCall f__law_moves [] (mCons (mVar 0) (mCons (mVar 1) (mCons (mVar 2) mNil)))))
  (mSeq (mIf (mT (mIsB .str (mVar 3))) (mRet (mVar 3)) mSkip)
  (mSeq (mSet 4 (mBin fMod (mBin fAdd (mBin fIx (mVar 1) (mC (.int 0))) (mBin fIx (mVar 3) (mC (.int 0)))) (m1 fLen (mBin fIx (mVar 0) (mC (.int 0))))))
  (mSeq (mSet 5 (mBin fMod (mBin fAdd (mBin fIx (mVar 1) (mC (.int 1))) (mBin fIx (mVar 3) (mC (.int 1)))) (m1 fLen (mBin fIx (mVar 0) (mC (.int 0))))))
  (mSeq (mAsg (gT (gsC (gN 6) (gsC (gN 7) gs0))) (mTup (mCons (mBin fAdd (mTup (mCons (mBin fIx (mVar 3) (mC (.int 0))) mNil)) (mBin fIx (mVar 1) (mC (.int 4)))) (mCons (mBin fAdd (mTup (mCons (mBin fIx (mVar 3) (mC (.int 1))) mNil)) (mBin fIx (mVar 1) (mC (.int 5)))) mNil))))
  (mSeq (mSet 8 (mCall f__law_fronts [] (mCons (mVar 0) (mCons (mBin fIx (mVar 1) (mC (.int 2))) (mCons (mVar 5) (mCons (m1 fSumT (mVar 7)) (mCons (mBin fGt (mBin fIx (mVar 2) (mC (.int 0))) (mC (.int 0))) mNil)))))))
  (mSeq (mSet 9 (mCall f__law_fronts [] (mCons (mVar 0) (mCons (mBin fIx (mVar 1) (mC (.int 3))) (mCons (mVar 4) (mCons (m1 fSumT (mVar 6)) (mCons (mBin fGt (mBin fIx (mVar 2) (mC (.int 1))) (mC (.int 0))) mNil)))))))
  (mSeq (mPar2F 10 11 (mLst mNil) (mTup (mCons (mSl01 (mVar 6) (mBin fSub (mBin fIx (mVar 0) (mC (.int 4))) (mC (.int 1)))) (mCons (mSl01 (mVar 7) (mBin fSub (mBin fIx (mVar 0) (mC (.int 4))) (mC (.int 1)))) mNil))))
  (mSeq (mFor (gN 12) (mItems (mVar 8)) (mExt 10 (mLc [13] (gN 13) (mItems (mVar 9)) mYes (mBin fAdd (mTup (mCons (mVar 4) (mCons (mVar 5) (mCons (mVar 12) (mCons (mVar 13) mNil))))) (mVar 11)))))
  (mRet (m1 fTupO (m1 fSrtG (mBor 10)))))))))))))
def f__law_next : Fn := mkFn 3 14 m__law_next
theorem b__law_next {g : Gs}  (d__law_moves : Def g 1 "_law_moves" [] f__law_moves) (d__law_fronts : Def g 2 "_law_fronts" [] f__law_fronts) : ∀ (E : XK) (w0 : Wd) (H0 : Hp) (X : Cx), OkC g E 2 X → PassesOwn (model X.prog X.w) X.A X.env X.xe → Takes X (fun cls d _ H => E cls d H) → X.N = n__law_next → X.env.scope = defScope (t__law_next) → X.fn = (fun _ => true) → SndB g E w0 H0 X (defBody (t__law_next)) m__law_next := by
  intro E w0 H0 X c po tk hN hs hf
  obtain ⟨prog, w', K, mg, base, A, N, s_0, H_0, ⟨e1, e2, e3, e4, e5, e6, e7, e8, e9⟩, outer, stack, ex, fn, calm, pn, xe⟩ := X
  simp only at hN hs hf
  subst hN hs hf
  have nd : (n__law_next).Nodup := by decide +kernel
  exact (b_cons (z_set (i := 3) nd (s_call c d__law_moves (by decide) (a_cons (s_var (i := 0)) (a_cons (s_var (i := 1)) (a_cons (s_var (i := 2)) a_nil)))))
  (b_cons (z_if (t_val c.toOk (s_isB c.toOk .str rfl (s_var (i := 3)))) (b_one (z_ret (s_var (i := 3)))) b_nil)
  (b_cons (z_set (i := 4) nd (s_mod (s_add c.toOk (s_ix c.toOk (s_var (i := 1)) s_int) (s_ix c.toOk (s_var (i := 3)) s_int)) (q_len c.toOk (s_ix c.toOk (s_var (i := 0)) s_int))))
  (b_cons (z_set (i := 5) nd (s_mod (s_add c.toOk (s_ix c.toOk (s_var (i := 1)) s_int) (s_ix c.toOk (s_var (i := 3)) s_int)) (q_len c.toOk (s_ix c.toOk (s_var (i := 0)) s_int))))
  (b_cons (z_par2 (i := 6) (j := 7) c.toOk nd (s_add c.toOk (s_tup (a_cons (s_ix c.toOk (s_var (i := 3)) s_int) a_nil)) (s_ix c.toOk (s_var (i := 1)) s_int)) (s_add c.toOk (s_tup (a_cons (s_ix c.toOk (s_var (i := 3)) s_int) a_nil)) (s_ix c.toOk (s_var (i := 1)) s_int)))
  (b_cons (z_set (i := 8) nd (s_call c d__law_fronts (by decide) (a_cons (s_var (i := 0)) (a_cons (s_ix c.toOk (s_var (i := 1)) s_int) (a_cons (s_var (i := 5)) (a_cons (q_sumT c.toOk (s_var (i := 7))) (a_cons (s_cmp c_gt (s_ix c.toOk (s_var (i := 2)) s_int) s_int) a_nil)))))))
  (b_cons (z_set (i := 9) nd (s_call c d__law_fronts (by decide) (a_cons (s_var (i := 0)) (a_cons (s_ix c.toOk (s_var (i := 1)) s_int) (a_cons (s_var (i := 4)) (a_cons (q_sumT c.toOk (s_var (i := 6))) (a_cons (s_cmp c_gt (s_ix c.toOk (s_var (i := 2)) s_int) s_int) a_nil)))))))
  (b_cons (z_par2FC (i := 10) (j := 11) c.toOk nd (f_lst a_nil) (s_tup (a_cons (s_sl01 c.toOk (s_var (i := 6)) (s_sub (s_ix c.toOk (s_var (i := 0)) s_int) s_int)) (a_cons (s_sl01 c.toOk (s_var (i := 7)) (s_sub (s_ix c.toOk (s_var (i := 0)) s_int) s_int)) a_nil))))
  (b_cons (z_for c.toOk po (i_seq c.toOk (s_var (i := 8))) (g_name (i := 12) nd) (b_one (z_ext (i := 10) (f_val (f_lc (own := [("_law_other", 13)]) c.toOk nd (i_seq c.toOk (s_var (i := 9))) (by first | exact L2.blkOk_by (by decide +kernel) | exact L2.blkOk_by (by kernel_rfl)) (by decide) (fun _ _ _ _ _ => (g_name (i := 13) nd)) (fun _ _ _ _ _ => ts_nil) (fun _ _ _ _ _ => (fun (cb : OkC g E0 2 _) => (s_add cb.toOk (s_tup (a_cons (s_var (i := 4)) (a_cons (s_var (i := 5)) (a_cons (s_var (i := 12)) (a_cons (s_var (i := 13)) a_nil))))) (s_var (i := 11)))) (c.blk _ _ _ _ _)))))))
  (b_one (z_ret (q_tuple c.toOk (f_val (q_sortedG c.toOk (s_bor (i := 10))))))))))))))))
/-! ### _law_idle_right -/
abbrev t__law_idle_right : Stmt := top 65
abbrev n__law_idle_right : List Str := ["_law_pen_here", "_law_made", "_law_plan", "_law_stand", "_law_pulse", "_law_some", "_law_one"]
def m__law_idle_right : Ms := (mSeq (mSet 3 (mCall f__law_formed [] (mCons (mVar 0) (mCons (mVar 2) mNil))))
  (mSeq (mSet 3 (mBin fAdd (mBin fAdd (mSl01 (mVar 3) (mC (.int 2))) (mTup (mCons (mBin fAdd (mSl01 (mBin fIx (mVar 3) (mC (.int 2))) (mNeg (mC (.int 1)))) (mTup (mCons (mNeg (mC (.int 1))) mNil))) (mCons (mBin fAdd (mSl01 (mBin fIx (mVar 3) (mC (.int 3))) (mNeg (mC (.int 1)))) (mTup (mCons (mNeg (mC (.int 1))) mNil))) mNil)))) (mSl10 (mVar 3) (mC (.int 4)))))
  (mSeq (mFor (gN 4) (mItems (mCall f__law_pulses [] mNil)) (mSeq (mSet 5 (mCallO 1 f_BridgeX_callX (mVar 1) (mCons (mVar 3) (mCons (mVar 4) mNil))))
  (mSeq (mIf (mOrT (mNotT (mT (mCall f__law_same [] (mCons (mVar 5) (mCons (mCall f__law_next [] (mCons (mVar 2) (mCons (mVar 3) (mCons (mVar 4) mNil)))) mNil))))) (mT (mIsB .str (mVar 5)))) (mRet (mC (.bool false))) mSkip)
  (mIf (mCmpT fNe (mLc [6] (gN 6) (mItems (mVar 5)) (mOrT (mCmpT fNe (mSl01 (mVar 6) (mC (.int 2))) (mSl01 (mVar 3) (mC (.int 2)))) (mCmpT (fInD fun b => b) (mC (.int 1)) (mBin fAdd (mSl01 (mBin fIx (mVar 6) (mC (.int 4))) (mC (.int 1))) (mSl01 (mBin fIx (mVar 6) (mC (.int 5))) (mC (.int 1)))))) (mC (.int 1))) (mLst mNil)) (mRet (mC (.bool false))) mSkip))))
  (mRet (mC (.bool true))))))
def f__law_idle_right : Fn := mkFn 3 7 m__law_idle_right
theorem b__law_idle_right {g : Gs}  (d__law_formed : Def g 2 "_law_formed" [] f__law_formed) (d__law_pulses : Def g 1 "_law_pulses" [] f__law_pulses) (d_BridgeX_callX : DunF g 6 1 "__call__" f_BridgeX_callX) (d__law_same : DefG g 1 "_law_same" [] f__law_same) (d__law_next : Def g 3 "_law_next" [] f__law_next) : ∀ (E : XK) (w0 : Wd) (H0 : Hp) (X : Cx), OkG g E 6 X → PassesOwn (model X.prog X.w) X.A X.env X.xe → Takes X (fun cls d _ H => E cls d H) → X.N = n__law_idle_right → X.env.scope = defScope (t__law_idle_right) → X.fn = (fun _ => true) → SndB g E w0 H0 X (defBody (t__law_idle_right)) m__law_idle_right := by
  intro E w0 H0 X cg po tk hN hs hf
  obtain ⟨prog, w', K, mg, base, A, N, s_0, H_0, ⟨e1, e2, e3, e4, e5, e6, e7, e8, e9⟩, outer, stack, ex, fn, calm, pn, xe⟩ := X
  simp only at hN hs hf
  subst hN hs hf
  have c := cg.toOkC
  have nd : (n__law_idle_right).Nodup := by decide +kernel
  exact (b_cons (z_set (i := 3) nd (s_call c d__law_formed (by decide) (a_cons (s_var (i := 0)) (a_cons (s_var (i := 2)) a_nil))))
  (b_cons (z_set (i := 3) nd (s_add c.toOk (s_add c.toOk (s_sl01 c.toOk (s_var (i := 3)) s_int) (s_tup (a_cons (s_add c.toOk (s_sl01 c.toOk (s_ix c.toOk (s_var (i := 3)) s_int) (s_neg s_int)) (s_tup (a_cons (s_neg s_int) a_nil))) (a_cons (s_add c.toOk (s_sl01 c.toOk (s_ix c.toOk (s_var (i := 3)) s_int) (s_neg s_int)) (s_tup (a_cons (s_neg s_int) a_nil))) a_nil)))) (s_sl10 c.toOk (s_var (i := 3)) s_int)))
  (b_cons (z_for c.toOk po (i_seq c.toOk (s_call0 c d__law_pulses (by decide))) (g_name (i := 4) nd) (b_cons (z_set (i := 5) nd (s_callO c d_BridgeX_callX (by decide) (s_var (i := 1)) (a_cons (s_var (i := 3)) (a_cons (s_var (i := 4)) a_nil))))
  (b_cons (z_if (t_w (w_or (t_not (t_val c.toOk (s_callG cg d__law_same (by decide) (a_cons (s_var (i := 5)) (a_cons (s_call c d__law_next (by decide) (a_cons (s_var (i := 2)) (a_cons (s_var (i := 3)) (a_cons (s_var (i := 4)) a_nil)))) a_nil))))) (w_or1 (t_val c.toOk (s_isB c.toOk .str rfl (s_var (i := 5))))))) (b_one (z_ret s_bool)) b_nil)
  (b_one (z_if (t_cmp (c_ne c.toOk) (f_val (f_lc (own := [("_law_one", 6)]) c.toOk nd (i_seq c.toOk (s_var (i := 5))) (by first | exact L2.blkOk_by (by decide +kernel) | exact L2.blkOk_by (by kernel_rfl)) (by decide) (fun _ _ _ _ _ => (g_name (i := 6) nd)) (fun _ _ _ _ _ => (fun (cb : OkC g E0 6 _) => (ts_one (t_w (w_or (t_cmp (c_ne cb.toOk) (s_sl01 cb.toOk (s_var (i := 6)) s_int) (s_sl01 cb.toOk (s_var (i := 3)) s_int)) (w_or1 (t_cmp (c_inA cb.toOk) s_int (s_add cb.toOk (s_sl01 cb.toOk (s_ix cb.toOk (s_var (i := 6)) s_int) s_int) (s_sl01 cb.toOk (s_ix cb.toOk (s_var (i := 6)) s_int) s_int)))))))) (c.blk _ _ _ _ _)) (fun _ _ _ _ _ => s_int))) (f_val (f_lst a_nil))) (b_one (z_ret s_bool)) b_nil)))))
  (b_one (z_ret s_bool)))))
/-! ### law -/
abbrev t_law : Stmt := top 67
abbrev n_law : List Str := ["_law_script", "_law_k", "_law_pen_here", "_law_drag", "_law_ring", "_law_plan", "_law_made", "_law_turn"]
def m_law : Ms := (mSeq (mFor (gN 1) (mRng1 (mBin fMax2 (mC (.int 1)) (mBin fMin2 (m1 fLen (mVar 0)) (mC (.int 3))))) (mSeq (mSet 2 (mCall f__law_pen [] (mCons (mCall f__law_cell_at [] (mCons (mVar 0) (mCons (mVar 1) mNil))) mNil)))
  (mFor (gN 3) (mItems (mTup (mCons (mC (.int 1)) (mCons (mC (.int 2)) (mCons (mC (.int 3)) mNil))))) (mSeq (mSet 4 (mCall f__law_sparse [] (mCons (mVar 2) mNil)))
  (mSeq (mSet 5 (mTup (mCons (mVar 4) (mCons (mBin fAdd (mC (.int 1)) (mCall f__law_draw [] (mCons (mVar 2) (mCons (mBin fSub (m1 fLen (mVar 4)) (mC (.int 1))) mNil)))) (mCons (mBin fAdd (mC (.int 1)) (mCall f__law_draw [] (mCons (mVar 2) (mCons (mC (.int 2)) mNil)))) (mCons (mBin fAdd (mC (.int 1)) (mCall f__law_draw [] (mCons (mVar 2) (mCons (mC (.int 2)) mNil)))) (mCons (mVar 3) mNil)))))))
  (mSeq (mSet 6 (mCall f__law_built [] (mCons (mVar 5) mNil)))
  (mSeq (mIf (mNotT (mT (mCall f__law_steps_right [] (mCons (mVar 6) (mCons (mVar 5) mNil))))) (mRet (mC (.bool false))) mSkip)
  (mFor (gN 7) (mRng1 (mC (.int 4))) (mIf (mNotT (mT (mCall f__law_idle_right [] (mCons (mVar 2) (mCons (mVar 6) (mCons (mVar 5) mNil)))))) (mRet (mC (.bool false))) mSkip)))))))))
  (mRet (mC (.bool true))))
def f_law : Fn := mkFn 1 8 m_law
theorem b_law {g : Gs}  (d__law_pen : Def g 1 "_law_pen" [] f__law_pen) (d__law_cell_at : Def g 1 "_law_cell_at" [] f__law_cell_at) (d__law_sparse : Def g 3 "_law_sparse" [] f__law_sparse) (d__law_draw : Def g 1 "_law_draw" [] f__law_draw) (d__law_built : Def g 8 "_law_built" [] f__law_built) (d__law_steps_right : DefG g 7 "_law_steps_right" [] f__law_steps_right) (d__law_idle_right : DefG g 7 "_law_idle_right" [] f__law_idle_right) : ∀ (E : XK) (w0 : Wd) (H0 : Hp) (X : Cx), OkG g E 8 X → PassesOwn (model X.prog X.w) X.A X.env X.xe → Takes X (fun cls d _ H => E cls d H) → X.N = n_law → X.env.scope = defScope (t_law) → X.fn = (fun _ => true) → SndB g E w0 H0 X (defBody (t_law)) m_law := by
  intro E w0 H0 X cg po tk hN hs hf
  obtain ⟨prog, w', K, mg, base, A, N, s_0, H_0, ⟨e1, e2, e3, e4, e5, e6, e7, e8, e9⟩, outer, stack, ex, fn, calm, pn, xe⟩ := X
  simp only at hN hs hf
  subst hN hs hf
  have c := cg.toOkC
  have nd : (n_law).Nodup := by decide +kernel
  exact (b_cons (z_for c.toOk po (i_rng1 c.toOk (nbg c.toOk "range") (q_max2 c.toOk s_int (q_min2 c.toOk (q_len c.toOk (s_var (i := 0))) s_int))) (g_name (i := 1) nd) (b_cons (z_set (i := 2) nd (s_call c d__law_pen (by decide) (a_cons (s_call c d__law_cell_at (by decide) (a_cons (s_var (i := 0)) (a_cons (s_var (i := 1)) a_nil))) a_nil)))
  (b_one (z_for c.toOk po (i_seq c.toOk (s_tup (a_cons s_int (a_cons s_int (a_cons s_int a_nil))))) (g_name (i := 3) nd) (b_cons (z_set (i := 4) nd (s_call c d__law_sparse (by decide) (a_cons (s_var (i := 2)) a_nil)))
  (b_cons (z_set (i := 5) nd (s_tup (a_cons (s_var (i := 4)) (a_cons (s_add c.toOk s_int (s_call c d__law_draw (by decide) (a_cons (s_var (i := 2)) (a_cons (s_sub (q_len c.toOk (s_var (i := 4))) s_int) a_nil)))) (a_cons (s_add c.toOk s_int (s_call c d__law_draw (by decide) (a_cons (s_var (i := 2)) (a_cons s_int a_nil)))) (a_cons (s_add c.toOk s_int (s_call c d__law_draw (by decide) (a_cons (s_var (i := 2)) (a_cons s_int a_nil)))) (a_cons (s_var (i := 3)) a_nil)))))))
  (b_cons (z_set (i := 6) nd (s_call c d__law_built (by decide) (a_cons (s_var (i := 5)) a_nil)))
  (b_cons (z_if (t_not (t_val c.toOk (s_callG cg d__law_steps_right (by decide) (a_cons (s_var (i := 6)) (a_cons (s_var (i := 5)) a_nil))))) (b_one (z_ret s_bool)) b_nil)
  (b_one (z_for c.toOk po (i_rng1 c.toOk (nbg c.toOk "range") s_int) (g_name (i := 7) nd) (b_one (z_if (t_not (t_val c.toOk (s_callG cg d__law_idle_right (by decide) (a_cons (s_var (i := 2)) (a_cons (s_var (i := 6)) (a_cons (s_var (i := 5)) a_nil)))))) (b_one (z_ret s_bool)) b_nil))))))))))))
  (b_one (z_ret s_bool)))
set_option maxHeartbeats 0 in
theorem all_mk {l : PySem.W.OpenLaw} {w : World} {K : PySem.W.Frag} {h : Heap} {mg : Str → Option Value} {fa : Addr} {C0 : Addr} {C1 : Addr} {ad_SIGNS : Addr} {u0_SIGNS : Tok} {u1_SIGNS : Tok} {ep_SIGNS : Nat} {sl_SIGNS : Array (Option Value)} {uG_NO_WORD : Tok} {uG_FEWEST_VALUES : Tok} {uG_MOST_VALUES : Tok} {uG_MOST_BITS : Tok} {uG_MOST_LATE : Tok} {uG_MOST_SLOW : Tok} {uG_NO_BEAT : Tok} {uG_WISH : Tok} {uG_FULL : Tok} {uG_EMPTY : Tok} {f__law_pen_ : Addr} {od_law_pen an_law_pen : Option Addr} {sl_law_pen : Array (Option Value)} {oc_law_pen kV_law_pen dc_law_pen pm_law_pen cd_law_pen ct_law_pen : Value} {f__law_cell_at_ : Addr} {od_law_cell_at an_law_cell_at : Option Addr} {sl_law_cell_at : Array (Option Value)} {oc_law_cell_at kV_law_cell_at dc_law_cell_at pm_law_cell_at cd_law_cell_at ct_law_cell_at : Value} {f__law_draw_ : Addr} {od_law_draw an_law_draw : Option Addr} {sl_law_draw : Array (Option Value)} {oc_law_draw kV_law_draw dc_law_draw pm_law_draw cd_law_draw ct_law_draw : Value} {f__law_mixed_ : Addr} {od_law_mixed an_law_mixed : Option Addr} {sl_law_mixed : Array (Option Value)} {oc_law_mixed kV_law_mixed dc_law_mixed pm_law_mixed cd_law_mixed ct_law_mixed : Value} {f__law_all_words_ : Addr} {od_law_all_words an_law_all_words : Option Addr} {sl_law_all_words : Array (Option Value)} {oc_law_all_words kV_law_all_words dc_law_all_words pm_law_all_words cd_law_all_words ct_law_all_words : Value} {f__law_sparse_ : Addr} {od_law_sparse an_law_sparse : Option Addr} {sl_law_sparse : Array (Option Value)} {oc_law_sparse kV_law_sparse dc_law_sparse pm_law_sparse cd_law_sparse ct_law_sparse : Value} {f_word_in_ : Addr} {odword_in anword_in : Option Addr} {slword_in : Array (Option Value)} {ocword_in kVword_in dcword_in pmword_in cdword_in ctword_in : Value} {f_is_between_ : Addr} {odis_between anis_between : Option Addr} {slis_between : Array (Option Value)} {ocis_between kVis_between dcis_between pmis_between cdis_between ctis_between : Value} {f_are_bits_ : Addr} {odare_bits anare_bits : Option Addr} {slare_bits : Array (Option Value)} {ocare_bits kVare_bits dcare_bits pmare_bits cdare_bits ctare_bits : Value} {f_are_words_ : Addr} {odare_words anare_words : Option Addr} {slare_words : Array (Option Value)} {ocare_words kVare_words dcare_words pmare_words cdare_words ctare_words : Value} {f_CodeX_initX_ : Addr} {odCodeX_initX anCodeX_initX : Option Addr} {slCodeX_initX : Array (Option Value)} {ocCodeX_initX kVCodeX_initX dcCodeX_initX pmCodeX_initX cdCodeX_initX ctCodeX_initX : Value} {f_Code_read_ : Addr} {odCode_read anCode_read : Option Addr} {slCode_read : Array (Option Value)} {ocCode_read kVCode_read dcCode_read pmCode_read cdCode_read ctCode_read : Value} {pCode_read : Addr} {rsCode_read : List Value} {f__law_coded_ : Addr} {od_law_coded an_law_coded : Option Addr} {sl_law_coded : Array (Option Value)} {oc_law_coded kV_law_coded dc_law_coded pm_law_coded cd_law_coded ct_law_coded : Value} {f_need_code_ : Addr} {odneed_code anneed_code : Option Addr} {slneed_code : Array (Option Value)} {ocneed_code kVneed_code dcneed_code pmneed_code cdneed_code ctneed_code : Value} {f_CodeX_lenX_ : Addr} {odCodeX_lenX anCodeX_lenX : Option Addr} {slCodeX_lenX : Array (Option Value)} {ocCodeX_lenX kVCodeX_lenX dcCodeX_lenX pmCodeX_lenX cdCodeX_lenX ctCodeX_lenX : Value} {f_window_of_ : Addr} {odwindow_of anwindow_of : Option Addr} {slwindow_of : Array (Option Value)} {ocwindow_of kVwindow_of dcwindow_of pmwindow_of cdwindow_of ctwindow_of : Value} {f_Code_words_ : Addr} {odCode_words anCode_words : Option Addr} {slCode_words : Array (Option Value)} {ocCode_words kVCode_words dcCode_words pmCode_words cdCode_words ctCode_words : Value} {pCode_words : Addr} {rsCode_words : List Value} {f_Code_bits_ : Addr} {odCode_bits anCode_bits : Option Addr} {slCode_bits : Array (Option Value)} {ocCode_bits kVCode_bits dcCode_bits pmCode_bits cdCode_bits ctCode_bits : Value} {pCode_bits : Addr} {rsCode_bits : List Value} {f_readings_in_ : Addr} {odreadings_in anreadings_in : Option Addr} {slreadings_in : Array (Option Value)} {ocreadings_in kVreadings_in dcreadings_in pmreadings_in cdreadings_in ctreadings_in : Value} {f_CodeX_getitemX_ : Addr} {odCodeX_getitemX anCodeX_getitemX : Option Addr} {slCodeX_getitemX : Array (Option Value)} {ocCodeX_getitemX kVCodeX_getitemX dcCodeX_getitemX pmCodeX_getitemX cdCodeX_getitemX ctCodeX_getitemX : Value} {f_values_in_ : Addr} {odvalues_in anvalues_in : Option Addr} {slvalues_in : Array (Option Value)} {ocvalues_in kVvalues_in dcvalues_in pmvalues_in cdvalues_in ctvalues_in : Value} {f_BridgeX_initX_ : Addr} {odBridgeX_initX anBridgeX_initX : Option Addr} {slBridgeX_initX : Array (Option Value)} {ocBridgeX_initX kVBridgeX_initX dcBridgeX_initX pmBridgeX_initX cdBridgeX_initX ctBridgeX_initX : Value} {dTBridgeX_initX : Addr} {du0BridgeX_initX : Tok} {depBridgeX_initX : Nat} {dslBridgeX_initX : Array (Option Value)} {f__law_built_ : Addr} {od_law_built an_law_built : Option Addr} {sl_law_built : Array (Option Value)} {oc_law_built kV_law_built dc_law_built pm_law_built cd_law_built ct_law_built : Value} {f__law_same_ : Addr} {od_law_same an_law_same : Option Addr} {sl_law_same : Array (Option Value)} {oc_law_same kV_law_same dc_law_same pm_law_same cd_law_same ct_law_same : Value} {f__law_seen_ : Addr} {od_law_seen an_law_seen : Option Addr} {sl_law_seen : Array (Option Value)} {oc_law_seen kV_law_seen dc_law_seen pm_law_seen cd_law_seen ct_law_seen : Value} {f_are_numbers_ : Addr} {odare_numbers anare_numbers : Option Addr} {slare_numbers : Array (Option Value)} {ocare_numbers kVare_numbers dcare_numbers pmare_numbers cdare_numbers ctare_numbers : Value} {f_Bridge_code_ : Addr} {odBridge_code anBridge_code : Option Addr} {slBridge_code : Array (Option Value)} {ocBridge_code kVBridge_code dcBridge_code pmBridge_code cdBridge_code ctBridge_code : Value} {pBridge_code : Addr} {rsBridge_code : List Value} {f_Bridge_slow_ : Addr} {odBridge_slow anBridge_slow : Option Addr} {slBridge_slow : Array (Option Value)} {ocBridge_slow kVBridge_slow dcBridge_slow pmBridge_slow cdBridge_slow ctBridge_slow : Value} {pBridge_slow : Addr} {rsBridge_slow : List Value} {f_Bridge_ahead_ : Addr} {odBridge_ahead anBridge_ahead : Option Addr} {slBridge_ahead : Array (Option Value)} {ocBridge_ahead kVBridge_ahead dcBridge_ahead pmBridge_ahead cdBridge_ahead ctBridge_ahead : Value} {pBridge_ahead : Addr} {rsBridge_ahead : List Value} {f_Bridge_behind_ : Addr} {odBridge_behind anBridge_behind : Option Addr} {slBridge_behind : Array (Option Value)} {ocBridge_behind kVBridge_behind dcBridge_behind pmBridge_behind cdBridge_behind ctBridge_behind : Value} {pBridge_behind : Addr} {rsBridge_behind : List Value} {f_is_state_in_ : Addr} {odis_state_in anis_state_in : Option Addr} {slis_state_in : Array (Option Value)} {ocis_state_in kVis_state_in dcis_state_in pmis_state_in cdis_state_in ctis_state_in : Value} {f_need_state_ : Addr} {odneed_state anneed_state : Option Addr} {slneed_state : Array (Option Value)} {ocneed_state kVneed_state dcneed_state pmneed_state cdneed_state ctneed_state : Value} {f_is_beat_ : Addr} {odis_beat anis_beat : Option Addr} {slis_beat : Array (Option Value)} {ocis_beat kVis_beat dcis_beat pmis_beat cdis_beat ctis_beat : Value} {f_need_beat_ : Addr} {odneed_beat anneed_beat : Option Addr} {slneed_beat : Array (Option Value)} {ocneed_beat kVneed_beat dcneed_beat pmneed_beat cdneed_beat ctneed_beat : Value} {f_Bridge_depth_ : Addr} {odBridge_depth anBridge_depth : Option Addr} {slBridge_depth : Array (Option Value)} {ocBridge_depth kVBridge_depth dcBridge_depth pmBridge_depth cdBridge_depth ctBridge_depth : Value} {pBridge_depth : Addr} {rsBridge_depth : List Value} {f_puts_in_ : Addr} {odputs_in anputs_in : Option Addr} {slputs_in : Array (Option Value)} {ocputs_in kVputs_in dcputs_in pmputs_in cdputs_in ctputs_in : Value} {f_takes_in_ : Addr} {odtakes_in antakes_in : Option Addr} {sltakes_in : Array (Option Value)} {octakes_in kVtakes_in dctakes_in pmtakes_in cdtakes_in cttakes_in : Value} {f_moves_in_ : Addr} {odmoves_in anmoves_in : Option Addr} {slmoves_in : Array (Option Value)} {ocmoves_in kVmoves_in dcmoves_in pmmoves_in cdmoves_in ctmoves_in : Value} {f_read_of_ : Addr} {odread_of anread_of : Option Addr} {slread_of : Array (Option Value)} {ocread_of kVread_of dcread_of pmread_of cdread_of ctread_of : Value} {f_looks_in_ : Addr} {odlooks_in anlooks_in : Option Addr} {sllooks_in : Array (Option Value)} {oclooks_in kVlooks_in dclooks_in pmlooks_in cdlooks_in ctlooks_in : Value} {f_glances_in_ : Addr} {odglances_in anglances_in : Option Addr} {slglances_in : Array (Option Value)} {ocglances_in kVglances_in dcglances_in pmglances_in cdglances_in ctglances_in : Value} {f_behind_in_ : Addr} {odbehind_in anbehind_in : Option Addr} {slbehind_in : Array (Option Value)} {ocbehind_in kVbehind_in dcbehind_in pmbehind_in cdbehind_in ctbehind_in : Value} {f_next_in_ : Addr} {odnext_in annext_in : Option Addr} {slnext_in : Array (Option Value)} {ocnext_in kVnext_in dcnext_in pmnext_in cdnext_in ctnext_in : Value} {f_BridgeX_callX_ : Addr} {odBridgeX_callX anBridgeX_callX : Option Addr} {slBridgeX_callX : Array (Option Value)} {ocBridgeX_callX kVBridgeX_callX dcBridgeX_callX pmBridgeX_callX cdBridgeX_callX ctBridgeX_callX : Value} {f__law_steps_right_ : Addr} {od_law_steps_right an_law_steps_right : Option Addr} {sl_law_steps_right : Array (Option Value)} {oc_law_steps_right kV_law_steps_right dc_law_steps_right pm_law_steps_right cd_law_steps_right ct_law_steps_right : Value} {f__law_formed_ : Addr} {od_law_formed an_law_formed : Option Addr} {sl_law_formed : Array (Option Value)} {oc_law_formed kV_law_formed dc_law_formed pm_law_formed cd_law_formed ct_law_formed : Value} {f__law_pulses_ : Addr} {od_law_pulses an_law_pulses : Option Addr} {sl_law_pulses : Array (Option Value)} {oc_law_pulses kV_law_pulses dc_law_pulses pm_law_pulses cd_law_pulses ct_law_pulses : Value} {f__law_moves_ : Addr} {od_law_moves an_law_moves : Option Addr} {sl_law_moves : Array (Option Value)} {oc_law_moves kV_law_moves dc_law_moves pm_law_moves cd_law_moves ct_law_moves : Value} {f__law_fronts_ : Addr} {od_law_fronts an_law_fronts : Option Addr} {sl_law_fronts : Array (Option Value)} {oc_law_fronts kV_law_fronts dc_law_fronts pm_law_fronts cd_law_fronts ct_law_fronts : Value} {f__law_next_ : Addr} {od_law_next an_law_next : Option Addr} {sl_law_next : Array (Option Value)} {oc_law_next kV_law_next dc_law_next pm_law_next cd_law_next ct_law_next : Value} {f__law_idle_right_ : Addr} {od_law_idle_right an_law_idle_right : Option Addr} {sl_law_idle_right : Array (Option Value)} {oc_law_idle_right kV_law_idle_right dc_law_idle_right pm_law_idle_right cd_law_idle_right ct_law_idle_right : Value} {f_law_ : Addr} {odlaw anlaw : Option Addr} {sllaw : Array (Option Value)} {oclaw kVlaw dclaw pmlaw cdlaw ctlaw : Value} (X : K.In h) (G : h.Ns mainGlobals mg) (hfa : mg "law" = some (.ref fa))
    (aC0 : PySem.W.nsIn K mainGlobals "Code" = some (some (.ref C0)))
    (pgC0 : PySem.W.plainGet K C0 Str.empty = true)
    (hdC0 : PySem.W.hasDictIn K C0 = true)
    (poC0 : PySem.W.plainOver K C0 = true)
    (saC0 : PySem.W.findIn K (.ref C0) "__setattr__" = some (some (.builtin "object.__setattr__")))
    (mkC0 : PySem.W.makesIn K C0 = true)
    (kcC0 : PySem.W.keepIn K (.ref C0) = true)
    (n0C0 : PySem.W.findIn K (.ref C0) "row" = some none)
    (n1C0 : PySem.W.findIn K (.ref C0) "known" = some none)
    (dcC0 : PySem.W.findIn K (.ref C0) "__class__" = some (some (.builtin "object.__class__")))
    (moC0 : PySem.W.mroIn K C0 (.type "object") = some true)
    (bintC0 : PySem.W.mroIn K C0 (.type "int") = some false)
    (bboolC0 : PySem.W.mroIn K C0 (.type "bool") = some false)
    (btupleC0 : PySem.W.mroIn K C0 (.type "tuple") = some false)
    (bstrC0 : PySem.W.mroIn K C0 (.type "str") = some false)
    (blistC0 : PySem.W.mroIn K C0 (.type "list") = some false)
    (icC0 : PySem.W.isClsIn K C0 = true)
    (tyC0 : PySem.W.typeIn K (.ref C0) = some (.type "type"))
    (aC1 : PySem.W.nsIn K mainGlobals "Bridge" = some (some (.ref C1)))
    (pgC1 : PySem.W.plainGet K C1 Str.empty = true)
    (hdC1 : PySem.W.hasDictIn K C1 = true)
    (poC1 : PySem.W.plainOver K C1 = true)
    (saC1 : PySem.W.findIn K (.ref C1) "__setattr__" = some (some (.builtin "object.__setattr__")))
    (mkC1 : PySem.W.makesIn K C1 = true)
    (kcC1 : PySem.W.keepIn K (.ref C1) = true)
    (n0C1 : PySem.W.findIn K (.ref C1) "own" = some none)
    (n1C1 : PySem.W.findIn K (.ref C1) "seen" = some none)
    (dcC1 : PySem.W.findIn K (.ref C1) "__class__" = some (some (.builtin "object.__class__")))
    (moC1 : PySem.W.mroIn K C1 (.type "object") = some true)
    (bintC1 : PySem.W.mroIn K C1 (.type "int") = some false)
    (bboolC1 : PySem.W.mroIn K C1 (.type "bool") = some false)
    (btupleC1 : PySem.W.mroIn K C1 (.type "tuple") = some false)
    (bstrC1 : PySem.W.mroIn K C1 (.type "str") = some false)
    (blistC1 : PySem.W.mroIn K C1 (.type "list") = some false)
    (icC1 : PySem.W.isClsIn K C1 = true)
    (tyC1 : PySem.W.typeIn K (.ref C1) = some (.type "type"))
    (mm00 : PySem.W.mroIn K C0 (.ref C0) = some true)
    (mm01 : PySem.W.mroIn K C0 (.ref C1) = some false)
    (mm10 : PySem.W.mroIn K C1 (.ref C0) = some false)
    (mm11 : PySem.W.mroIn K C1 (.ref C1) = some true)
    (hn : PySem.W.specialIn K (.builtin "object.__class__") "__get__" = some (some (.builtin "getset_descriptor.__get__")))
    (htk : PySem.W.takesIn K (.builtin "object.__class__") = some true)
    (zlen : PySem.W.nsIn K mainGlobals "len" = some none)
    (zrange : PySem.W.nsIn K mainGlobals "range" = some none)
    (zisinstance : PySem.W.nsIn K mainGlobals "isinstance" = some none)
    (ztuple : PySem.W.nsIn K mainGlobals "tuple" = some none)
    (zlist : PySem.W.nsIn K mainGlobals "list" = some none)
    (zall : PySem.W.nsIn K mainGlobals "all" = some none)
    (zany : PySem.W.nsIn K mainGlobals "any" = some none)
    (zmax : PySem.W.nsIn K mainGlobals "max" = some none)
    (zmin : PySem.W.nsIn K mainGlobals "min" = some none)
    (zset : PySem.W.nsIn K mainGlobals "set" = some none)
    (zsorted : PySem.W.nsIn K mainGlobals "sorted" = some none)
    (zenumerate : PySem.W.nsIn K mainGlobals "enumerate" = some none)
    (zzip : PySem.W.nsIn K mainGlobals "zip" = some none)
    (zrepr : PySem.W.nsIn K mainGlobals "repr" = some none)
    (zstr : PySem.W.nsIn K mainGlobals "str" = some none)
    (zint : PySem.W.nsIn K mainGlobals "int" = some none)
    (zsum : PySem.W.nsIn K mainGlobals "sum" = some none)
    (zdict : PySem.W.nsIn K mainGlobals "dict" = some none)
    (zbool : PySem.W.nsIn K mainGlobals "bool" = some none)
    (v_SIGNS : PySem.W.nsIn K mainGlobals "SIGNS" = some (some (.ref ad_SIGNS)))
    (w_SIGNS : K.lookup ad_SIGNS = some ⟨.type "tuple", none, .seq #[.str (Str.ofString "0") u0_SIGNS, .str (Str.ofString "1") u1_SIGNS] ep_SIGNS, sl_SIGNS⟩)
    (vG_NO_WORD : PySem.W.nsIn K mainGlobals "NO_WORD" = some (some (.int (-1) uG_NO_WORD)))
    (vG_FEWEST_VALUES : PySem.W.nsIn K mainGlobals "FEWEST_VALUES" = some (some (.int (2) uG_FEWEST_VALUES)))
    (vG_MOST_VALUES : PySem.W.nsIn K mainGlobals "MOST_VALUES" = some (some (.int (16) uG_MOST_VALUES)))
    (vG_MOST_BITS : PySem.W.nsIn K mainGlobals "MOST_BITS" = some (some (.int (5) uG_MOST_BITS)))
    (vG_MOST_LATE : PySem.W.nsIn K mainGlobals "MOST_LATE" = some (some (.int (3) uG_MOST_LATE)))
    (vG_MOST_SLOW : PySem.W.nsIn K mainGlobals "MOST_SLOW" = some (some (.int (3) uG_MOST_SLOW)))
    (vG_NO_BEAT : PySem.W.nsIn K mainGlobals "NO_BEAT" = some (some (.int (0) uG_NO_BEAT)))
    (vG_WISH : PySem.W.nsIn K mainGlobals "WISH" = some (some (.int (2) uG_WISH)))
    (vG_FULL : PySem.W.nsIn K mainGlobals "FULL" = some (some (.str (Str.ofString "full") uG_FULL)))
    (vG_EMPTY : PySem.W.nsIn K mainGlobals "EMPTY" = some (some (.str (Str.ofString "empty") uG_EMPTY)))
    (a_law_pen : PySem.W.nsIn K mainGlobals "_law_pen" = some (some (.ref f__law_pen_)))
    (l_law_pen : K.lookup f__law_pen_ = some ⟨oc_law_pen, od_law_pen, .func (PySem.W.fnOf "_law_pen" "_law_pen" (defArgs t__law_pen) (defBody t__law_pen) (defScope t__law_pen) .none kV_law_pen dc_law_pen pm_law_pen an_law_pen cd_law_pen ct_law_pen), sl_law_pen⟩)
    (c_law_pen : PySem.W.codeIn K cd_law_pen "_law_pen" = true)
    (k_law_pen : PySem.W.keepIn K (.ref f__law_pen_) = true)
    (a_law_cell_at : PySem.W.nsIn K mainGlobals "_law_cell_at" = some (some (.ref f__law_cell_at_)))
    (l_law_cell_at : K.lookup f__law_cell_at_ = some ⟨oc_law_cell_at, od_law_cell_at, .func (PySem.W.fnOf "_law_cell_at" "_law_cell_at" (defArgs t__law_cell_at) (defBody t__law_cell_at) (defScope t__law_cell_at) .none kV_law_cell_at dc_law_cell_at pm_law_cell_at an_law_cell_at cd_law_cell_at ct_law_cell_at), sl_law_cell_at⟩)
    (c_law_cell_at : PySem.W.codeIn K cd_law_cell_at "_law_cell_at" = true)
    (k_law_cell_at : PySem.W.keepIn K (.ref f__law_cell_at_) = true)
    (a_law_draw : PySem.W.nsIn K mainGlobals "_law_draw" = some (some (.ref f__law_draw_)))
    (l_law_draw : K.lookup f__law_draw_ = some ⟨oc_law_draw, od_law_draw, .func (PySem.W.fnOf "_law_draw" "_law_draw" (defArgs t__law_draw) (defBody t__law_draw) (defScope t__law_draw) .none kV_law_draw dc_law_draw pm_law_draw an_law_draw cd_law_draw ct_law_draw), sl_law_draw⟩)
    (c_law_draw : PySem.W.codeIn K cd_law_draw "_law_draw" = true)
    (k_law_draw : PySem.W.keepIn K (.ref f__law_draw_) = true)
    (a_law_mixed : PySem.W.nsIn K mainGlobals "_law_mixed" = some (some (.ref f__law_mixed_)))
    (l_law_mixed : K.lookup f__law_mixed_ = some ⟨oc_law_mixed, od_law_mixed, .func (PySem.W.fnOf "_law_mixed" "_law_mixed" (defArgs t__law_mixed) (defBody t__law_mixed) (defScope t__law_mixed) .none kV_law_mixed dc_law_mixed pm_law_mixed an_law_mixed cd_law_mixed ct_law_mixed), sl_law_mixed⟩)
    (c_law_mixed : PySem.W.codeIn K cd_law_mixed "_law_mixed" = true)
    (k_law_mixed : PySem.W.keepIn K (.ref f__law_mixed_) = true)
    (a_law_all_words : PySem.W.nsIn K mainGlobals "_law_all_words" = some (some (.ref f__law_all_words_)))
    (l_law_all_words : K.lookup f__law_all_words_ = some ⟨oc_law_all_words, od_law_all_words, .func (PySem.W.fnOf "_law_all_words" "_law_all_words" (defArgs t__law_all_words) (defBody t__law_all_words) (defScope t__law_all_words) .none kV_law_all_words dc_law_all_words pm_law_all_words an_law_all_words cd_law_all_words ct_law_all_words), sl_law_all_words⟩)
    (c_law_all_words : PySem.W.codeIn K cd_law_all_words "_law_all_words" = true)
    (k_law_all_words : PySem.W.keepIn K (.ref f__law_all_words_) = true)
    (a_law_sparse : PySem.W.nsIn K mainGlobals "_law_sparse" = some (some (.ref f__law_sparse_)))
    (l_law_sparse : K.lookup f__law_sparse_ = some ⟨oc_law_sparse, od_law_sparse, .func (PySem.W.fnOf "_law_sparse" "_law_sparse" (defArgs t__law_sparse) (defBody t__law_sparse) (defScope t__law_sparse) .none kV_law_sparse dc_law_sparse pm_law_sparse an_law_sparse cd_law_sparse ct_law_sparse), sl_law_sparse⟩)
    (c_law_sparse : PySem.W.codeIn K cd_law_sparse "_law_sparse" = true)
    (k_law_sparse : PySem.W.keepIn K (.ref f__law_sparse_) = true)
    (aword_in : PySem.W.nsIn K mainGlobals "word_in" = some (some (.ref f_word_in_)))
    (lword_in : K.lookup f_word_in_ = some ⟨ocword_in, odword_in, .func (PySem.W.fnOf "word_in" "word_in" (defArgs t_word_in) (defBody t_word_in) (defScope t_word_in) .none kVword_in dcword_in pmword_in anword_in cdword_in ctword_in), slword_in⟩)
    (cword_in : PySem.W.codeIn K cdword_in "word_in" = true)
    (kword_in : PySem.W.keepIn K (.ref f_word_in_) = true)
    (ais_between : PySem.W.nsIn K mainGlobals "is_between" = some (some (.ref f_is_between_)))
    (lis_between : K.lookup f_is_between_ = some ⟨ocis_between, odis_between, .func (PySem.W.fnOf "is_between" "is_between" (defArgs t_is_between) (defBody t_is_between) (defScope t_is_between) .none kVis_between dcis_between pmis_between anis_between cdis_between ctis_between), slis_between⟩)
    (cis_between : PySem.W.codeIn K cdis_between "is_between" = true)
    (kis_between : PySem.W.keepIn K (.ref f_is_between_) = true)
    (aare_bits : PySem.W.nsIn K mainGlobals "are_bits" = some (some (.ref f_are_bits_)))
    (lare_bits : K.lookup f_are_bits_ = some ⟨ocare_bits, odare_bits, .func (PySem.W.fnOf "are_bits" "are_bits" (defArgs t_are_bits) (defBody t_are_bits) (defScope t_are_bits) .none kVare_bits dcare_bits pmare_bits anare_bits cdare_bits ctare_bits), slare_bits⟩)
    (care_bits : PySem.W.codeIn K cdare_bits "are_bits" = true)
    (kare_bits : PySem.W.keepIn K (.ref f_are_bits_) = true)
    (aare_words : PySem.W.nsIn K mainGlobals "are_words" = some (some (.ref f_are_words_)))
    (lare_words : K.lookup f_are_words_ = some ⟨ocare_words, odare_words, .func (PySem.W.fnOf "are_words" "are_words" (defArgs t_are_words) (defBody t_are_words) (defScope t_are_words) .none kVare_words dcare_words pmare_words anare_words cdare_words ctare_words), slare_words⟩)
    (care_words : PySem.W.codeIn K cdare_words "are_words" = true)
    (kare_words : PySem.W.keepIn K (.ref f_are_words_) = true)
    (aCodeX_initX : PySem.W.findIn K (.ref C0) "__init__" = some (some (.ref f_CodeX_initX_)))
    (iCodeX_initX : PySem.W.isFn K (.ref f_CodeX_initX_) = true)
    (lCodeX_initX : K.lookup f_CodeX_initX_ = some ⟨ocCodeX_initX, odCodeX_initX, .func (PySem.W.fnOf "__init__" "Code.__init__" (defArgs t_CodeX_initX) (defBody t_CodeX_initX) (defScope t_CodeX_initX) .none kVCodeX_initX dcCodeX_initX pmCodeX_initX anCodeX_initX cdCodeX_initX ctCodeX_initX), slCodeX_initX⟩)
    (cCodeX_initX : PySem.W.codeIn K cdCodeX_initX "Code.__init__" = true)
    (kCodeX_initX : PySem.W.keepIn K (.ref f_CodeX_initX_) = true)
    (rdCode_read : PySem.W.readsIn K C0 (.type "type") = true)
    (gaCode_read : PySem.W.specialIn K (.ref C0) "__getattribute__" = some (some (.builtin "type.__getattribute__")))
    (aCode_read : PySem.W.findCls K (.ref C0) (.type "type") "read" = some (.get (.builtin "classmethod.__get__") (.ref pCode_read) .none (.ref C0)))
    (rCode_read : PySem.W.recIn K pCode_read "classmethod" = some (.ref f_Code_read_ :: rsCode_read))
    (iCode_read : PySem.W.fnIn K f_Code_read_ = true)
    (lCode_read : K.lookup f_Code_read_ = some ⟨ocCode_read, odCode_read, .func (PySem.W.fnOf "read" "Code.read" (defArgs t_Code_read) (defBody t_Code_read) (defScope t_Code_read) .none kVCode_read dcCode_read pmCode_read anCode_read cdCode_read ctCode_read), slCode_read⟩)
    (cCode_read : PySem.W.codeIn K cdCode_read "Code.read" = true)
    (kCode_read : PySem.W.keepIn K (.ref f_Code_read_) = true)
    (a_law_coded : PySem.W.nsIn K mainGlobals "_law_coded" = some (some (.ref f__law_coded_)))
    (l_law_coded : K.lookup f__law_coded_ = some ⟨oc_law_coded, od_law_coded, .func (PySem.W.fnOf "_law_coded" "_law_coded" (defArgs t__law_coded) (defBody t__law_coded) (defScope t__law_coded) .none kV_law_coded dc_law_coded pm_law_coded an_law_coded cd_law_coded ct_law_coded), sl_law_coded⟩)
    (c_law_coded : PySem.W.codeIn K cd_law_coded "_law_coded" = true)
    (k_law_coded : PySem.W.keepIn K (.ref f__law_coded_) = true)
    (aneed_code : PySem.W.nsIn K mainGlobals "need_code" = some (some (.ref f_need_code_)))
    (lneed_code : K.lookup f_need_code_ = some ⟨ocneed_code, odneed_code, .func (PySem.W.fnOf "need_code" "need_code" (defArgs t_need_code) (defBody t_need_code) (defScope t_need_code) .none kVneed_code dcneed_code pmneed_code anneed_code cdneed_code ctneed_code), slneed_code⟩)
    (cneed_code : PySem.W.codeIn K cdneed_code "need_code" = true)
    (kneed_code : PySem.W.keepIn K (.ref f_need_code_) = true)
    (aCodeX_lenX : PySem.W.findIn K (.ref C0) "__len__" = some (some (.ref f_CodeX_lenX_)))
    (iCodeX_lenX : PySem.W.isFn K (.ref f_CodeX_lenX_) = true)
    (lCodeX_lenX : K.lookup f_CodeX_lenX_ = some ⟨ocCodeX_lenX, odCodeX_lenX, .func (PySem.W.fnOf "__len__" "Code.__len__" (defArgs t_CodeX_lenX) (defBody t_CodeX_lenX) (defScope t_CodeX_lenX) .none kVCodeX_lenX dcCodeX_lenX pmCodeX_lenX anCodeX_lenX cdCodeX_lenX ctCodeX_lenX), slCodeX_lenX⟩)
    (cCodeX_lenX : PySem.W.codeIn K cdCodeX_lenX "Code.__len__" = true)
    (kCodeX_lenX : PySem.W.keepIn K (.ref f_CodeX_lenX_) = true)
    (awindow_of : PySem.W.nsIn K mainGlobals "window_of" = some (some (.ref f_window_of_)))
    (lwindow_of : K.lookup f_window_of_ = some ⟨ocwindow_of, odwindow_of, .func (PySem.W.fnOf "window_of" "window_of" (defArgs t_window_of) (defBody t_window_of) (defScope t_window_of) .none kVwindow_of dcwindow_of pmwindow_of anwindow_of cdwindow_of ctwindow_of), slwindow_of⟩)
    (cwindow_of : PySem.W.codeIn K cdwindow_of "window_of" = true)
    (kwindow_of : PySem.W.keepIn K (.ref f_window_of_) = true)
    (aCode_words : PySem.W.findIn K (.ref C0) "words" = some (some (.ref pCode_words)))
    (gCode_words : PySem.W.specialIn K (.ref pCode_words) "__get__" = some (some (.builtin "property.__get__")))
    (tCode_words : PySem.W.takesIn K (.ref pCode_words) = some true)
    (rCode_words : PySem.W.recIn K pCode_words "property" = some (.ref f_Code_words_ :: rsCode_words))
    (lCode_words : K.lookup f_Code_words_ = some ⟨ocCode_words, odCode_words, .func (PySem.W.fnOf "words" "Code.words" (defArgs t_Code_words) (defBody t_Code_words) (defScope t_Code_words) .none kVCode_words dcCode_words pmCode_words anCode_words cdCode_words ctCode_words), slCode_words⟩)
    (cCode_words : PySem.W.codeIn K cdCode_words "Code.words" = true)
    (kCode_words : PySem.W.keepIn K (.ref f_Code_words_) = true)
    (aCode_bits : PySem.W.findIn K (.ref C0) "bits" = some (some (.ref pCode_bits)))
    (gCode_bits : PySem.W.specialIn K (.ref pCode_bits) "__get__" = some (some (.builtin "property.__get__")))
    (tCode_bits : PySem.W.takesIn K (.ref pCode_bits) = some true)
    (rCode_bits : PySem.W.recIn K pCode_bits "property" = some (.ref f_Code_bits_ :: rsCode_bits))
    (lCode_bits : K.lookup f_Code_bits_ = some ⟨ocCode_bits, odCode_bits, .func (PySem.W.fnOf "bits" "Code.bits" (defArgs t_Code_bits) (defBody t_Code_bits) (defScope t_Code_bits) .none kVCode_bits dcCode_bits pmCode_bits anCode_bits cdCode_bits ctCode_bits), slCode_bits⟩)
    (cCode_bits : PySem.W.codeIn K cdCode_bits "Code.bits" = true)
    (kCode_bits : PySem.W.keepIn K (.ref f_Code_bits_) = true)
    (areadings_in : PySem.W.nsIn K mainGlobals "readings_in" = some (some (.ref f_readings_in_)))
    (lreadings_in : K.lookup f_readings_in_ = some ⟨ocreadings_in, odreadings_in, .func (PySem.W.fnOf "readings_in" "readings_in" (defArgs t_readings_in) (defBody t_readings_in) (defScope t_readings_in) .none kVreadings_in dcreadings_in pmreadings_in anreadings_in cdreadings_in ctreadings_in), slreadings_in⟩)
    (creadings_in : PySem.W.codeIn K cdreadings_in "readings_in" = true)
    (kreadings_in : PySem.W.keepIn K (.ref f_readings_in_) = true)
    (aCodeX_getitemX : PySem.W.findIn K (.ref C0) "__getitem__" = some (some (.ref f_CodeX_getitemX_)))
    (iCodeX_getitemX : PySem.W.isFn K (.ref f_CodeX_getitemX_) = true)
    (jCodeX_getitemX : PySem.W.fnIn K f_CodeX_getitemX_ = true)
    (lCodeX_getitemX : K.lookup f_CodeX_getitemX_ = some ⟨ocCodeX_getitemX, odCodeX_getitemX, .func (PySem.W.fnOf "__getitem__" "Code.__getitem__" (defArgs t_CodeX_getitemX) (defBody t_CodeX_getitemX) (defScope t_CodeX_getitemX) .none kVCodeX_getitemX dcCodeX_getitemX pmCodeX_getitemX anCodeX_getitemX cdCodeX_getitemX ctCodeX_getitemX), slCodeX_getitemX⟩)
    (cCodeX_getitemX : PySem.W.codeIn K cdCodeX_getitemX "Code.__getitem__" = true)
    (kCodeX_getitemX : PySem.W.keepIn K (.ref f_CodeX_getitemX_) = true)
    (avalues_in : PySem.W.nsIn K mainGlobals "values_in" = some (some (.ref f_values_in_)))
    (lvalues_in : K.lookup f_values_in_ = some ⟨ocvalues_in, odvalues_in, .func (PySem.W.fnOf "values_in" "values_in" (defArgs t_values_in) (defBody t_values_in) (defScope t_values_in) .none kVvalues_in dcvalues_in pmvalues_in anvalues_in cdvalues_in ctvalues_in), slvalues_in⟩)
    (cvalues_in : PySem.W.codeIn K cdvalues_in "values_in" = true)
    (kvalues_in : PySem.W.keepIn K (.ref f_values_in_) = true)
    (aBridgeX_initX : PySem.W.findIn K (.ref C1) "__init__" = some (some (.ref f_BridgeX_initX_)))
    (iBridgeX_initX : PySem.W.isFn K (.ref f_BridgeX_initX_) = true)
    (lBridgeX_initX : K.lookup f_BridgeX_initX_ = some ⟨ocBridgeX_initX, odBridgeX_initX, .func (PySem.W.fnOf "__init__" "Bridge.__init__" (defArgs t_BridgeX_initX) (defBody t_BridgeX_initX) (defScope t_BridgeX_initX) (.ref dTBridgeX_initX) kVBridgeX_initX dcBridgeX_initX pmBridgeX_initX anBridgeX_initX cdBridgeX_initX ctBridgeX_initX), slBridgeX_initX⟩)
    (dtBridgeX_initX : K.lookup dTBridgeX_initX = some ⟨.type "tuple", none, .seq #[.int (1) du0BridgeX_initX] depBridgeX_initX, dslBridgeX_initX⟩)
    (cBridgeX_initX : PySem.W.codeIn K cdBridgeX_initX "Bridge.__init__" = true)
    (kBridgeX_initX : PySem.W.keepIn K (.ref f_BridgeX_initX_) = true)
    (a_law_built : PySem.W.nsIn K mainGlobals "_law_built" = some (some (.ref f__law_built_)))
    (l_law_built : K.lookup f__law_built_ = some ⟨oc_law_built, od_law_built, .func (PySem.W.fnOf "_law_built" "_law_built" (defArgs t__law_built) (defBody t__law_built) (defScope t__law_built) .none kV_law_built dc_law_built pm_law_built an_law_built cd_law_built ct_law_built), sl_law_built⟩)
    (c_law_built : PySem.W.codeIn K cd_law_built "_law_built" = true)
    (k_law_built : PySem.W.keepIn K (.ref f__law_built_) = true)
    (a_law_same : PySem.W.nsIn K mainGlobals "_law_same" = some (some (.ref f__law_same_)))
    (l_law_same : K.lookup f__law_same_ = some ⟨oc_law_same, od_law_same, .func (PySem.W.fnOf "_law_same" "_law_same" (defArgs t__law_same) (defBody t__law_same) (defScope t__law_same) .none kV_law_same dc_law_same pm_law_same an_law_same cd_law_same ct_law_same), sl_law_same⟩)
    (c_law_same : PySem.W.codeIn K cd_law_same "_law_same" = true)
    (k_law_same : PySem.W.keepIn K (.ref f__law_same_) = true)
    (a_law_seen : PySem.W.nsIn K mainGlobals "_law_seen" = some (some (.ref f__law_seen_)))
    (l_law_seen : K.lookup f__law_seen_ = some ⟨oc_law_seen, od_law_seen, .func (PySem.W.fnOf "_law_seen" "_law_seen" (defArgs t__law_seen) (defBody t__law_seen) (defScope t__law_seen) .none kV_law_seen dc_law_seen pm_law_seen an_law_seen cd_law_seen ct_law_seen), sl_law_seen⟩)
    (c_law_seen : PySem.W.codeIn K cd_law_seen "_law_seen" = true)
    (k_law_seen : PySem.W.keepIn K (.ref f__law_seen_) = true)
    (aare_numbers : PySem.W.nsIn K mainGlobals "are_numbers" = some (some (.ref f_are_numbers_)))
    (lare_numbers : K.lookup f_are_numbers_ = some ⟨ocare_numbers, odare_numbers, .func (PySem.W.fnOf "are_numbers" "are_numbers" (defArgs t_are_numbers) (defBody t_are_numbers) (defScope t_are_numbers) .none kVare_numbers dcare_numbers pmare_numbers anare_numbers cdare_numbers ctare_numbers), slare_numbers⟩)
    (care_numbers : PySem.W.codeIn K cdare_numbers "are_numbers" = true)
    (kare_numbers : PySem.W.keepIn K (.ref f_are_numbers_) = true)
    (aBridge_code : PySem.W.findIn K (.ref C1) "code" = some (some (.ref pBridge_code)))
    (gBridge_code : PySem.W.specialIn K (.ref pBridge_code) "__get__" = some (some (.builtin "property.__get__")))
    (tBridge_code : PySem.W.takesIn K (.ref pBridge_code) = some true)
    (rBridge_code : PySem.W.recIn K pBridge_code "property" = some (.ref f_Bridge_code_ :: rsBridge_code))
    (lBridge_code : K.lookup f_Bridge_code_ = some ⟨ocBridge_code, odBridge_code, .func (PySem.W.fnOf "code" "Bridge.code" (defArgs t_Bridge_code) (defBody t_Bridge_code) (defScope t_Bridge_code) .none kVBridge_code dcBridge_code pmBridge_code anBridge_code cdBridge_code ctBridge_code), slBridge_code⟩)
    (cBridge_code : PySem.W.codeIn K cdBridge_code "Bridge.code" = true)
    (kBridge_code : PySem.W.keepIn K (.ref f_Bridge_code_) = true)
    (aBridge_slow : PySem.W.findIn K (.ref C1) "slow" = some (some (.ref pBridge_slow)))
    (gBridge_slow : PySem.W.specialIn K (.ref pBridge_slow) "__get__" = some (some (.builtin "property.__get__")))
    (tBridge_slow : PySem.W.takesIn K (.ref pBridge_slow) = some true)
    (rBridge_slow : PySem.W.recIn K pBridge_slow "property" = some (.ref f_Bridge_slow_ :: rsBridge_slow))
    (lBridge_slow : K.lookup f_Bridge_slow_ = some ⟨ocBridge_slow, odBridge_slow, .func (PySem.W.fnOf "slow" "Bridge.slow" (defArgs t_Bridge_slow) (defBody t_Bridge_slow) (defScope t_Bridge_slow) .none kVBridge_slow dcBridge_slow pmBridge_slow anBridge_slow cdBridge_slow ctBridge_slow), slBridge_slow⟩)
    (cBridge_slow : PySem.W.codeIn K cdBridge_slow "Bridge.slow" = true)
    (kBridge_slow : PySem.W.keepIn K (.ref f_Bridge_slow_) = true)
    (aBridge_ahead : PySem.W.findIn K (.ref C1) "ahead" = some (some (.ref pBridge_ahead)))
    (gBridge_ahead : PySem.W.specialIn K (.ref pBridge_ahead) "__get__" = some (some (.builtin "property.__get__")))
    (tBridge_ahead : PySem.W.takesIn K (.ref pBridge_ahead) = some true)
    (rBridge_ahead : PySem.W.recIn K pBridge_ahead "property" = some (.ref f_Bridge_ahead_ :: rsBridge_ahead))
    (lBridge_ahead : K.lookup f_Bridge_ahead_ = some ⟨ocBridge_ahead, odBridge_ahead, .func (PySem.W.fnOf "ahead" "Bridge.ahead" (defArgs t_Bridge_ahead) (defBody t_Bridge_ahead) (defScope t_Bridge_ahead) .none kVBridge_ahead dcBridge_ahead pmBridge_ahead anBridge_ahead cdBridge_ahead ctBridge_ahead), slBridge_ahead⟩)
    (cBridge_ahead : PySem.W.codeIn K cdBridge_ahead "Bridge.ahead" = true)
    (kBridge_ahead : PySem.W.keepIn K (.ref f_Bridge_ahead_) = true)
    (aBridge_behind : PySem.W.findIn K (.ref C1) "behind" = some (some (.ref pBridge_behind)))
    (gBridge_behind : PySem.W.specialIn K (.ref pBridge_behind) "__get__" = some (some (.builtin "property.__get__")))
    (tBridge_behind : PySem.W.takesIn K (.ref pBridge_behind) = some true)
    (rBridge_behind : PySem.W.recIn K pBridge_behind "property" = some (.ref f_Bridge_behind_ :: rsBridge_behind))
    (lBridge_behind : K.lookup f_Bridge_behind_ = some ⟨ocBridge_behind, odBridge_behind, .func (PySem.W.fnOf "behind" "Bridge.behind" (defArgs t_Bridge_behind) (defBody t_Bridge_behind) (defScope t_Bridge_behind) .none kVBridge_behind dcBridge_behind pmBridge_behind anBridge_behind cdBridge_behind ctBridge_behind), slBridge_behind⟩)
    (cBridge_behind : PySem.W.codeIn K cdBridge_behind "Bridge.behind" = true)
    (kBridge_behind : PySem.W.keepIn K (.ref f_Bridge_behind_) = true)
    (ais_state_in : PySem.W.nsIn K mainGlobals "is_state_in" = some (some (.ref f_is_state_in_)))
    (lis_state_in : K.lookup f_is_state_in_ = some ⟨ocis_state_in, odis_state_in, .func (PySem.W.fnOf "is_state_in" "is_state_in" (defArgs t_is_state_in) (defBody t_is_state_in) (defScope t_is_state_in) .none kVis_state_in dcis_state_in pmis_state_in anis_state_in cdis_state_in ctis_state_in), slis_state_in⟩)
    (cis_state_in : PySem.W.codeIn K cdis_state_in "is_state_in" = true)
    (kis_state_in : PySem.W.keepIn K (.ref f_is_state_in_) = true)
    (aneed_state : PySem.W.nsIn K mainGlobals "need_state" = some (some (.ref f_need_state_)))
    (lneed_state : K.lookup f_need_state_ = some ⟨ocneed_state, odneed_state, .func (PySem.W.fnOf "need_state" "need_state" (defArgs t_need_state) (defBody t_need_state) (defScope t_need_state) .none kVneed_state dcneed_state pmneed_state anneed_state cdneed_state ctneed_state), slneed_state⟩)
    (cneed_state : PySem.W.codeIn K cdneed_state "need_state" = true)
    (kneed_state : PySem.W.keepIn K (.ref f_need_state_) = true)
    (ais_beat : PySem.W.nsIn K mainGlobals "is_beat" = some (some (.ref f_is_beat_)))
    (lis_beat : K.lookup f_is_beat_ = some ⟨ocis_beat, odis_beat, .func (PySem.W.fnOf "is_beat" "is_beat" (defArgs t_is_beat) (defBody t_is_beat) (defScope t_is_beat) .none kVis_beat dcis_beat pmis_beat anis_beat cdis_beat ctis_beat), slis_beat⟩)
    (cis_beat : PySem.W.codeIn K cdis_beat "is_beat" = true)
    (kis_beat : PySem.W.keepIn K (.ref f_is_beat_) = true)
    (aneed_beat : PySem.W.nsIn K mainGlobals "need_beat" = some (some (.ref f_need_beat_)))
    (lneed_beat : K.lookup f_need_beat_ = some ⟨ocneed_beat, odneed_beat, .func (PySem.W.fnOf "need_beat" "need_beat" (defArgs t_need_beat) (defBody t_need_beat) (defScope t_need_beat) .none kVneed_beat dcneed_beat pmneed_beat anneed_beat cdneed_beat ctneed_beat), slneed_beat⟩)
    (cneed_beat : PySem.W.codeIn K cdneed_beat "need_beat" = true)
    (kneed_beat : PySem.W.keepIn K (.ref f_need_beat_) = true)
    (aBridge_depth : PySem.W.findIn K (.ref C1) "depth" = some (some (.ref pBridge_depth)))
    (gBridge_depth : PySem.W.specialIn K (.ref pBridge_depth) "__get__" = some (some (.builtin "property.__get__")))
    (tBridge_depth : PySem.W.takesIn K (.ref pBridge_depth) = some true)
    (rBridge_depth : PySem.W.recIn K pBridge_depth "property" = some (.ref f_Bridge_depth_ :: rsBridge_depth))
    (lBridge_depth : K.lookup f_Bridge_depth_ = some ⟨ocBridge_depth, odBridge_depth, .func (PySem.W.fnOf "depth" "Bridge.depth" (defArgs t_Bridge_depth) (defBody t_Bridge_depth) (defScope t_Bridge_depth) .none kVBridge_depth dcBridge_depth pmBridge_depth anBridge_depth cdBridge_depth ctBridge_depth), slBridge_depth⟩)
    (cBridge_depth : PySem.W.codeIn K cdBridge_depth "Bridge.depth" = true)
    (kBridge_depth : PySem.W.keepIn K (.ref f_Bridge_depth_) = true)
    (aputs_in : PySem.W.nsIn K mainGlobals "puts_in" = some (some (.ref f_puts_in_)))
    (lputs_in : K.lookup f_puts_in_ = some ⟨ocputs_in, odputs_in, .func (PySem.W.fnOf "puts_in" "puts_in" (defArgs t_puts_in) (defBody t_puts_in) (defScope t_puts_in) .none kVputs_in dcputs_in pmputs_in anputs_in cdputs_in ctputs_in), slputs_in⟩)
    (cputs_in : PySem.W.codeIn K cdputs_in "puts_in" = true)
    (kputs_in : PySem.W.keepIn K (.ref f_puts_in_) = true)
    (atakes_in : PySem.W.nsIn K mainGlobals "takes_in" = some (some (.ref f_takes_in_)))
    (ltakes_in : K.lookup f_takes_in_ = some ⟨octakes_in, odtakes_in, .func (PySem.W.fnOf "takes_in" "takes_in" (defArgs t_takes_in) (defBody t_takes_in) (defScope t_takes_in) .none kVtakes_in dctakes_in pmtakes_in antakes_in cdtakes_in cttakes_in), sltakes_in⟩)
    (ctakes_in : PySem.W.codeIn K cdtakes_in "takes_in" = true)
    (ktakes_in : PySem.W.keepIn K (.ref f_takes_in_) = true)
    (amoves_in : PySem.W.nsIn K mainGlobals "moves_in" = some (some (.ref f_moves_in_)))
    (lmoves_in : K.lookup f_moves_in_ = some ⟨ocmoves_in, odmoves_in, .func (PySem.W.fnOf "moves_in" "moves_in" (defArgs t_moves_in) (defBody t_moves_in) (defScope t_moves_in) .none kVmoves_in dcmoves_in pmmoves_in anmoves_in cdmoves_in ctmoves_in), slmoves_in⟩)
    (cmoves_in : PySem.W.codeIn K cdmoves_in "moves_in" = true)
    (kmoves_in : PySem.W.keepIn K (.ref f_moves_in_) = true)
    (aread_of : PySem.W.nsIn K mainGlobals "read_of" = some (some (.ref f_read_of_)))
    (lread_of : K.lookup f_read_of_ = some ⟨ocread_of, odread_of, .func (PySem.W.fnOf "read_of" "read_of" (defArgs t_read_of) (defBody t_read_of) (defScope t_read_of) .none kVread_of dcread_of pmread_of anread_of cdread_of ctread_of), slread_of⟩)
    (cread_of : PySem.W.codeIn K cdread_of "read_of" = true)
    (kread_of : PySem.W.keepIn K (.ref f_read_of_) = true)
    (alooks_in : PySem.W.nsIn K mainGlobals "looks_in" = some (some (.ref f_looks_in_)))
    (llooks_in : K.lookup f_looks_in_ = some ⟨oclooks_in, odlooks_in, .func (PySem.W.fnOf "looks_in" "looks_in" (defArgs t_looks_in) (defBody t_looks_in) (defScope t_looks_in) .none kVlooks_in dclooks_in pmlooks_in anlooks_in cdlooks_in ctlooks_in), sllooks_in⟩)
    (clooks_in : PySem.W.codeIn K cdlooks_in "looks_in" = true)
    (klooks_in : PySem.W.keepIn K (.ref f_looks_in_) = true)
    (aglances_in : PySem.W.nsIn K mainGlobals "glances_in" = some (some (.ref f_glances_in_)))
    (lglances_in : K.lookup f_glances_in_ = some ⟨ocglances_in, odglances_in, .func (PySem.W.fnOf "glances_in" "glances_in" (defArgs t_glances_in) (defBody t_glances_in) (defScope t_glances_in) .none kVglances_in dcglances_in pmglances_in anglances_in cdglances_in ctglances_in), slglances_in⟩)
    (cglances_in : PySem.W.codeIn K cdglances_in "glances_in" = true)
    (kglances_in : PySem.W.keepIn K (.ref f_glances_in_) = true)
    (abehind_in : PySem.W.nsIn K mainGlobals "behind_in" = some (some (.ref f_behind_in_)))
    (lbehind_in : K.lookup f_behind_in_ = some ⟨ocbehind_in, odbehind_in, .func (PySem.W.fnOf "behind_in" "behind_in" (defArgs t_behind_in) (defBody t_behind_in) (defScope t_behind_in) .none kVbehind_in dcbehind_in pmbehind_in anbehind_in cdbehind_in ctbehind_in), slbehind_in⟩)
    (cbehind_in : PySem.W.codeIn K cdbehind_in "behind_in" = true)
    (kbehind_in : PySem.W.keepIn K (.ref f_behind_in_) = true)
    (anext_in : PySem.W.nsIn K mainGlobals "next_in" = some (some (.ref f_next_in_)))
    (lnext_in : K.lookup f_next_in_ = some ⟨ocnext_in, odnext_in, .func (PySem.W.fnOf "next_in" "next_in" (defArgs t_next_in) (defBody t_next_in) (defScope t_next_in) .none kVnext_in dcnext_in pmnext_in annext_in cdnext_in ctnext_in), slnext_in⟩)
    (cnext_in : PySem.W.codeIn K cdnext_in "next_in" = true)
    (knext_in : PySem.W.keepIn K (.ref f_next_in_) = true)
    (aBridgeX_callX : PySem.W.findIn K (.ref C1) "__call__" = some (some (.ref f_BridgeX_callX_)))
    (iBridgeX_callX : PySem.W.isFn K (.ref f_BridgeX_callX_) = true)
    (jBridgeX_callX : PySem.W.fnIn K f_BridgeX_callX_ = true)
    (lBridgeX_callX : K.lookup f_BridgeX_callX_ = some ⟨ocBridgeX_callX, odBridgeX_callX, .func (PySem.W.fnOf "__call__" "Bridge.__call__" (defArgs t_BridgeX_callX) (defBody t_BridgeX_callX) (defScope t_BridgeX_callX) .none kVBridgeX_callX dcBridgeX_callX pmBridgeX_callX anBridgeX_callX cdBridgeX_callX ctBridgeX_callX), slBridgeX_callX⟩)
    (cBridgeX_callX : PySem.W.codeIn K cdBridgeX_callX "Bridge.__call__" = true)
    (kBridgeX_callX : PySem.W.keepIn K (.ref f_BridgeX_callX_) = true)
    (a_law_steps_right : PySem.W.nsIn K mainGlobals "_law_steps_right" = some (some (.ref f__law_steps_right_)))
    (l_law_steps_right : K.lookup f__law_steps_right_ = some ⟨oc_law_steps_right, od_law_steps_right, .func (PySem.W.fnOf "_law_steps_right" "_law_steps_right" (defArgs t__law_steps_right) (defBody t__law_steps_right) (defScope t__law_steps_right) .none kV_law_steps_right dc_law_steps_right pm_law_steps_right an_law_steps_right cd_law_steps_right ct_law_steps_right), sl_law_steps_right⟩)
    (c_law_steps_right : PySem.W.codeIn K cd_law_steps_right "_law_steps_right" = true)
    (k_law_steps_right : PySem.W.keepIn K (.ref f__law_steps_right_) = true)
    (a_law_formed : PySem.W.nsIn K mainGlobals "_law_formed" = some (some (.ref f__law_formed_)))
    (l_law_formed : K.lookup f__law_formed_ = some ⟨oc_law_formed, od_law_formed, .func (PySem.W.fnOf "_law_formed" "_law_formed" (defArgs t__law_formed) (defBody t__law_formed) (defScope t__law_formed) .none kV_law_formed dc_law_formed pm_law_formed an_law_formed cd_law_formed ct_law_formed), sl_law_formed⟩)
    (c_law_formed : PySem.W.codeIn K cd_law_formed "_law_formed" = true)
    (k_law_formed : PySem.W.keepIn K (.ref f__law_formed_) = true)
    (a_law_pulses : PySem.W.nsIn K mainGlobals "_law_pulses" = some (some (.ref f__law_pulses_)))
    (l_law_pulses : K.lookup f__law_pulses_ = some ⟨oc_law_pulses, od_law_pulses, .func (PySem.W.fnOf "_law_pulses" "_law_pulses" (defArgs t__law_pulses) (defBody t__law_pulses) (defScope t__law_pulses) .none kV_law_pulses dc_law_pulses pm_law_pulses an_law_pulses cd_law_pulses ct_law_pulses), sl_law_pulses⟩)
    (c_law_pulses : PySem.W.codeIn K cd_law_pulses "_law_pulses" = true)
    (k_law_pulses : PySem.W.keepIn K (.ref f__law_pulses_) = true)
    (a_law_moves : PySem.W.nsIn K mainGlobals "_law_moves" = some (some (.ref f__law_moves_)))
    (l_law_moves : K.lookup f__law_moves_ = some ⟨oc_law_moves, od_law_moves, .func (PySem.W.fnOf "_law_moves" "_law_moves" (defArgs t__law_moves) (defBody t__law_moves) (defScope t__law_moves) .none kV_law_moves dc_law_moves pm_law_moves an_law_moves cd_law_moves ct_law_moves), sl_law_moves⟩)
    (c_law_moves : PySem.W.codeIn K cd_law_moves "_law_moves" = true)
    (k_law_moves : PySem.W.keepIn K (.ref f__law_moves_) = true)
    (a_law_fronts : PySem.W.nsIn K mainGlobals "_law_fronts" = some (some (.ref f__law_fronts_)))
    (l_law_fronts : K.lookup f__law_fronts_ = some ⟨oc_law_fronts, od_law_fronts, .func (PySem.W.fnOf "_law_fronts" "_law_fronts" (defArgs t__law_fronts) (defBody t__law_fronts) (defScope t__law_fronts) .none kV_law_fronts dc_law_fronts pm_law_fronts an_law_fronts cd_law_fronts ct_law_fronts), sl_law_fronts⟩)
    (c_law_fronts : PySem.W.codeIn K cd_law_fronts "_law_fronts" = true)
    (k_law_fronts : PySem.W.keepIn K (.ref f__law_fronts_) = true)
    (a_law_next : PySem.W.nsIn K mainGlobals "_law_next" = some (some (.ref f__law_next_)))
    (l_law_next : K.lookup f__law_next_ = some ⟨oc_law_next, od_law_next, .func (PySem.W.fnOf "_law_next" "_law_next" (defArgs t__law_next) (defBody t__law_next) (defScope t__law_next) .none kV_law_next dc_law_next pm_law_next an_law_next cd_law_next ct_law_next), sl_law_next⟩)
    (c_law_next : PySem.W.codeIn K cd_law_next "_law_next" = true)
    (k_law_next : PySem.W.keepIn K (.ref f__law_next_) = true)
    (a_law_idle_right : PySem.W.nsIn K mainGlobals "_law_idle_right" = some (some (.ref f__law_idle_right_)))
    (l_law_idle_right : K.lookup f__law_idle_right_ = some ⟨oc_law_idle_right, od_law_idle_right, .func (PySem.W.fnOf "_law_idle_right" "_law_idle_right" (defArgs t__law_idle_right) (defBody t__law_idle_right) (defScope t__law_idle_right) .none kV_law_idle_right dc_law_idle_right pm_law_idle_right an_law_idle_right cd_law_idle_right ct_law_idle_right), sl_law_idle_right⟩)
    (c_law_idle_right : PySem.W.codeIn K cd_law_idle_right "_law_idle_right" = true)
    (k_law_idle_right : PySem.W.keepIn K (.ref f__law_idle_right_) = true)
    (alaw : PySem.W.nsIn K mainGlobals "law" = some (some (.ref f_law_)))
    (llaw : K.lookup f_law_ = some ⟨oclaw, odlaw, .func (PySem.W.fnOf "law" "law" (defArgs t_law) (defBody t_law) (defScope t_law) .none kVlaw dclaw pmlaw anlaw cdlaw ctlaw), sllaw⟩)
    (claw : PySem.W.codeIn K cdlaw "law" = true)
    (klaw : PySem.W.keepIn K (.ref f_law_) = true)
    : ∃ fd : FuncData, (∀ (s : Shared) (v : Value), BindsTo s fd ⟨[v], []⟩ [("_law_script", v)]) ∧ ∀ base : Heap, K.In base → base.Ns mainGlobals mg → ∃ g : Gs, g.K = K ∧ FnG l.prog w K mg base (L2.CX l.prog w) 9 fa fd ["_law_script"] (spF g f_law) := by
  have e := hfa.symm.trans (PySem.W.mg_of X G alaw)
  cases e
  have F__law_pen := fun_mk (st := t__law_pen) l_law_pen c_law_pen k_law_pen
  have F__law_cell_at := fun_mk (st := t__law_cell_at) l_law_cell_at c_law_cell_at k_law_cell_at
  have F__law_draw := fun_mk (st := t__law_draw) l_law_draw c_law_draw k_law_draw
  have F__law_mixed := fun_mk (st := t__law_mixed) l_law_mixed c_law_mixed k_law_mixed
  have F__law_all_words := fun_mk (st := t__law_all_words) l_law_all_words c_law_all_words k_law_all_words
  have F__law_sparse := fun_mk (st := t__law_sparse) l_law_sparse c_law_sparse k_law_sparse
  have F_word_in := fun_mk (st := t_word_in) lword_in cword_in kword_in
  have F_is_between := fun_mk (st := t_is_between) lis_between cis_between kis_between
  have F_are_bits := fun_mk (st := t_are_bits) lare_bits care_bits kare_bits
  have F_are_words := fun_mk (st := t_are_words) lare_words care_words kare_words
  have F_CodeX_initX := fun_mk (st := t_CodeX_initX) lCodeX_initX cCodeX_initX kCodeX_initX
  have F_Code_read := fun_mk (st := t_Code_read) lCode_read cCode_read kCode_read
  have F__law_coded := fun_mk (st := t__law_coded) l_law_coded c_law_coded k_law_coded
  have F_need_code := fun_mk (st := t_need_code) lneed_code cneed_code kneed_code
  have F_CodeX_lenX := fun_mk (st := t_CodeX_lenX) lCodeX_lenX cCodeX_lenX kCodeX_lenX
  have F_window_of := fun_mk (st := t_window_of) lwindow_of cwindow_of kwindow_of
  have F_Code_words := fun_mk (st := t_Code_words) lCode_words cCode_words kCode_words
  have F_Code_bits := fun_mk (st := t_Code_bits) lCode_bits cCode_bits kCode_bits
  have F_readings_in := fun_mk (st := t_readings_in) lreadings_in creadings_in kreadings_in
  have F_CodeX_getitemX := fun_mk (st := t_CodeX_getitemX) lCodeX_getitemX cCodeX_getitemX kCodeX_getitemX
  have F_values_in := fun_mk (st := t_values_in) lvalues_in cvalues_in kvalues_in
  have F_BridgeX_initX := fund_mk (st := t_BridgeX_initX) (dvs := [.int (1)]) lBridgeX_initX cBridgeX_initX kBridgeX_initX (by decide) ⟨_, _, _, _, rfl, dtBridgeX_initX, rfl, .cons ⟨_, rfl⟩ (.nil)⟩
  have F__law_built := fun_mk (st := t__law_built) l_law_built c_law_built k_law_built
  have F__law_same := fun_mk (st := t__law_same) l_law_same c_law_same k_law_same
  have F__law_seen := fun_mk (st := t__law_seen) l_law_seen c_law_seen k_law_seen
  have F_are_numbers := fun_mk (st := t_are_numbers) lare_numbers care_numbers kare_numbers
  have F_Bridge_code := fun_mk (st := t_Bridge_code) lBridge_code cBridge_code kBridge_code
  have F_Bridge_slow := fun_mk (st := t_Bridge_slow) lBridge_slow cBridge_slow kBridge_slow
  have F_Bridge_ahead := fun_mk (st := t_Bridge_ahead) lBridge_ahead cBridge_ahead kBridge_ahead
  have F_Bridge_behind := fun_mk (st := t_Bridge_behind) lBridge_behind cBridge_behind kBridge_behind
  have F_is_state_in := fun_mk (st := t_is_state_in) lis_state_in cis_state_in kis_state_in
  have F_need_state := fun_mk (st := t_need_state) lneed_state cneed_state kneed_state
  have F_is_beat := fun_mk (st := t_is_beat) lis_beat cis_beat kis_beat
  have F_need_beat := fun_mk (st := t_need_beat) lneed_beat cneed_beat kneed_beat
  have F_Bridge_depth := fun_mk (st := t_Bridge_depth) lBridge_depth cBridge_depth kBridge_depth
  have F_puts_in := fun_mk (st := t_puts_in) lputs_in cputs_in kputs_in
  have F_takes_in := fun_mk (st := t_takes_in) ltakes_in ctakes_in ktakes_in
  have F_moves_in := fun_mk (st := t_moves_in) lmoves_in cmoves_in kmoves_in
  have F_read_of := fun_mk (st := t_read_of) lread_of cread_of kread_of
  have F_looks_in := fun_mk (st := t_looks_in) llooks_in clooks_in klooks_in
  have F_glances_in := fun_mk (st := t_glances_in) lglances_in cglances_in kglances_in
  have F_behind_in := fun_mk (st := t_behind_in) lbehind_in cbehind_in kbehind_in
  have F_next_in := fun_mk (st := t_next_in) lnext_in cnext_in knext_in
  have F_BridgeX_callX := fun_mk (st := t_BridgeX_callX) lBridgeX_callX cBridgeX_callX kBridgeX_callX
  have F__law_steps_right := fun_mk (st := t__law_steps_right) l_law_steps_right c_law_steps_right k_law_steps_right
  have F__law_formed := fun_mk (st := t__law_formed) l_law_formed c_law_formed k_law_formed
  have F__law_pulses := fun_mk (st := t__law_pulses) l_law_pulses c_law_pulses k_law_pulses
  have F__law_moves := fun_mk (st := t__law_moves) l_law_moves c_law_moves k_law_moves
  have F__law_fronts := fun_mk (st := t__law_fronts) l_law_fronts c_law_fronts k_law_fronts
  have F__law_next := fun_mk (st := t__law_next) l_law_next c_law_next k_law_next
  have F__law_idle_right := fun_mk (st := t__law_idle_right) l_law_idle_right c_law_idle_right k_law_idle_right
  have F_law := fun_mk (st := t_law) llaw claw klaw
  refine ⟨PySem.W.fnOf "law" "law" (defArgs t_law) (defBody t_law) (defScope t_law) .none kVlaw dclaw pmlaw anlaw cdlaw ctlaw, fun s v => .of_eq rfl, fun base _ _ => ?_⟩
  let g : Gs := { prog := l.prog, w := w, base := base, K := K, mg := mg, cl := fun n => if n = 0 then C0 else if n = 1 then C1 else 0, has := fun n => n == 0 || n == 1 }
  refine ⟨g, rfl, ?_⟩
  have cC0 : ClsC g 0 := ⟨⟨pgC0, hdC0, poC0, saC0⟩, fun f hf => by
    have hf : f ∈ [("row" : Str), ("known" : Str)] := hf
    simp only [List.mem_cons, List.not_mem_nil, or_false] at hf
    rcases hf with rfl | rfl
    · exact n0C0
    · exact n1C0
    , by decide, dcC0, moC0, fun T => by
      cases T
      · exact kit_obj bintC0
      · exact kit_obj bboolC0
      · exact kit_obj btupleC0
      · exact kit_obj bstrC0
      · exact kit_obj blistC0
    , fun n hn => kit_own hn icC0 tyC0
    ⟩
  have cC1 : ClsC g 1 := ⟨⟨pgC1, hdC1, poC1, saC1⟩, fun f hf => by
    have hf : f ∈ [("own" : Str), ("seen" : Str)] := hf
    simp only [List.mem_cons, List.not_mem_nil, or_false] at hf
    rcases hf with rfl | rfl
    · exact n0C1
    · exact n1C1
    , by decide, dcC1, moC1, fun T => by
      cases T
      · exact kit_obj bintC1
      · exact kit_obj bboolC1
      · exact kit_obj btupleC1
      · exact kit_obj bstrC1
      · exact kit_obj blistC1
    , fun n hn => kit_own hn icC1 tyC1
    ⟩
  have hz : ∀ c, g.has c = true → c = 0 ∨ c = 1 := fun c hc => by simpa [g, or_assoc] using hc
  have fx : Fx g := ⟨fun c hc => by
    rcases hz c hc with rfl | rfl
    · exact cC0
    · exact cC1
    , fun c d hc hd => by
    rcases hz c hc with rfl | rfl <;> rcases hz d hd with rfl | rfl
    · exact kit_self
    · exact kit_ref mm01 mm11 icC1 tyC1
    · exact kit_ref mm10 mm00 icC0 tyC0
    · exact kit_self
    , hn, htk, fun x hx => by
    simp only [List.mem_cons, List.not_mem_nil, or_false] at hx
    rcases hx with rfl | rfl | rfl | rfl | rfl | rfl | rfl | rfl | rfl | rfl | rfl | rfl | rfl | rfl | rfl | rfl | rfl | rfl | rfl
    · exact PySem.W.mg_none_of X G zlen
    · exact PySem.W.mg_none_of X G zrange
    · exact PySem.W.mg_none_of X G zisinstance
    · exact PySem.W.mg_none_of X G ztuple
    · exact PySem.W.mg_none_of X G zlist
    · exact PySem.W.mg_none_of X G zall
    · exact PySem.W.mg_none_of X G zany
    · exact PySem.W.mg_none_of X G zmax
    · exact PySem.W.mg_none_of X G zmin
    · exact PySem.W.mg_none_of X G zset
    · exact PySem.W.mg_none_of X G zsorted
    · exact PySem.W.mg_none_of X G zenumerate
    · exact PySem.W.mg_none_of X G zzip
    · exact PySem.W.mg_none_of X G zrepr
    · exact PySem.W.mg_none_of X G zstr
    · exact PySem.W.mg_none_of X G zint
    · exact PySem.W.mg_none_of X G zsum
    · exact PySem.W.mg_none_of X G zdict
    · exact PySem.W.mg_none_of X G zbool
    ⟩
  have C_Code : ClsN g 0 "Code" := ⟨rfl, PySem.W.mg_of X G aC0⟩
  have C_Bridge : ClsN g 1 "Bridge" := ⟨rfl, PySem.W.mg_of X G aC1⟩
  have G_SIGNS : GlobC g "SIGNS" (.tup [(.str (Str.ofString "0")), (.str (Str.ofString "1"))]) := ⟨.ref ad_SIGNS, _, PySem.W.mg_of X G v_SIGNS, rfl, fun w => by simp only [Rep, Reps]; exact ⟨ad_SIGNS, [.str (Str.ofString "0"), .str (Str.ofString "1")], rfl, .inr ⟨_, _, _, w_SIGNS, rfl, rfl, rfl, by show 2 ≤ sizeLine; decide, .cons ⟨_, rfl⟩ (.cons ⟨_, rfl⟩ (.nil))⟩, ⟨_, _, rfl, rfl, ⟨_, _, rfl, rfl, rfl⟩⟩⟩⟩
  have T_SIGNS : GlobT g "SIGNS" [Str.ofString "0", Str.ofString "1"] := ⟨ad_SIGNS, PySem.W.mg_of X G v_SIGNS, ⟨_, w_SIGNS, rfl, rfl⟩, fun w => by simp only [Rep, Reps]; exact ⟨ad_SIGNS, [.str (Str.ofString "0"), .str (Str.ofString "1")], rfl, .inr ⟨_, _, _, w_SIGNS, rfl, rfl, rfl, by show 2 ≤ sizeLine; decide, .cons ⟨_, rfl⟩ (.cons ⟨_, rfl⟩ (.nil))⟩, ⟨_, _, rfl, rfl, ⟨_, _, rfl, rfl, rfl⟩⟩⟩⟩
  have G_NO_WORD : GlobC g "NO_WORD" (.int (-1)) := ⟨.int (-1), _, PySem.W.mg_of X G vG_NO_WORD, ⟨_, rfl⟩, fun w => by simp only [Rep]⟩
  have G_FEWEST_VALUES : GlobC g "FEWEST_VALUES" (.int (2)) := ⟨.int (2), _, PySem.W.mg_of X G vG_FEWEST_VALUES, ⟨_, rfl⟩, fun w => by simp only [Rep]⟩
  have G_MOST_VALUES : GlobC g "MOST_VALUES" (.int (16)) := ⟨.int (16), _, PySem.W.mg_of X G vG_MOST_VALUES, ⟨_, rfl⟩, fun w => by simp only [Rep]⟩
  have G_MOST_BITS : GlobC g "MOST_BITS" (.int (5)) := ⟨.int (5), _, PySem.W.mg_of X G vG_MOST_BITS, ⟨_, rfl⟩, fun w => by simp only [Rep]⟩
  have G_MOST_LATE : GlobC g "MOST_LATE" (.int (3)) := ⟨.int (3), _, PySem.W.mg_of X G vG_MOST_LATE, ⟨_, rfl⟩, fun w => by simp only [Rep]⟩
  have G_MOST_SLOW : GlobC g "MOST_SLOW" (.int (3)) := ⟨.int (3), _, PySem.W.mg_of X G vG_MOST_SLOW, ⟨_, rfl⟩, fun w => by simp only [Rep]⟩
  have G_NO_BEAT : GlobC g "NO_BEAT" (.int (0)) := ⟨.int (0), _, PySem.W.mg_of X G vG_NO_BEAT, ⟨_, rfl⟩, fun w => by simp only [Rep]⟩
  have G_WISH : GlobC g "WISH" (.int (2)) := ⟨.int (2), _, PySem.W.mg_of X G vG_WISH, ⟨_, rfl⟩, fun w => by simp only [Rep]⟩
  have G_FULL : GlobC g "FULL" (.str (Str.ofString "full")) := ⟨.str (Str.ofString "full"), _, PySem.W.mg_of X G vG_FULL, ⟨_, rfl⟩, fun w => by simp only [Rep]⟩
  have G_EMPTY : GlobC g "EMPTY" (.str (Str.ofString "empty")) := ⟨.str (Str.ofString "empty"), _, PySem.W.mg_of X G vG_EMPTY, ⟨_, rfl⟩, fun w => by simp only [Rep]⟩
  have S__law_pen : FnScope n__law_pen ["_law_cell"] (defScope t__law_pen) := ⟨rfl, rfl, rfl, by decide +kernel, rfl, by decide +kernel, by decide +kernel⟩
  have bi__law_pen := F__law_pen.binds (ps := ["_law_cell"]) fun _ _ _ _ _ _ us hl => match us, hl with | [_], _ => rfl
  have h__law_pen := def_ok (g := g) (n := 1) F__law_pen S__law_pen rfl (by decide) fx (b__law_pen (g := g) )
  have d__law_pen : Def g 1 "_law_pen" [] f__law_pen := ⟨_, _, _, [], [], h__law_pen, PySem.W.mg_of X G a_law_pen, k_law_pen, bi__law_pen, .nil, fun w => by simp only [Reps]⟩
  have S__law_cell_at : FnScope n__law_cell_at ["_law_script", "_law_k"] (defScope t__law_cell_at) := ⟨rfl, rfl, rfl, by decide +kernel, rfl, by decide +kernel, by decide +kernel⟩
  have bi__law_cell_at := F__law_cell_at.binds (ps := ["_law_script", "_law_k"]) fun _ _ _ _ _ _ us hl => match us, hl with | [_, _], _ => rfl
  have h__law_cell_at := def_ok (g := g) (n := 2) F__law_cell_at S__law_cell_at rfl (by decide) fx (b__law_cell_at (g := g) )
  have d__law_cell_at : Def g 1 "_law_cell_at" [] f__law_cell_at := ⟨_, _, _, [], [], h__law_cell_at, PySem.W.mg_of X G a_law_cell_at, k_law_cell_at, bi__law_cell_at, .nil, fun w => by simp only [Reps]⟩
  have S__law_draw : FnScope n__law_draw ["_law_pen_here", "_law_many"] (defScope t__law_draw) := ⟨rfl, rfl, rfl, by decide +kernel, rfl, by decide +kernel, by decide +kernel⟩
  have bi__law_draw := F__law_draw.binds (ps := ["_law_pen_here", "_law_many"]) fun _ _ _ _ _ _ us hl => match us, hl with | [_, _], _ => rfl
  have h__law_draw := def_ok (g := g) (n := 2) F__law_draw S__law_draw rfl (by decide) fx (b__law_draw (g := g) )
  have d__law_draw : Def g 1 "_law_draw" [] f__law_draw := ⟨_, _, _, [], [], h__law_draw, PySem.W.mg_of X G a_law_draw, k_law_draw, bi__law_draw, .nil, fun w => by simp only [Reps]⟩
  have S__law_mixed : FnScope n__law_mixed ["_law_pen_here", "_law_some"] (defScope t__law_mixed) := ⟨rfl, rfl, rfl, by decide +kernel, rfl, by decide +kernel, by decide +kernel⟩
  have bi__law_mixed := F__law_mixed.binds (ps := ["_law_pen_here", "_law_some"]) fun _ _ _ _ _ _ us hl => match us, hl with | [_, _], _ => rfl
  have h__law_mixed := def_ok (g := g) (n := 2) F__law_mixed S__law_mixed rfl (by decide) fx (b__law_mixed (g := g)  d__law_draw)
  have d__law_mixed : Def g 2 "_law_mixed" [] f__law_mixed := ⟨_, _, _, [], [], h__law_mixed, PySem.W.mg_of X G a_law_mixed, k_law_mixed, bi__law_mixed, .nil, fun w => by simp only [Reps]⟩
  have S__law_all_words : FnScope n__law_all_words ["_law_many"] (defScope t__law_all_words) := ⟨rfl, rfl, rfl, by decide +kernel, rfl, by decide +kernel, by decide +kernel⟩
  have bi__law_all_words := F__law_all_words.binds (ps := ["_law_many"]) fun _ _ _ _ _ _ us hl => match us, hl with | [_], _ => rfl
  have h__law_all_words := def_ok (g := g) (n := 1) F__law_all_words S__law_all_words rfl (by decide) fx (b__law_all_words (g := g) )
  have d__law_all_words : Def g 1 "_law_all_words" [] f__law_all_words := ⟨_, _, _, [], [], h__law_all_words, PySem.W.mg_of X G a_law_all_words, k_law_all_words, bi__law_all_words, .nil, fun w => by simp only [Reps]⟩
  have S__law_sparse : FnScope n__law_sparse ["_law_pen_here"] (defScope t__law_sparse) := ⟨rfl, rfl, rfl, by decide +kernel, rfl, by decide +kernel, by decide +kernel⟩
  have bi__law_sparse := F__law_sparse.binds (ps := ["_law_pen_here"]) fun _ _ _ _ _ _ us hl => match us, hl with | [_], _ => rfl
  have h__law_sparse := def_ok (g := g) (n := 1) F__law_sparse S__law_sparse rfl (by decide) fx (b__law_sparse (g := g)  d__law_mixed d__law_all_words d__law_draw)
  have d__law_sparse : Def g 3 "_law_sparse" [] f__law_sparse := ⟨_, _, _, [], [], h__law_sparse, PySem.W.mg_of X G a_law_sparse, k_law_sparse, bi__law_sparse, .nil, fun w => by simp only [Reps]⟩
  have S_word_in : FnScope n_word_in ["line"] (defScope t_word_in) := ⟨rfl, rfl, rfl, by decide +kernel, rfl, by decide +kernel, by decide +kernel⟩
  have bi_word_in := F_word_in.binds (ps := ["line"]) fun _ _ _ _ _ _ us hl => match us, hl with | [_], _ => rfl
  have h_word_in := def_ok (g := g) (n := 1) F_word_in S_word_in rfl (by decide) fx (b_word_in (g := g) G_SIGNS T_SIGNS G_NO_WORD)
  have d_word_in : Def g 1 "word_in" [] f_word_in := ⟨_, _, _, [], [], h_word_in, PySem.W.mg_of X G aword_in, kword_in, bi_word_in, .nil, fun w => by simp only [Reps]⟩
  have S_is_between : FnScope n_is_between ["thing", "low", "high"] (defScope t_is_between) := ⟨rfl, rfl, rfl, by decide +kernel, rfl, by decide +kernel, by decide +kernel⟩
  have bi_is_between := F_is_between.binds (ps := ["thing", "low", "high"]) fun _ _ _ _ _ _ us hl => match us, hl with | [_, _, _], _ => rfl
  have h_is_between := def_ok (g := g) (n := 3) F_is_between S_is_between rfl (by decide) fx (b_is_between (g := g) )
  have d_is_between : Def g 1 "is_between" [] f_is_between := ⟨_, _, _, [], [], h_is_between, PySem.W.mg_of X G ais_between, kis_between, bi_is_between, .nil, fun w => by simp only [Reps]⟩
  have S_are_bits : FnScope n_are_bits ["thing"] (defScope t_are_bits) := ⟨rfl, rfl, rfl, by decide +kernel, rfl, by decide +kernel, by decide +kernel⟩
  have bi_are_bits := F_are_bits.binds (ps := ["thing"]) fun _ _ _ _ _ _ us hl => match us, hl with | [_], _ => rfl
  have h_are_bits := def_ok (g := g) (n := 1) F_are_bits S_are_bits rfl (by decide) fx (b_are_bits (g := g)  d_is_between)
  have d_are_bits : Def g 2 "are_bits" [] f_are_bits := ⟨_, _, _, [], [], h_are_bits, PySem.W.mg_of X G aare_bits, kare_bits, bi_are_bits, .nil, fun w => by simp only [Reps]⟩
  have S_are_words : FnScope n_are_words ["thing"] (defScope t_are_words) := ⟨rfl, rfl, rfl, by decide +kernel, rfl, by decide +kernel, by decide +kernel⟩
  have bi_are_words := F_are_words.binds (ps := ["thing"]) fun _ _ _ _ _ _ us hl => match us, hl with | [_], _ => rfl
  have h_are_words := def_ok (g := g) (n := 1) F_are_words S_are_words rfl (by decide) fx (b_are_words (g := g) G_FEWEST_VALUES G_MOST_VALUES G_MOST_BITS d_are_bits)
  have d_are_words : Def g 3 "are_words" [] f_are_words := ⟨_, _, _, [], [], h_are_words, PySem.W.mg_of X G aare_words, kare_words, bi_are_words, .nil, fun w => by simp only [Reps]⟩
  have S_CodeX_initX : FnScope n_CodeX_initX ["self", "words"] (defScope t_CodeX_initX) := ⟨rfl, rfl, rfl, by decide +kernel, rfl, by decide +kernel, by decide +kernel⟩
  have d_CodeX_initX : Ini g 4 0 f_CodeX_initX := ⟨f_CodeX_initX_, ⟨mkC0, aCodeX_initX, iCodeX_initX, kcC0⟩, init_star (g := g) (c := 0) F_CodeX_initX S_CodeX_initX (by decide) rfl (fun _ _ _ _ _ _ us rest hl => match us, rest, hl with | [_], [], _ => rfl | [_], _ :: _, _ => rfl) fx (b_CodeX_initX (g := g)  d_are_words), rfl⟩
  have S_Code_read : FnScope n_Code_read ["cls", "text"] (defScope t_Code_read) := ⟨rfl, rfl, rfl, by decide +kernel, rfl, by decide +kernel, by decide +kernel⟩
  have bi_Code_read := F_Code_read.binds (ps := ["cls", "text"]) fun _ _ _ _ _ _ us hl => match us, hl with | [_, _], _ => rfl
  have h_Code_read := def_ok (g := g) (n := 2) F_Code_read S_Code_read rfl (by decide) fx (b_Code_read (g := g)  d_word_in d_are_words d_CodeX_initX)
  have r_Code_read : FnR g.prog g.w g.K g.mg g.base (L2.CX g.prog g.w) 6 f_Code_read_ (spF g f_Code_read) := (h_Code_read.raw bi_Code_read .nil).imp fun vs H Q E z => by rw [List.append_nil]; exact z
  have d_Code_read : CMt g 6 0 "read" f_Code_read := ⟨.type "type", pCode_read, f_Code_read_, r_Code_read, ⟨rdCode_read, gaCode_read⟩, ⟨aCode_read, ⟨_, rCode_read⟩, iCode_read⟩, rfl⟩
  have S__law_coded : FnScope n__law_coded ["_law_ring"] (defScope t__law_coded) := ⟨rfl, rfl, rfl, by decide +kernel, rfl, by decide +kernel, by decide +kernel⟩
  have bi__law_coded := F__law_coded.binds (ps := ["_law_ring"]) fun _ _ _ _ _ _ us hl => match us, hl with | [_], _ => rfl
  have h__law_coded := def_ok (g := g) (n := 1) F__law_coded S__law_coded rfl (by decide) fx (b__law_coded (g := g) C_Code d_Code_read)
  have d__law_coded : Def g 7 "_law_coded" [] f__law_coded := ⟨_, _, _, [], [], h__law_coded, PySem.W.mg_of X G a_law_coded, k_law_coded, bi__law_coded, .nil, fun w => by simp only [Reps]⟩
  have S_need_code : FnScope n_need_code ["thing"] (defScope t_need_code) := ⟨rfl, rfl, rfl, by decide +kernel, rfl, by decide +kernel, by decide +kernel⟩
  have bi_need_code := F_need_code.binds (ps := ["thing"]) fun _ _ _ _ _ _ us hl => match us, hl with | [_], _ => rfl
  have h_need_code := def_ok (g := g) (n := 1) F_need_code S_need_code rfl (by decide) fx (b_need_code (g := g) C_Code)
  have d_need_code : Def g 1 "need_code" [] f_need_code := ⟨_, _, _, [], [], h_need_code, PySem.W.mg_of X G aneed_code, kneed_code, bi_need_code, .nil, fun w => by simp only [Reps]⟩
  have S_CodeX_lenX : FnScope n_CodeX_lenX ["self"] (defScope t_CodeX_lenX) := ⟨rfl, rfl, rfl, by decide +kernel, rfl, by decide +kernel, by decide +kernel⟩
  have bi_CodeX_lenX := F_CodeX_lenX.binds (ps := ["self"]) fun _ _ _ _ _ _ us hl => match us, hl with | [_], _ => rfl
  have h_CodeX_lenX := def_ok (g := g) (n := 1) F_CodeX_lenX S_CodeX_lenX rfl (by decide) fx (b_CodeX_lenX (g := g) )
  have r_CodeX_lenX : FnR g.prog g.w g.K g.mg g.base (L2.CX g.prog g.w) 1 f_CodeX_lenX_ (spF g f_CodeX_lenX) := (h_CodeX_lenX.raw bi_CodeX_lenX .nil).imp fun vs H Q E z => by rw [List.append_nil]; exact z
  have d_CodeX_lenX : Dun g 1 0 "__len__" f_CodeX_lenX := ⟨f_CodeX_lenX_, r_CodeX_lenX, aCodeX_lenX, iCodeX_lenX, rfl⟩
  have S_window_of : FnScope n_window_of ["code", "value", "span"] (defScope t_window_of) := ⟨rfl, rfl, rfl, by decide +kernel, rfl, by decide +kernel, by decide +kernel⟩
  have bi_window_of := F_window_of.binds (ps := ["code", "value", "span"]) fun _ _ _ _ _ _ us hl => match us, hl with | [_, _, _], _ => rfl
  have h_window_of := def_ok (g := g) (n := 3) F_window_of S_window_of rfl (by decide) fx (b_window_of (g := g)  d_CodeX_lenX)
  have d_window_of : Def g 3 "window_of" [] f_window_of := ⟨_, _, _, [], [], h_window_of, PySem.W.mg_of X G awindow_of, kwindow_of, bi_window_of, .nil, fun w => by simp only [Reps]⟩
  have S_Code_words : FnScope n_Code_words ["self"] (defScope t_Code_words) := ⟨rfl, rfl, rfl, by decide +kernel, rfl, by decide +kernel, by decide +kernel⟩
  have bi_Code_words := F_Code_words.binds (ps := ["self"]) fun _ _ _ _ _ _ us hl => match us, hl with | [_], _ => rfl
  have h_Code_words := def_ok (g := g) (n := 1) F_Code_words S_Code_words rfl (by decide) fx (b_Code_words (g := g) )
  have d_Code_words : Prp g 1 0 "words" f_Code_words := ⟨pCode_words, _, _, _, h_Code_words, ⟨aCode_words, gCode_words, tCode_words, ⟨_, rCode_words⟩⟩, bi_Code_words, rfl⟩
  have S_Code_bits : FnScope n_Code_bits ["self"] (defScope t_Code_bits) := ⟨rfl, rfl, rfl, by decide +kernel, rfl, by decide +kernel, by decide +kernel⟩
  have bi_Code_bits := F_Code_bits.binds (ps := ["self"]) fun _ _ _ _ _ _ us hl => match us, hl with | [_], _ => rfl
  have h_Code_bits := def_ok (g := g) (n := 1) F_Code_bits S_Code_bits rfl (by decide) fx (b_Code_bits (g := g) )
  have d_Code_bits : Prp g 1 0 "bits" f_Code_bits := ⟨pCode_bits, _, _, _, h_Code_bits, ⟨aCode_bits, gCode_bits, tCode_bits, ⟨_, rCode_bits⟩⟩, bi_Code_bits, rfl⟩
  have S_readings_in : FnScope n_readings_in ["code", "value", "span"] (defScope t_readings_in) := ⟨rfl, rfl, rfl, by decide +kernel, rfl, by decide +kernel, by decide +kernel⟩
  have bi_readings_in := F_readings_in.binds (ps := ["code", "value", "span"]) fun _ _ _ _ _ _ us hl => match us, hl with | [_, _, _], _ => rfl
  have h_readings_in := def_ok (g := g) (n := 3) F_readings_in S_readings_in rfl (by decide) fx (b_readings_in (g := g)  d_window_of d_Code_words d_Code_bits)
  have d_readings_in : Def g 4 "readings_in" [] f_readings_in := ⟨_, _, _, [], [], h_readings_in, PySem.W.mg_of X G areadings_in, kreadings_in, bi_readings_in, .nil, fun w => by simp only [Reps]⟩
  have S_CodeX_getitemX : FnScope n_CodeX_getitemX ["self", "word"] (defScope t_CodeX_getitemX) := ⟨rfl, rfl, rfl, by decide +kernel, rfl, by decide +kernel, by decide +kernel⟩
  have bi_CodeX_getitemX := F_CodeX_getitemX.binds (ps := ["self", "word"]) fun _ _ _ _ _ _ us hl => match us, hl with | [_, _], _ => rfl
  have h_CodeX_getitemX := def_ok (g := g) (n := 2) F_CodeX_getitemX S_CodeX_getitemX rfl (by decide) fx (b_CodeX_getitemX (g := g) G_NO_WORD d_are_bits)
  have r_CodeX_getitemX : FnR g.prog g.w g.K g.mg g.base (L2.CX g.prog g.w) 3 f_CodeX_getitemX_ (spF g f_CodeX_getitemX) := (h_CodeX_getitemX.raw bi_CodeX_getitemX .nil).imp fun vs H Q E z => by rw [List.append_nil]; exact z
  have d_CodeX_getitemX : DunF g 3 0 "__getitem__" f_CodeX_getitemX := ⟨f_CodeX_getitemX_, r_CodeX_getitemX, aCodeX_getitemX, iCodeX_getitemX, jCodeX_getitemX, rfl⟩
  have S_values_in : FnScope n_values_in ["code", "value", "span"] (defScope t_values_in) := ⟨rfl, rfl, rfl, by decide +kernel, rfl, by decide +kernel, by decide +kernel⟩
  have bi_values_in := F_values_in.binds (ps := ["code", "value", "span"]) fun _ _ _ _ _ _ us hl => match us, hl with | [_, _, _], _ => rfl
  have h_values_in := def_ok (g := g) (n := 3) F_values_in S_values_in rfl (by decide) fx (b_values_in (g := g)  d_readings_in d_CodeX_getitemX)
  have d_values_in : Def g 5 "values_in" [] f_values_in := ⟨_, _, _, [], [], h_values_in, PySem.W.mg_of X G avalues_in, kvalues_in, bi_values_in, .nil, fun w => by simp only [Reps]⟩
  have S_BridgeX_initX : FnScope n_BridgeX_initX ["self", "code", "depth", "ahead", "behind", "slow"] (defScope t_BridgeX_initX) := ⟨rfl, rfl, rfl, by decide +kernel, rfl, by decide +kernel, by decide +kernel⟩
  have h_BridgeX_initX := init_okD (g := g) (c := 1) (n := 5) F_BridgeX_initX S_BridgeX_initX rfl (by decide) rfl fx (b_BridgeX_initX (g := g) G_MOST_LATE G_MOST_SLOW d_need_code d_CodeX_lenX d_is_between d_values_in)
  obtain ⟨ds0_BridgeX_initX, vl0_BridgeX_initX, bi0_BridgeX_initX⟩ := F_BridgeX_initX.binds1 (ps := ["self", "code", "depth", "ahead", "behind", "slow"]) 6 1 (by decide) (by decide) fun _ _ _ _ _ _ _ us its hl hl2 => match us, its, hl, hl2 with | [_, _, _, _, _, _], [_], _, _ => ⟨_, rfl, rfl⟩
  have d_BridgeX_initX : Ini g 6 1 f_BridgeX_initX := ⟨f_BridgeX_initX_, ⟨mkC1, aBridgeX_initX, iBridgeX_initX, kcC1⟩, (h_BridgeX_initX.raw bi0_BridgeX_initX vl0_BridgeX_initX).imp (ini_dfl0 fun w => by simp [Reps, Rep]), rfl⟩
  have S__law_built : FnScope n__law_built ["_law_plan"] (defScope t__law_built) := ⟨rfl, rfl, rfl, by decide +kernel, rfl, by decide +kernel, by decide +kernel⟩
  have bi__law_built := F__law_built.binds (ps := ["_law_plan"]) fun _ _ _ _ _ _ us hl => match us, hl with | [_], _ => rfl
  have h__law_built := def_ok (g := g) (n := 1) F__law_built S__law_built rfl (by decide) fx (b__law_built (g := g) C_Bridge d_BridgeX_initX d__law_coded)
  have d__law_built : Def g 8 "_law_built" [] f__law_built := ⟨_, _, _, [], [], h__law_built, PySem.W.mg_of X G a_law_built, k_law_built, bi__law_built, .nil, fun w => by simp only [Reps]⟩
  have S__law_same : FnScope n__law_same ["_law_found", "_law_due"] (defScope t__law_same) := ⟨rfl, rfl, rfl, by decide +kernel, rfl, by decide +kernel, by decide +kernel⟩
  have bi__law_same := F__law_same.binds (ps := ["_law_found", "_law_due"]) fun _ _ _ _ _ _ us hl => match us, hl with | [_, _], _ => rfl
  have h__law_same := def_okG (g := g) (n := 2) F__law_same S__law_same rfl (by decide) fx (b__law_same (g := g) )
  have d__law_same : DefG g 1 "_law_same" [] f__law_same := ⟨_, _, _, [], [], h__law_same, PySem.W.mg_of X G a_law_same, k_law_same, bi__law_same, .nil, fun w => by simp only [Reps]⟩
  have S__law_seen : FnScope n__law_seen ["_law_ring", "_law_begin", "_law_many"] (defScope t__law_seen) := ⟨rfl, rfl, rfl, by decide +kernel, rfl, by decide +kernel, by decide +kernel⟩
  have bi__law_seen := F__law_seen.binds (ps := ["_law_ring", "_law_begin", "_law_many"]) fun _ _ _ _ _ _ us hl => match us, hl with | [_, _, _], _ => rfl
  have h__law_seen := def_ok (g := g) (n := 3) F__law_seen S__law_seen rfl (by decide) fx (b__law_seen (g := g) )
  have d__law_seen : Def g 1 "_law_seen" [] f__law_seen := ⟨_, _, _, [], [], h__law_seen, PySem.W.mg_of X G a_law_seen, k_law_seen, bi__law_seen, .nil, fun w => by simp only [Reps]⟩
  have S_are_numbers : FnScope n_are_numbers ["thing", "many", "low", "high"] (defScope t_are_numbers) := ⟨rfl, rfl, rfl, by decide +kernel, rfl, by decide +kernel, by decide +kernel⟩
  have bi_are_numbers := F_are_numbers.binds (ps := ["thing", "many", "low", "high"]) fun _ _ _ _ _ _ us hl => match us, hl with | [_, _, _, _], _ => rfl
  have h_are_numbers := def_ok (g := g) (n := 4) F_are_numbers S_are_numbers rfl (by decide) fx (b_are_numbers (g := g)  d_is_between)
  have d_are_numbers : Def g 2 "are_numbers" [] f_are_numbers := ⟨_, _, _, [], [], h_are_numbers, PySem.W.mg_of X G aare_numbers, kare_numbers, bi_are_numbers, .nil, fun w => by simp only [Reps]⟩
  have S_Bridge_code : FnScope n_Bridge_code ["self"] (defScope t_Bridge_code) := ⟨rfl, rfl, rfl, by decide +kernel, rfl, by decide +kernel, by decide +kernel⟩
  have bi_Bridge_code := F_Bridge_code.binds (ps := ["self"]) fun _ _ _ _ _ _ us hl => match us, hl with | [_], _ => rfl
  have h_Bridge_code := def_ok (g := g) (n := 1) F_Bridge_code S_Bridge_code rfl (by decide) fx (b_Bridge_code (g := g) )
  have d_Bridge_code : Prp g 1 1 "code" f_Bridge_code := ⟨pBridge_code, _, _, _, h_Bridge_code, ⟨aBridge_code, gBridge_code, tBridge_code, ⟨_, rBridge_code⟩⟩, bi_Bridge_code, rfl⟩
  have S_Bridge_slow : FnScope n_Bridge_slow ["self"] (defScope t_Bridge_slow) := ⟨rfl, rfl, rfl, by decide +kernel, rfl, by decide +kernel, by decide +kernel⟩
  have bi_Bridge_slow := F_Bridge_slow.binds (ps := ["self"]) fun _ _ _ _ _ _ us hl => match us, hl with | [_], _ => rfl
  have h_Bridge_slow := def_ok (g := g) (n := 1) F_Bridge_slow S_Bridge_slow rfl (by decide) fx (b_Bridge_slow (g := g) )
  have d_Bridge_slow : Prp g 1 1 "slow" f_Bridge_slow := ⟨pBridge_slow, _, _, _, h_Bridge_slow, ⟨aBridge_slow, gBridge_slow, tBridge_slow, ⟨_, rBridge_slow⟩⟩, bi_Bridge_slow, rfl⟩
  have S_Bridge_ahead : FnScope n_Bridge_ahead ["self"] (defScope t_Bridge_ahead) := ⟨rfl, rfl, rfl, by decide +kernel, rfl, by decide +kernel, by decide +kernel⟩
  have bi_Bridge_ahead := F_Bridge_ahead.binds (ps := ["self"]) fun _ _ _ _ _ _ us hl => match us, hl with | [_], _ => rfl
  have h_Bridge_ahead := def_ok (g := g) (n := 1) F_Bridge_ahead S_Bridge_ahead rfl (by decide) fx (b_Bridge_ahead (g := g) )
  have d_Bridge_ahead : Prp g 1 1 "ahead" f_Bridge_ahead := ⟨pBridge_ahead, _, _, _, h_Bridge_ahead, ⟨aBridge_ahead, gBridge_ahead, tBridge_ahead, ⟨_, rBridge_ahead⟩⟩, bi_Bridge_ahead, rfl⟩
  have S_Bridge_behind : FnScope n_Bridge_behind ["self"] (defScope t_Bridge_behind) := ⟨rfl, rfl, rfl, by decide +kernel, rfl, by decide +kernel, by decide +kernel⟩
  have bi_Bridge_behind := F_Bridge_behind.binds (ps := ["self"]) fun _ _ _ _ _ _ us hl => match us, hl with | [_], _ => rfl
  have h_Bridge_behind := def_ok (g := g) (n := 1) F_Bridge_behind S_Bridge_behind rfl (by decide) fx (b_Bridge_behind (g := g) )
  have d_Bridge_behind : Prp g 1 1 "behind" f_Bridge_behind := ⟨pBridge_behind, _, _, _, h_Bridge_behind, ⟨aBridge_behind, gBridge_behind, tBridge_behind, ⟨_, rBridge_behind⟩⟩, bi_Bridge_behind, rfl⟩
  have S_is_state_in : FnScope n_is_state_in ["bridge", "thing"] (defScope t_is_state_in) := ⟨rfl, rfl, rfl, by decide +kernel, rfl, by decide +kernel, by decide +kernel⟩
  have bi_is_state_in := F_is_state_in.binds (ps := ["bridge", "thing"]) fun _ _ _ _ _ _ us hl => match us, hl with | [_, _], _ => rfl
  have h_is_state_in := def_ok (g := g) (n := 2) F_is_state_in S_is_state_in rfl (by decide) fx (b_is_state_in (g := g) G_NO_WORD d_Bridge_code d_CodeX_lenX d_Bridge_slow d_is_between d_are_numbers d_Bridge_ahead d_Bridge_behind)
  have d_is_state_in : Def g 3 "is_state_in" [] f_is_state_in := ⟨_, _, _, [], [], h_is_state_in, PySem.W.mg_of X G ais_state_in, kis_state_in, bi_is_state_in, .nil, fun w => by simp only [Reps]⟩
  have S_need_state : FnScope n_need_state ["bridge", "thing"] (defScope t_need_state) := ⟨rfl, rfl, rfl, by decide +kernel, rfl, by decide +kernel, by decide +kernel⟩
  have bi_need_state := F_need_state.binds (ps := ["bridge", "thing"]) fun _ _ _ _ _ _ us hl => match us, hl with | [_, _], _ => rfl
  have h_need_state := def_ok (g := g) (n := 2) F_need_state S_need_state rfl (by decide) fx (b_need_state (g := g)  d_is_state_in)
  have d_need_state : Def g 4 "need_state" [] f_need_state := ⟨_, _, _, [], [], h_need_state, PySem.W.mg_of X G aneed_state, kneed_state, bi_need_state, .nil, fun w => by simp only [Reps]⟩
  have S_is_beat : FnScope n_is_beat ["thing"] (defScope t_is_beat) := ⟨rfl, rfl, rfl, by decide +kernel, rfl, by decide +kernel, by decide +kernel⟩
  have bi_is_beat := F_is_beat.binds (ps := ["thing"]) fun _ _ _ _ _ _ us hl => match us, hl with | [_], _ => rfl
  have h_is_beat := def_ok (g := g) (n := 1) F_is_beat S_is_beat rfl (by decide) fx (b_is_beat (g := g) G_NO_BEAT G_WISH d_are_numbers)
  have d_is_beat : Def g 3 "is_beat" [] f_is_beat := ⟨_, _, _, [], [], h_is_beat, PySem.W.mg_of X G ais_beat, kis_beat, bi_is_beat, .nil, fun w => by simp only [Reps]⟩
  have S_need_beat : FnScope n_need_beat ["thing"] (defScope t_need_beat) := ⟨rfl, rfl, rfl, by decide +kernel, rfl, by decide +kernel, by decide +kernel⟩
  have bi_need_beat := F_need_beat.binds (ps := ["thing"]) fun _ _ _ _ _ _ us hl => match us, hl with | [_], _ => rfl
  have h_need_beat := def_ok (g := g) (n := 1) F_need_beat S_need_beat rfl (by decide) fx (b_need_beat (g := g)  d_is_beat)
  have d_need_beat : Def g 4 "need_beat" [] f_need_beat := ⟨_, _, _, [], [], h_need_beat, PySem.W.mg_of X G aneed_beat, kneed_beat, bi_need_beat, .nil, fun w => by simp only [Reps]⟩
  have S_Bridge_depth : FnScope n_Bridge_depth ["self"] (defScope t_Bridge_depth) := ⟨rfl, rfl, rfl, by decide +kernel, rfl, by decide +kernel, by decide +kernel⟩
  have bi_Bridge_depth := F_Bridge_depth.binds (ps := ["self"]) fun _ _ _ _ _ _ us hl => match us, hl with | [_], _ => rfl
  have h_Bridge_depth := def_ok (g := g) (n := 1) F_Bridge_depth S_Bridge_depth rfl (by decide) fx (b_Bridge_depth (g := g) )
  have d_Bridge_depth : Prp g 1 1 "depth" f_Bridge_depth := ⟨pBridge_depth, _, _, _, h_Bridge_depth, ⟨aBridge_depth, gBridge_depth, tBridge_depth, ⟨_, rBridge_depth⟩⟩, bi_Bridge_depth, rfl⟩
  have S_puts_in : FnScope n_puts_in ["bridge", "state", "beat"] (defScope t_puts_in) := ⟨rfl, rfl, rfl, by decide +kernel, rfl, by decide +kernel, by decide +kernel⟩
  have bi_puts_in := F_puts_in.binds (ps := ["bridge", "state", "beat"]) fun _ _ _ _ _ _ us hl => match us, hl with | [_, _, _], _ => rfl
  have h_puts_in := def_ok (g := g) (n := 3) F_puts_in S_puts_in rfl (by decide) fx (b_puts_in (g := g) G_WISH G_NO_WORD d_Bridge_code d_CodeX_lenX d_Bridge_depth)
  have d_puts_in : Def g 3 "puts_in" [] f_puts_in := ⟨_, _, _, [], [], h_puts_in, PySem.W.mg_of X G aputs_in, kputs_in, bi_puts_in, .nil, fun w => by simp only [Reps]⟩
  have S_takes_in : FnScope n_takes_in ["bridge", "state", "beat"] (defScope t_takes_in) := ⟨rfl, rfl, rfl, by decide +kernel, rfl, by decide +kernel, by decide +kernel⟩
  have bi_takes_in := F_takes_in.binds (ps := ["bridge", "state", "beat"]) fun _ _ _ _ _ _ us hl => match us, hl with | [_, _, _], _ => rfl
  have h_takes_in := def_ok (g := g) (n := 3) F_takes_in S_takes_in rfl (by decide) fx (b_takes_in (g := g) G_WISH G_NO_WORD d_Bridge_code d_CodeX_lenX d_Bridge_depth)
  have d_takes_in : Def g 3 "takes_in" [] f_takes_in := ⟨_, _, _, [], [], h_takes_in, PySem.W.mg_of X G atakes_in, ktakes_in, bi_takes_in, .nil, fun w => by simp only [Reps]⟩
  have S_moves_in : FnScope n_moves_in ["bridge", "state", "beat"] (defScope t_moves_in) := ⟨rfl, rfl, rfl, by decide +kernel, rfl, by decide +kernel, by decide +kernel⟩
  have bi_moves_in := F_moves_in.binds (ps := ["bridge", "state", "beat"]) fun _ _ _ _ _ _ us hl => match us, hl with | [_, _, _], _ => rfl
  have h_moves_in := def_ok (g := g) (n := 3) F_moves_in S_moves_in rfl (by decide) fx (b_moves_in (g := g) G_FULL G_EMPTY d_puts_in d_takes_in d_Bridge_code d_CodeX_lenX d_Bridge_depth)
  have d_moves_in : Def g 4 "moves_in" [] f_moves_in := ⟨_, _, _, [], [], h_moves_in, PySem.W.mg_of X G amoves_in, kmoves_in, bi_moves_in, .nil, fun w => by simp only [Reps]⟩
  have S_read_of : FnScope n_read_of ["bridge", "value", "steps"] (defScope t_read_of) := ⟨rfl, rfl, rfl, by decide +kernel, rfl, by decide +kernel, by decide +kernel⟩
  have bi_read_of := F_read_of.binds (ps := ["bridge", "value", "steps"]) fun _ _ _ _ _ _ us hl => match us, hl with | [_, _, _], _ => rfl
  have h_read_of := def_ok (g := g) (n := 3) F_read_of S_read_of rfl (by decide) fx (b_read_of (g := g)  d_Bridge_code d_CodeX_lenX)
  have d_read_of : Def g 3 "read_of" [] f_read_of := ⟨_, _, _, [], [], h_read_of, PySem.W.mg_of X G aread_of, kread_of, bi_read_of, .nil, fun w => by simp only [Reps]⟩
  have S_looks_in : FnScope n_looks_in ["bridge", "state", "beat", "moves"] (defScope t_looks_in) := ⟨rfl, rfl, rfl, by decide +kernel, rfl, by decide +kernel, by decide +kernel⟩
  have bi_looks_in := F_looks_in.binds (ps := ["bridge", "state", "beat", "moves"]) fun _ _ _ _ _ _ us hl => match us, hl with | [_, _, _, _], _ => rfl
  have h_looks_in := def_ok (g := g) (n := 4) F_looks_in S_looks_in rfl (by decide) fx (b_looks_in (g := g) G_NO_BEAT d_read_of)
  have d_looks_in : Def g 4 "looks_in" [] f_looks_in := ⟨_, _, _, [], [], h_looks_in, PySem.W.mg_of X G alooks_in, klooks_in, bi_looks_in, .nil, fun w => by simp only [Reps]⟩
  have S_glances_in : FnScope n_glances_in ["bridge", "state", "beat", "moves"] (defScope t_glances_in) := ⟨rfl, rfl, rfl, by decide +kernel, rfl, by decide +kernel, by decide +kernel⟩
  have bi_glances_in := F_glances_in.binds (ps := ["bridge", "state", "beat", "moves"]) fun _ _ _ _ _ _ us hl => match us, hl with | [_, _, _, _], _ => rfl
  have h_glances_in := def_ok (g := g) (n := 4) F_glances_in S_glances_in rfl (by decide) fx (b_glances_in (g := g) G_NO_BEAT d_read_of)
  have d_glances_in : Def g 4 "glances_in" [] f_glances_in := ⟨_, _, _, [], [], h_glances_in, PySem.W.mg_of X G aglances_in, kglances_in, bi_glances_in, .nil, fun w => by simp only [Reps]⟩
  have S_behind_in : FnScope n_behind_in ["bridge", "state", "beat", "moves", "look", "glance"] (defScope t_behind_in) := ⟨rfl, rfl, rfl, by decide +kernel, rfl, by decide +kernel, by decide +kernel⟩
  have bi_behind_in := F_behind_in.binds (ps := ["bridge", "state", "beat", "moves", "look", "glance"]) fun _ _ _ _ _ _ us hl => match us, hl with | [_, _, _, _, _, _], _ => rfl
  have h_behind_in := def_ok (g := g) (n := 6) F_behind_in S_behind_in rfl (by decide) fx (b_behind_in (g := g) G_NO_BEAT d_Bridge_slow d_Bridge_code d_CodeX_lenX)
  have d_behind_in : Def g 3 "behind_in" [] f_behind_in := ⟨_, _, _, [], [], h_behind_in, PySem.W.mg_of X G abehind_in, kbehind_in, bi_behind_in, .nil, fun w => by simp only [Reps]⟩
  have S_next_in : FnScope n_next_in ["bridge", "state", "beat"] (defScope t_next_in) := ⟨rfl, rfl, rfl, by decide +kernel, rfl, by decide +kernel, by decide +kernel⟩
  have bi_next_in := F_next_in.binds (ps := ["bridge", "state", "beat"]) fun _ _ _ _ _ _ us hl => match us, hl with | [_, _, _], _ => rfl
  have h_next_in := def_ok (g := g) (n := 3) F_next_in S_next_in rfl (by decide) fx (b_next_in (g := g)  d_moves_in d_looks_in d_glances_in d_behind_in)
  have d_next_in : Def g 5 "next_in" [] f_next_in := ⟨_, _, _, [], [], h_next_in, PySem.W.mg_of X G anext_in, knext_in, bi_next_in, .nil, fun w => by simp only [Reps]⟩
  have S_BridgeX_callX : FnScope n_BridgeX_callX ["self", "state", "beat"] (defScope t_BridgeX_callX) := ⟨rfl, rfl, rfl, by decide +kernel, rfl, by decide +kernel, by decide +kernel⟩
  have bi_BridgeX_callX := F_BridgeX_callX.binds (ps := ["self", "state", "beat"]) fun _ _ _ _ _ _ us hl => match us, hl with | [_, _, _], _ => rfl
  have h_BridgeX_callX := def_ok (g := g) (n := 3) F_BridgeX_callX S_BridgeX_callX rfl (by decide) fx (b_BridgeX_callX (g := g)  d_need_state d_need_beat d_next_in)
  have r_BridgeX_callX : FnR g.prog g.w g.K g.mg g.base (L2.CX g.prog g.w) 6 f_BridgeX_callX_ (spF g f_BridgeX_callX) := (h_BridgeX_callX.raw bi_BridgeX_callX .nil).imp fun vs H Q E z => by rw [List.append_nil]; exact z
  have d_BridgeX_callX : DunF g 6 1 "__call__" f_BridgeX_callX := ⟨f_BridgeX_callX_, r_BridgeX_callX, aBridgeX_callX, iBridgeX_callX, jBridgeX_callX, rfl⟩
  have S__law_steps_right : FnScope n__law_steps_right ["_law_made", "_law_plan"] (defScope t__law_steps_right) := ⟨rfl, rfl, rfl, by decide +kernel, rfl, by decide +kernel, by decide +kernel⟩
  have bi__law_steps_right := F__law_steps_right.binds (ps := ["_law_made", "_law_plan"]) fun _ _ _ _ _ _ us hl => match us, hl with | [_, _], _ => rfl
  have h__law_steps_right := def_okG (g := g) (n := 2) F__law_steps_right S__law_steps_right rfl (by decide) fx (b__law_steps_right (g := g)  d_BridgeX_callX d__law_same d__law_seen)
  have d__law_steps_right : DefG g 7 "_law_steps_right" [] f__law_steps_right := ⟨_, _, _, [], [], h__law_steps_right, PySem.W.mg_of X G a_law_steps_right, k_law_steps_right, bi__law_steps_right, .nil, fun w => by simp only [Reps]⟩
  have S__law_formed : FnScope n__law_formed ["_law_pen_here", "_law_plan"] (defScope t__law_formed) := ⟨rfl, rfl, rfl, by decide +kernel, rfl, by decide +kernel, by decide +kernel⟩
  have bi__law_formed := F__law_formed.binds (ps := ["_law_pen_here", "_law_plan"]) fun _ _ _ _ _ _ us hl => match us, hl with | [_, _], _ => rfl
  have h__law_formed := def_ok (g := g) (n := 2) F__law_formed S__law_formed rfl (by decide) fx (b__law_formed (g := g)  d__law_draw)
  have d__law_formed : Def g 2 "_law_formed" [] f__law_formed := ⟨_, _, _, [], [], h__law_formed, PySem.W.mg_of X G a_law_formed, k_law_formed, bi__law_formed, .nil, fun w => by simp only [Reps]⟩
  have S__law_pulses : FnScope n__law_pulses [] (defScope t__law_pulses) := ⟨rfl, rfl, rfl, by decide +kernel, rfl, by decide +kernel, by decide +kernel⟩
  have bi__law_pulses := F__law_pulses.binds (ps := []) fun _ _ _ _ _ _ us hl => match us, hl with | [], _ => rfl
  have h__law_pulses := def_ok (g := g) (n := 0) F__law_pulses S__law_pulses rfl (by decide) fx (b__law_pulses (g := g) )
  have d__law_pulses : Def g 1 "_law_pulses" [] f__law_pulses := ⟨_, _, _, [], [], h__law_pulses, PySem.W.mg_of X G a_law_pulses, k_law_pulses, bi__law_pulses, .nil, fun w => by simp only [Reps]⟩
  have S__law_moves : FnScope n__law_moves ["_law_plan", "_law_stand", "_law_pulse"] (defScope t__law_moves) := ⟨rfl, rfl, rfl, by decide +kernel, rfl, by decide +kernel, by decide +kernel⟩
  have bi__law_moves := F__law_moves.binds (ps := ["_law_plan", "_law_stand", "_law_pulse"]) fun _ _ _ _ _ _ us hl => match us, hl with | [_, _, _], _ => rfl
  have h__law_moves := def_ok (g := g) (n := 3) F__law_moves S__law_moves rfl (by decide) fx (b__law_moves (g := g) )
  have d__law_moves : Def g 1 "_law_moves" [] f__law_moves := ⟨_, _, _, [], [], h__law_moves, PySem.W.mg_of X G a_law_moves, k_law_moves, bi__law_moves, .nil, fun w => by simp only [Reps]⟩
  have S__law_fronts : FnScope n__law_fronts ["_law_plan", "_law_row", "_law_here", "_law_steps", "_law_has_beat"] (defScope t__law_fronts) := ⟨rfl, rfl, rfl, by decide +kernel, rfl, by decide +kernel, by decide +kernel⟩
  have bi__law_fronts := F__law_fronts.binds (ps := ["_law_plan", "_law_row", "_law_here", "_law_steps", "_law_has_beat"]) fun _ _ _ _ _ _ us hl => match us, hl with | [_, _, _, _, _], _ => rfl
  have h__law_fronts := def_ok (g := g) (n := 5) F__law_fronts S__law_fronts rfl (by decide) fx (b__law_fronts (g := g)  d__law_seen)
  have d__law_fronts : Def g 2 "_law_fronts" [] f__law_fronts := ⟨_, _, _, [], [], h__law_fronts, PySem.W.mg_of X G a_law_fronts, k_law_fronts, bi__law_fronts, .nil, fun w => by simp only [Reps]⟩
  have S__law_next : FnScope n__law_next ["_law_plan", "_law_stand", "_law_pulse"] (defScope t__law_next) := ⟨rfl, rfl, rfl, by decide +kernel, rfl, by decide +kernel, by decide +kernel⟩
  have bi__law_next := F__law_next.binds (ps := ["_law_plan", "_law_stand", "_law_pulse"]) fun _ _ _ _ _ _ us hl => match us, hl with | [_, _, _], _ => rfl
  have h__law_next := def_ok (g := g) (n := 3) F__law_next S__law_next rfl (by decide) fx (b__law_next (g := g)  d__law_moves d__law_fronts)
  have d__law_next : Def g 3 "_law_next" [] f__law_next := ⟨_, _, _, [], [], h__law_next, PySem.W.mg_of X G a_law_next, k_law_next, bi__law_next, .nil, fun w => by simp only [Reps]⟩
  have S__law_idle_right : FnScope n__law_idle_right ["_law_pen_here", "_law_made", "_law_plan"] (defScope t__law_idle_right) := ⟨rfl, rfl, rfl, by decide +kernel, rfl, by decide +kernel, by decide +kernel⟩
  have bi__law_idle_right := F__law_idle_right.binds (ps := ["_law_pen_here", "_law_made", "_law_plan"]) fun _ _ _ _ _ _ us hl => match us, hl with | [_, _, _], _ => rfl
  have h__law_idle_right := def_okG (g := g) (n := 3) F__law_idle_right S__law_idle_right rfl (by decide) fx (b__law_idle_right (g := g)  d__law_formed d__law_pulses d_BridgeX_callX d__law_same d__law_next)
  have d__law_idle_right : DefG g 7 "_law_idle_right" [] f__law_idle_right := ⟨_, _, _, [], [], h__law_idle_right, PySem.W.mg_of X G a_law_idle_right, k_law_idle_right, bi__law_idle_right, .nil, fun w => by simp only [Reps]⟩
  have S_law : FnScope n_law ["_law_script"] (defScope t_law) := ⟨rfl, rfl, rfl, by decide +kernel, rfl, by decide +kernel, by decide +kernel⟩
  have bi_law := F_law.binds (ps := ["_law_script"]) fun _ _ _ _ _ _ us hl => match us, hl with | [_], _ => rfl
  have h_law := def_okG (g := g) (n := 1) F_law S_law rfl (by decide) fx (b_law (g := g)  d__law_pen d__law_cell_at d__law_sparse d__law_draw d__law_built d__law_steps_right d__law_idle_right)
  exact h_law

theorem walk {l : PySem.W.OpenLaw} {q : Program} {loose : List Str} {XP : (Str → Option Value) → Heap → Prop} {YP : World → Heap → Prop} {d : DefRec} {K : Params → PySem.W.Frag} (hn : l.most = some 63) (hdf : d.params.defaults = [])
    (hY : ∀ (w : World) (h : Heap), YP w h → (K w.params).In h)
    (F : ∀ (w : World) (mg : Str → Option Value) (fa : Addr) (h : Heap), (K w.params).In h → h.Ns mainGlobals mg → mg d.name = some (.ref fa) →
      ∃ fd : FuncData, (∀ (s : Shared) (u : Value), BindsTo s fd ⟨[u], []⟩ [("_law_script", u)]) ∧ ∀ base : Heap, (K w.params).In base → base.Ns mainGlobals mg → ∃ g : Gs, g.K = K w.params ∧ FnG l.prog w (K w.params) mg base (L2.CX l.prog w) 9 fa fd ["_law_script"] (spF g f_law))
    (law_true : ∀ ns : List Int, ns.length ≤ 63 → ∃ B, f_law [.scr (ns.map D.int)] [] = .ok (.bool true) B) : PySem.W.WalkO q loose XP YP l.row.toRowW d [] (fun f vs => PySem.call f vs) := by
  refine Hf.walkG (n := 63) (k := 9) (x := "_law_script") (CX := fun w => L2.CX l.prog w) (sp := fun w => spL (K w.params)) hn (by decide) hdf ⟨rfl, by decide, by decide⟩ hY (fun w mg fa h a1 a2 a3 => ?_) (fun w H a ns hl _ hO hS => ⟨a, ns, rfl, hS, hl, hO, fun _ => rfl⟩) ?_
  · obtain ⟨fd, b1, b2⟩ := F w mg fa h a1 a2 a3
    refine ⟨fd, b1, fun base c1 c2 => ?_⟩
    obtain ⟨g, hg, hF⟩ := b2 base c1 c2
    exact top_promise hg hF law_true
  · rintro w H s e s' ⟨_, _, _, _, _, _, _, _, _, _, _, _, z⟩
    exact z.elim

end Hk

set_option Elab.async false
set_option linter.all false
set_option maxRecDepth 100000
namespace Hf
open PySem PySem.Spec PyProof.Rows L2

/-! ### the meanings, run on plain data -/
@[simp] theorem z_mSkip (σ : Sl) (B : Bs) : mSkip σ B = .next σ B := (rfl)
@[simp] theorem z_mSeq (m1 m2 : Ms) (σ : Sl) (B : Bs) : mSeq m1 m2 σ B = (m1 σ B).seq m2 := (rfl)
@[simp] theorem z_mRet (m : Ev) (σ : Sl) (B : Bs) : mRet m σ B = (m σ B).st fun d B1 => .ret d B1 := (rfl)
@[simp] theorem z_mRetN (w0 : Sl) (B : Bs) : mRetN w0 B = .ret .none B := (rfl)
@[simp] theorem z_mDo (m : Ev) (σ : Sl) (B : Bs) : mDo m σ B = (m σ B).st fun _ B1 => .next σ B1 := (rfl)
@[simp] theorem z_mIf (t : Et) (m1 m2 : Ms) (σ : Sl) (B : Bs) : mIf t m1 m2 σ B = (t σ B).st fun k B1 => if k then m1 σ B1 else m2 σ B1 := (rfl)
@[simp] theorem z_mSet (i : Nat) (m : Ev) (σ : Sl) (B : Bs) : mSet i m σ B = (m σ B).st fun d B1 => .next (σ.set i (some (false, d))) B1 := (rfl)
@[simp] theorem z_mSetO (i : Nat) (m : Ev) (σ : Sl) (B : Bs) : mSetO i m σ B = (m σ B).st fun d B1 => .next (σ.set i (some (true, d))) B1 := (rfl)
@[simp] theorem z_mFrz (i : Nat) (m : Ms) (σ : Sl) (B : Bs) : mFrz i m σ B = match frz i σ with
  | some σ' => m σ' B
  | Option.none => .bad := (rfl)
@[simp] theorem z_mAsg (t : Tg) (m : Ev) (σ : Sl) (B : Bs) : mAsg t m σ B = (m σ B).st fun d B1 => match t d σ with
  | some σ' => .next σ' B1
  | Option.none => .bad := (rfl)
@[simp] theorem z_gN (i : Nat) (d : D) (σ : Sl) : gN i d σ = some (σ.set i (some (false, d))) := (rfl)
@[simp] theorem z_gT (t : Tgs) (d : D) (σ : Sl) : gT t d σ = match d with
  | .tup ds => t ds σ
  | .prs ds => t ds σ
  | _ => Option.none := (rfl)
@[simp] theorem z_gs0 (ds : List D) (σ : Sl) : gs0 ds σ = match ds with
  | [] => some σ
  | _ => Option.none := (rfl)
@[simp] theorem z_gsC (t : Tg) (u : Tgs) (ds : List D) (σ : Sl) : gsC t u ds σ = match ds with
  | d :: r => (t d σ).bind fun σ' => u r σ'
  | [] => Option.none := rfl
@[simp] theorem z_mVar (i : Nat) (σI : Sl) (B : Bs) : mVar i σI B = match σI[i]? with
  | some (some (false, d)) => .ok d B
  | _ => .bad := rfl
@[simp] theorem z_mBor (i : Nat) (σI : Sl) (B : Bs) : mBor i σI B = match σI[i]? with
  | some (some (_, d)) => .ok d B
  | _ => .bad := rfl
@[simp] theorem z_mC (d : D) (w0 : Sl) (B : Bs) : mC d w0 B = .ok d B := (rfl)
@[simp] theorem z_mBin (f : D → D → Bs → Rs D) (a b : Ev) (σI : Sl) (B : Bs) : mBin f a b σI B = (a σI B).bind fun x B1 => (b σI B1).bind fun y B2 => f x y B2 := (rfl)
@[simp] theorem z_mCmpT (f : D → D → Bs → Rs D) (ma mb : Ev) (σI : Sl) (B : Bs) : mCmpT f ma mb σI B = (ma σI B).bind fun x B1 => (mb σI B1).bind fun y B2 => toB (f x y B2) := (rfl)
@[simp] theorem z_mChain (f f' : D → D → Bs → Rs D) (ma mb mc : Ev) (σI : Sl) (B : Bs) : mChain f f' ma mb mc σI B = (ma σI B).bind fun x B1 => (mb σI B1).bind fun y B2 => (toB (f x y B2)).bind fun k B3 =>
  if k then (mc σI B3).bind fun z B4 => f' y z B4 else .ok (.bool false) B3 := rfl
@[simp] theorem z_mChainT (f f' : D → D → Bs → Rs D) (ma mb mc : Ev) (σI : Sl) (B : Bs) : mChainT f f' ma mb mc σI B = (ma σI B).bind fun x B1 => (mb σI B1).bind fun y B2 => (toB (f x y B2)).bind fun k B3 =>
  if k then (mc σI B3).bind fun z B4 => toB (f' y z B4) else .ok false B3 := rfl
@[simp] theorem z_mT (m : Ev) (σI : Sl) (B : Bs) : mT m σI B = (m σI B).bind fun d B1 => tru d B1 := (rfl)
@[simp] theorem z_mNotT (t : Et) (σI : Sl) (B : Bs) : mNotT t σI B = (t σI B).bind fun k B1 => .ok (!k) B1 := (rfl)
@[simp] theorem z_mAndT (t u : Et) (σI : Sl) (B : Bs) : mAndT t u σI B = (t σI B).bind fun k B1 => if k then u σI B1 else .ok false B1 := (rfl)
@[simp] theorem z_mOrT (t u : Et) (σI : Sl) (B : Bs) : mOrT t u σI B = (t σI B).bind fun k B1 => if k then .ok true B1 else u σI B1 := (rfl)
@[simp] theorem z_mAnd (ma mb : Ev) (σI : Sl) (B : Bs) : mAnd ma mb σI B = (ma σI B).bind fun d B1 => (tru d B1).bind fun k _ => if k then mb σI B1 else .ok d B1 := (rfl)
@[simp] theorem z_mOr (ma mb : Ev) (σI : Sl) (B : Bs) : mOr ma mb σI B = (ma σI B).bind fun d B1 => (tru d B1).bind fun k _ => if k then .ok d B1 else mb σI B1 := (rfl)
@[simp] theorem z_mNot (ma : Ev) (σI : Sl) (B : Bs) : mNot ma σI B = (ma σI B).bind fun d B1 => (tru d B1).bind fun k _ => .ok (.bool (!k)) B1 := (rfl)
@[simp] theorem z_mIte (t : Et) (ma mb : Ev) (σI : Sl) (B : Bs) : mIte t ma mb σI B = (t σI B).bind fun k B1 => if k then ma σI B1 else mb σI B1 := (rfl)
@[simp] theorem z_mNeg (ma : Ev) (σI : Sl) (B : Bs) : mNeg ma σI B = (ma σI B).bind fun d B1 => match d with
  | .int i => .ok (.int (-i)) B1
  | _ => .bad := rfl
@[simp] theorem z_mNil (w0 : Sl) (B : Bs) : mNil w0 B = .ok [] B := (rfl)
@[simp] theorem z_mCons (m : Ev) (ms : Evs) (σI : Sl) (B : Bs) : mCons m ms σI B = (m σI B).bind fun d B1 => (ms σI B1).bind fun ds B2 => .ok (d :: ds) B2 := (rfl)
@[simp] theorem z_mStar (m : Ev) (ms : Evs) (σI : Sl) (B : Bs) : mStar m ms σI B = (m σI B).bind fun d B1 => match seqOf d with
  | some ds => (ms σI B1).bind fun es B2 => .ok (ds ++ es) B2
  | Option.none => .bad := (rfl)
@[simp] theorem z_mTup (ms : Evs) (σI : Sl) (B : Bs) : mTup ms σI B = (ms σI B).bind fun ds B1 => if szL ds then .ok (.tup ds) B1 else .bad := (rfl)
@[simp] theorem z_mLst (ms : Evs) (σI : Sl) (B : Bs) : mLst ms σI B = (ms σI B).bind fun ds B1 => if szL ds then .ok (.lst ds) B1 else .bad := (rfl)
@[simp] theorem z_mSl00 (m : Ev) (σI : Sl) (B : Bs) : mSl00 m σI B = (m σI B).bind fun d B1 => fSl d none none B1 := (rfl)
@[simp] theorem z_mSl10 (m ml : Ev) (σI : Sl) (B : Bs) : mSl10 m ml σI B = (m σI B).bind fun d B1 => (ml σI B1).bind fun l B2 => (asI l B2).bind fun i B3 => fSl d (some i) none B3 := (rfl)
@[simp] theorem z_mSl01 (m mh : Ev) (σI : Sl) (B : Bs) : mSl01 m mh σI B = (m σI B).bind fun d B1 => (mh σI B1).bind fun l B2 => (asI l B2).bind fun i B3 => fSl d none (some i) B3 := (rfl)
@[simp] theorem z_mSl11 (m ml mh : Ev) (σI : Sl) (B : Bs) : mSl11 m ml mh σI B = (m σI B).bind fun d B1 => (ml σI B1).bind fun l B2 => (asI l B2).bind fun i B3 => (mh σI B3).bind fun h B4 => (asI h B4).bind fun j B5 => fSl d (some i) (some j) B5 := (rfl)
@[simp] theorem z_m1 (k : D → Bs → Rs D) (m : Ev) (σI : Sl) (B : Bs) : m1 k m σI B = (m σI B).bind k := (rfl)
@[simp] theorem z_mItems (m : Ev) (σ : Sl) (B : Bs) : mItems m σ B = (m σ B).bind fun d B1 => match itemsOf d with
  | some ds => .ok ds B1
  | Option.none => .bad := (rfl)
@[simp] theorem z_mRng1 (m : Ev) (σ : Sl) (B : Bs) : mRng1 m σ B = (m σ B).bind fun d B1 => (asI d B1).bind fun n B2 => if rngB n then .ok (rngD 0 n.toNat) B2 else .bad := (rfl)
@[simp] theorem z_mRng2 (ma mb : Ev) (σ : Sl) (B : Bs) : mRng2 ma mb σ B = (ma σ B).bind fun d B1 => (asI d B1).bind fun i B2 => (mb σ B2).bind fun e B3 => (asI e B3).bind fun j B4 => if rngB i && rngB j then .ok (rngD i (j - i).toNat) B4 else .bad := (rfl)
@[simp] theorem z_mYes (w0 : Sl) (B : Bs) : mYes w0 B = .ok true B := (rfl)
@[simp] theorem z_mCall (f : Fn) (dfl : List D) (ms : Evs) (σ : Sl) (B : Bs) : mCall f dfl ms σ B = (ms σ B).bind fun ds B1 => f (ds ++ dfl) B1 := (rfl)
@[simp] theorem z_mBad (w0 : Sl) (w1 : Bs) : mBad w0 w1 = .bad := (rfl)
@[simp] theorem z_mFld (c j : Nat) (m : Ev) (σ : Sl) (B : Bs) : mFld c j m σ B = (m σ B).bind fun d B1 => match d with
  | .inst c' ds => if c' = c then okIf ds[j]? B1 else .bad
  | _ => .bad := rfl
@[simp] theorem z_mPrp (c : Nat) (f : Fn) (m : Ev) (σ : Sl) (B : Bs) : mPrp c f m σ B = (m σ B).bind (prpK c f) := (rfl)
@[simp] theorem z_mMakeS (f : Fn) (m : Ev) (σ : Sl) (B : Bs) : mMakeS f m σ B = (m σ B).bind fun d B1 => match d with
  | .tup ds => f ds B1
  | .lst ds => f ds B1
  | _ => .bad := rfl
@[simp] theorem z_mMakeV (i c : Nat) (f : Fn) (m : Ev) (σ : Sl) (B : Bs) : mMakeV i c f m σ B = match σ[i]? with
  | some (some (false, .cls c')) => if c' = c then mMakeS f m σ B else .bad
  | _ => .bad := rfl
@[simp] theorem z_mMake (f : Fn) (ms : Evs) (σ : Sl) (B : Bs) : mMake f ms σ B = (ms σ B).bind fun ds B1 => f ds B1 := (rfl)
@[simp] theorem z_mCMth (c : Nat) (f : Fn) (ms : Evs) (σ : Sl) (B : Bs) : mCMth c f ms σ B = (ms σ B).bind fun ds B1 => f (.cls c :: ds) B1 := (rfl)
@[simp] theorem z_bind_ok {α β : Type} (a : α) (B : Bs) (f : α → Bs → Rs β) : (Rs.ok a B).bind f = f a B := (rfl)
@[simp] theorem z_st_ok {α : Type} (a : α) (B : Bs) (f : α → Bs → Ss) : (Rs.ok a B).st f = f a B := (rfl)
@[simp] theorem z_seq_next (σ : Sl) (B : Bs) (k : Ms) : (Ss.next σ B).seq k = k σ B := (rfl)
@[simp] theorem z_seq_ret (d : D) (B : Bs) (k : Ms) : (Ss.ret d B).seq k = .ret d B := (rfl)
@[simp] theorem z_fin_next (σ : Sl) (B : Bs) : (Ss.next σ B).fin = .ok .none B := (rfl)
@[simp] theorem z_fin_ret (d : D) (B : Bs) : (Ss.ret d B).fin = .ok d B := (rfl)
@[simp] theorem z_toB (b : Bool) (B : Bs) : toB (.ok (.bool b) B) = .ok b B := (rfl)
@[simp] theorem z_tru_b (b : Bool) (B : Bs) : tru (.bool b) B = .ok b B := (rfl)
@[simp] theorem z_tru_i (i : Int) (B : Bs) : tru (.int i) B = .ok (i != 0) B := (rfl)
@[simp] theorem z_seq_t (ds : List D) : seqOf (.tup ds) = some ds := (rfl)
@[simp] theorem z_seq_l (ds : List D) : seqOf (.lst ds) = some ds := (rfl)
@[simp] theorem z_okIf (d : D) (B : Bs) : okIf (some d) B = .ok d B := (rfl)
@[simp] theorem z_asI (i : Int) (B : Bs) : asI (.int i) B = .ok i B := (rfl)
@[simp] theorem z_it_t (ds : List D) : itemsOf (.tup ds) = some ds := (rfl)
@[simp] theorem z_it_l (ds : List D) : itemsOf (.lst ds) = some ds := (rfl)
@[simp] theorem z_it_s (ds : List D) : itemsOf (.scr ds) = some ds := (rfl)
@[simp] theorem z_mkFn (n k : Nat) (b : Ms) (ds : List D) (B : Bs) : mkFn n k b ds B = if ds.length = n then (b (ds.map (fun d => some (false, d)) ++ List.replicate (k - n) Option.none) B).fin else .bad := (rfl)
@[simp] theorem z_prpK (c : Nat) (f : Fn) (ds : List D) (B : Bs) : prpK c f (.inst c ds) B = noX (f [.inst c ds] B) := by simp [prpK]
@[simp] theorem z_noX {α : Type} (a : α) (B : Bs) : noX (.ok a B) = .ok a B := (rfl)
@[simp] theorem z_isIi (i : Int) : isB .int (.int i) = some true := (rfl)
@[simp] theorem z_isBi (i : Int) : isB .bool (.int i) = some false := (rfl)
@[simp] theorem z_isTt (ds : List D) : isB .tuple (.tup ds) = some true := (rfl)
@[simp] theorem z_isSs (x : Str) : isB .str (.str x) = some true := (rfl)
@[simp] theorem z_isC (c : Nat) (ds : List D) : isC c (.inst c ds) = some true := by simp [isC, subC]
@[simp] theorem z_mIsB (T : Bt) (m : Ev) (σ : Sl) (B : Bs) : mIsB T m σ B = (m σ B).bind fun d B => match isB T d with
  | some r => .ok (.bool r) B
  | Option.none => .bad := (rfl)
@[simp] theorem z_mIsC (c : Nat) (m : Ev) (σ : Sl) (B : Bs) : mIsC c m σ B = (m σ B).bind fun d B => match isC c d with
  | some r => .ok (.bool r) B
  | Option.none => .bad := (rfl)
@[simp] theorem z_frz (i : Nat) (σ : Sl) : frz i σ = match σ[i]? with
  | some (some (true, .inst _ _)) => Option.none
  | some (some (_, d)) => some (σ.set i (some (false, d)))
  | _ => Option.none := (rfl)
@[simp] theorem z_fSub (i j : Int) (B : Bs) : fSub (.int i) (.int j) B = .ok (.int (i - j)) B := (rfl)
@[simp] theorem z_fAddI (i j : Int) (B : Bs) : fAdd (.int i) (.int j) B = .ok (.int (i + j)) B := (rfl)
theorem z_fMod (i j : Int) (B : Bs) (h : 0 < j) : fMod (.int i) (.int j) B = .ok (.int (i % j)) B := by simp [fMod, fI2, h]
theorem z_fDiv (i j : Int) (B : Bs) (h : 0 < j) (h2 : j < 1073741824) : fDiv (.int i) (.int j) B = .ok (.int (i / j)) B := by simp [fDiv, fI2, h, h2]
theorem z_fMulI (i j : Int) (B : Bs) (h : (wideB i || wideB j) = true) : fMul (.int i) (.int j) B = .ok (.int (i * j)) B := by simp [fMul, h]
theorem wide_of {i : Int} (h : -(2 ^ 64) < i) (h2 : i < 2 ^ 64) : wideB i = true := by simp [wideB]; omega
@[simp] theorem z_fLt (i j : Int) (B : Bs) : fLt (.int i) (.int j) B = .ok (.bool (decide (i < j))) B := (rfl)
@[simp] theorem z_fLe (i j : Int) (B : Bs) : fLe (.int i) (.int j) B = .ok (.bool (decide (i ≤ j))) B := (rfl)
@[simp] theorem z_fGt (i j : Int) (B : Bs) : fGt (.int i) (.int j) B = .ok (.bool (decide (j < i))) B := (rfl)
@[simp] theorem z_fGe (i j : Int) (B : Bs) : fGe (.int i) (.int j) B = .ok (.bool (decide (j ≤ i))) B := (rfl)
@[simp] theorem z_fMax2 (i j : Int) (B : Bs) : fMax2 (.int i) (.int j) B = .ok (.int (if j > i then j else i)) B := (rfl)
@[simp] theorem z_fMin2 (i j : Int) (B : Bs) : fMin2 (.int i) (.int j) B = .ok (.int (if j < i then j else i)) B := (rfl)
@[simp] theorem z_lenT (ds : List D) (B : Bs) : fLen (.tup ds) B = .ok (.int ds.length) B := (rfl)
@[simp] theorem z_lenL (ds : List D) (B : Bs) : fLen (.lst ds) B = .ok (.int ds.length) B := (rfl)
@[simp] theorem z_lenS (ds : List D) (B : Bs) : fLen (.scr ds) B = .ok (.int ds.length) B := (rfl)
@[simp] theorem z_tupL (ds : List D) (B : Bs) : fTupO (.lst ds) B = .ok (.tup ds) B := (rfl)
@[simp] theorem z_tupT (ds : List D) (B : Bs) : fTupO (.tup ds) B = .ok (.tup ds) B := (rfl)


theorem lcL_map {α : Type} {t : Tg} {mt : Et} {me : Ev} {σ : Sl} {B : Bs} (F G : α → D) : (xs : List α) → (h : ∀ x ∈ xs, ∃ σ', t (F x) σ = some σ' ∧ mt σ' B = .ok true B ∧ me σ' B = .ok (G x) B) →
    lcL t mt me σ (xs.map F) B = .ok (xs.map G) B
  | [], _ => rfl
  | x :: xs, h => by
    obtain ⟨σ', h1, h2, h3⟩ := h x (List.mem_cons_self ..)
    have ih := lcL_map (t := t) (mt := mt) (me := me) (σ := σ) (B := B) F G xs fun y hy => h y (List.mem_cons_of_mem _ hy)
    simp [lcL, h1, h2, h3, ih]
theorem mLc_map {α : Type} {vs : List Nat} {i : Nat} {mi : Ei} {me : Ev} {σ : Sl} {B : Bs} {ds : List D} (F G : α → D) (xs : List α) (hi : mi σ B = .ok ds B) (hd : ds = xs.map F) (hl : xs.length ≤ sizeLine)
    (h : ∀ x ∈ xs, me ((wipeI σ vs).set i (some (false, F x))) B = .ok (G x) B) : mLc vs (gN i) mi mYes me σ B = .ok (.lst (xs.map G)) B := by
  subst hd
  have := lcL_map (t := gN i) (mt := mYes) (me := me) (σ := wipeI σ vs) (B := B) F G xs fun x hx => ⟨_, rfl, rfl, h x hx⟩
  simp [mLc, hi, this, szL, hl]
/-- a comprehension that changes boxes: what is known of each value and of the boxes is kept -/
theorem lcL_inv {t : Tg} {me : Ev} {σ : Sl} {N : Nat} (I : Bs → List D → Prop) : (ds : List D) → (B : Bs) → (acc : List D) → acc.length + ds.length = N → (h : ∀ d ∈ ds, ∀ B acc, acc.length < N → I B acc → ∃ σ', t d σ = some σ' ∧ ∃ e B', me σ' B = .ok e B' ∧ I B' (acc ++ [e])) → I B acc →
    ∃ es B', lcL t mYes me σ ds B = .ok es B' ∧ I B' (acc ++ es) ∧ es.length = ds.length
  | [], B, acc, _, _, hI => ⟨[], B, rfl, by simpa using hI, rfl⟩
  | d :: ds, B, acc, hN, h, hI => by
    obtain ⟨σ', h1, e, B1, h2, h3⟩ := h d (List.mem_cons_self ..) B acc (by simp at hN; omega) hI
    obtain ⟨es, B2, h4, h5, h6⟩ := lcL_inv (t := t) (me := me) (σ := σ) (N := N) I ds B1 (acc ++ [e]) (by simp at hN ⊢; omega) (fun d hd => h d (List.mem_cons_of_mem _ hd)) h3
    exact ⟨e :: es, B2, by simp [lcL, h1, h2, h4], by simpa using h5, by simp [h6]⟩
theorem mLc_inv {vs : List Nat} {i : Nat} {mi : Ei} {me : Ev} {σ : Sl} {B : Bs} {ds : List D} (I : Bs → List D → Prop) (hi : mi σ B = .ok ds B) (hl : ds.length ≤ sizeLine) (h0 : I B [])
    (h : ∀ d ∈ ds, ∀ B acc, acc.length < ds.length → I B acc → ∃ e B', me ((wipeI σ vs).set i (some (false, d))) B = .ok e B' ∧ I B' (acc ++ [e])) : ∃ es B', mLc vs (gN i) mi mYes me σ B = .ok (.lst es) B' ∧ I B' es ∧ es.length = ds.length := by
  obtain ⟨es, B', h1, h2, h3⟩ := lcL_inv (t := gN i) (me := me) (σ := wipeI σ vs) (N := ds.length) I ds B [] (by simp) (fun d hd B acc hn hI => ⟨_, rfl, h d hd B acc hn hI⟩) h0
  exact ⟨es, B', by simp [mLc, hi, h1, szL, h3, hl], by simpa using h2, h3⟩
theorem forL_inv {t : Tg} {b : Ms} (I : Nat → Sl → Bs → Prop) : (ds : List D) → (n : Nat) → (σ : Sl) → (B : Bs) → (h : ∀ i d σ B, ds[i]? = some d → I (n + i) σ B → ∃ σ', t d σ = some σ' ∧ ∃ σ'' B'', b σ' B = .next σ'' B'' ∧ I (n + i + 1) σ'' B'') → I n σ B →
    ∃ σ' B', forL t b ds σ B = .next σ' B' ∧ I (n + ds.length) σ' B'
  | [], n, σ, B, _, hI => ⟨σ, B, rfl, hI⟩
  | d :: ds, n, σ, B, h, hI => by
    obtain ⟨σ', h1, σ2, B2, h2, h3⟩ := h 0 d σ B rfl hI
    obtain ⟨σ3, B3, h4, h5⟩ := forL_inv (t := t) (b := b) I ds (n + 1) σ2 B2 (fun i d σ B hd hI => by
      have e : n + 1 + i = n + (i + 1) := by omega
      rw [e] at hI ⊢
      exact h (i + 1) d σ B (by simpa using hd) hI) h3
    refine ⟨σ3, B3, by simp [forL, h1, h2, h4], ?_⟩
    have e : n + 1 + ds.length = n + (d :: ds).length := by simp; omega
    rwa [e] at h5
theorem rngD_get {a : Int} {n i : Nat} {d : D} (h : (rngD a n)[i]? = some d) : d = .int (a + (i : Nat)) ∧ i < n := by
  simp only [rngD, List.getElem?_map, Option.map_eq_some_iff] at h
  obtain ⟨j, h1, h2⟩ := h
  obtain ⟨h3, h4⟩ := List.getElem?_eq_some_iff.mp h1
  simp at h3 h4; subst h4; exact ⟨h2.symm, h3⟩
theorem rngD_mem {a : Int} {n : Nat} {d : D} (h : d ∈ rngD a n) : ∃ i : Nat, d = .int (a + (i : Nat)) ∧ i < n := by
  obtain ⟨i, h1⟩ := List.getElem?_of_mem h
  exact ⟨i, rngD_get h1⟩
theorem size_big : (1000000 : Nat) ≤ sizeLine := by decide
end Hf

set_option Elab.async false
set_option linter.all false
set_option maxRecDepth 100000
namespace Hk
open PySem PySem.Spec PyProof.Rows L2 Hf

/-! ### the pen -/
structure PenOk (B : Bs) (n : Nat) : Prop where
  at_ : ∃ a b c : Int, B[n]? = some (.lst [.int a, .int b, .int c]) ∧ 0 ≤ b ∧ b < 2 ^ 31
structure PenStep (n : Nat) (B B' : Bs) : Prop where
  ok : PenOk B' n
  len : B'.length = B.length
  oth : ∀ m, m ≠ n → B'[m]? = B[m]?
theorem pen_set {B : Bs} {n : Nat} {a b c : Int} {d : D} (h : B[n]? = some d) (h0 : 0 ≤ b) (h1 : b < 2 ^ 31) : PenStep n B (B.set n (.lst [.int a, .int b, .int c])) := by
  have hn : n < B.length := (List.getElem?_eq_some_iff.mp h).1
  refine ⟨⟨a, b, c, by simp [hn], h0, h1⟩, by simp, fun m hm => ?_⟩
  rw [List.getElem?_set_ne (by omega)]
theorem law_draw_ok {B : Bs} {n : Nat} {k : Int} (P : PenOk B n) (h0 : 0 < k) (h1 : k < 1073741824) :
    ∃ (v : Int) (B' : Bs), f__law_draw [.box n, .int k] B = .ok (.int v) B' ∧ 0 ≤ v ∧ v < k ∧ PenStep n B B' := by
  obtain ⟨⟨a, b, c, hB, hb0, hb1⟩⟩ := P
  have hn : n < B.length := (List.getElem?_eq_some_iff.mp hB).1
  by_cases ha : 0 < a
  · refine ⟨a % k, _, ?_, Int.emod_nonneg _ (by omega), Int.emod_lt_of_pos _ h0, pen_set (a := a / k) (b := b) (c := c) hB hb0 hb1⟩
    simp [f__law_draw, m__law_draw, fIx, hB, atI, ha, z_fMod _ _ _ h0, z_fDiv _ _ _ h0 h1, mSetIx, ixN]
  · have e1 : ∀ x : Int, 0 ≤ x % 2147483647 ∧ x % 2147483647 < 2147483647 := fun x => ⟨Int.emod_nonneg _ (by decide), Int.emod_lt_of_pos _ (by decide)⟩
    have e2 : ∀ x : Int, 0 ≤ x % 2147483629 ∧ x % 2147483629 < 2147483629 := fun x => ⟨Int.emod_nonneg _ (by decide), Int.emod_lt_of_pos _ (by decide)⟩
    have w1 : wideB b = true := wide_of (by omega) (by omega)
    have w2 : ∀ x : Int, wideB (x % 2147483647) = true := fun x => wide_of (by have := e1 x; omega) (by have := e1 x; omega)
    have w3 : ∀ x : Int, wideB (x % 2147483629) = true := fun x => wide_of (by have := e2 x; omega) (by have := e2 x; omega)
    have w4 : wideB 1013 = true := by decide
    have w5 : wideB 69621 = true := by decide
    have w6 : wideB 40692 = true := by decide
    obtain ⟨r, hr⟩ : ∃ r, r = (b * 48271 + 1013 * (c + 1) + 7) % 2147483647 := ⟨_, rfl⟩
    obtain ⟨p, hp⟩ : ∃ p, p = (r * r + 69621 * r + 11) % 2147483629 := ⟨_, rfl⟩
    have wr : wideB r = true := hr ▸ w2 _
    have wp : wideB p = true := hp ▸ w3 _
    refine ⟨(p * p + 40692 * p) % 2147483587 / 16 % k, B.set n (.lst [.int a, .int r, .int (c + 1)]), ?_, Int.emod_nonneg _ (by omega), Int.emod_lt_of_pos _ h0, pen_set hB (hr ▸ (e1 _).1) (by have := e1 (b * 48271 + 1013 * (c + 1) + 7); omega)⟩
    have hs : ∀ x, (B.set n x)[n]? = some x := fun x => by simp [hn]
    clear hn
    simp [f__law_draw, m__law_draw, fIx, hB, atI, ha, mSetIx, ixN, hs, z_fMulI, w1, w4, w5, w6, ← hr, wr, ← hp, wp, z_fMod, z_fDiv, h0]
theorem pick_perm {α : Type} : (l : List α) → (i : Nat) → (h : i < l.length) → (l[i] :: l.eraseIdx i).Perm l
  | x :: l, 0, _ => by simp
  | x :: l, i + 1, h => by
    simp only [List.getElem_cons_succ, List.eraseIdx_cons_succ]
    exact (List.Perm.swap _ _ _).trans ((pick_perm l i (by simpa using h)).cons x)
/-- what a run keeps that only draws and makes new boxes -/
structure PenKeep (n : Nat) (B B' : Bs) : Prop where
  ok : PenOk B' n
  len : B.length ≤ B'.length
theorem pen_lt {B : Bs} {n : Nat} (P : PenOk B n) : n < B.length := by
  obtain ⟨⟨a, b, c, h, _⟩⟩ := P
  exact (List.getElem?_eq_some_iff.mp h).1
theorem fNeB_nil {B : Bs} {m : Nat} {rest : List D} (h : B[m]? = some (.lst rest)) (hs : shp (.lst rest) = true) : fNeB (.box m) (.lst []) B = .ok (.bool (!rest.isEmpty)) B := by
  have e0 : shp (.lst []) = true := rfl
  have e1 : eqD (.lst rest) (.lst []) = rest.isEmpty := by cases rest <;> rfl
  simp [fNeB, deB, h, fNe, hs, e0, e1]
theorem mixed_loop {n m : Nat} (hnm : n ≠ m) (ds0 : D) : (k : Nat) → (rest acc : List D) → (B : Bs) → rest.length < k → rest.length + acc.length ≤ 1000000 → PenOk B n → B[m]? = some (.lst rest) → (∀ us : List D, (∀ d ∈ us, d ∈ rest) → shp (.lst us) = true) →
    ∃ es B', whileL (mCmpT fNeB (mVar 2) (mLst mNil)) (mApp 3 (mPopB 2 (mCall f__law_draw [] (mCons (mVar 0) (mCons (m1 fLen (mVar 2)) mNil))))) k [some (false, .box n), some (false, ds0), some (false, .box m), some (true, .lst acc)] B =
      .next [some (false, .box n), some (false, ds0), some (false, .box m), some (true, .lst (acc ++ es))] B' ∧ es.Perm rest ∧ PenOk B' n
  | 0, _, _, _, h, _, _, _, _ => absurd h (Nat.not_lt_zero _)
  | k + 1, rest, acc, B, hk, hl, P, hr, hs => by
    have e0 := fNeB_nil hr (hs rest fun _ h => h)
    have z0 : szL [] = true := rfl
    by_cases hn : rest = []
    · subst hn
      exact ⟨[], B, by simp [whileL, z0, e0], by simp, P⟩
    · have hpos : 0 < rest.length := List.length_pos_iff.mpr hn
      obtain ⟨v, B1, e1, h0, h1, S⟩ := law_draw_ok (k := (rest.length : Int)) P (by omega) (by omega)
      have hr1 : B1[m]? = some (.lst rest) := by rw [S.oth m (Ne.symm hnm)]; exact hr
      have hv : v.toNat < rest.length := by omega
      have P2 : PenOk (B1.set m (.lst (rest.eraseIdx v.toNat))) n := by
        obtain ⟨⟨a, b, c, h, h1⟩⟩ := S.ok
        exact ⟨⟨a, b, c, by rw [List.getElem?_set_ne (Ne.symm hnm)]; exact h, h1⟩⟩
      have le := List.length_eraseIdx_of_lt hv
      obtain ⟨es, B', e2, p2, P3⟩ := mixed_loop hnm ds0 k (rest.eraseIdx v.toNat) (acc ++ [rest[v.toNat]]) (B1.set m (.lst (rest.eraseIdx v.toNat))) (by omega) (by simp; omega) P2 (by simp [(List.getElem?_eq_some_iff.mp hr1).1]) fun us h => hs us fun d hd => List.eraseIdx_subset (h d hd)
      refine ⟨rest[v.toNat] :: es, B', ?_, (p2.cons _).trans (pick_perm rest _ hv), P3⟩
      have hz : acc.length < sizeLine := Nat.lt_of_lt_of_le (show acc.length < 1000000 by omega) size_big
      have e3 : rest.isEmpty = false := by simpa using hn
      have hv2 : v < 9223372036854775808 := by omega
      have e4 : rest[v.toNat]? = some rest[v.toNat] := List.getElem?_eq_getElem hv
      rw [whileL]
      simp [z0, e0, e3, mApp, upO, mPopB, hr, fLen, e1, hr1, h0, hv2, e4, hz]
      rw [e2]
      simp
theorem law_mixed_ok {B : Bs} {n : Nat} {ds : List D} (P : PenOk B n) (hl : ds.length < 4000) (hs : ∀ us : List D, (∀ d ∈ us, d ∈ ds) → shp (.lst us) = true) :
    ∃ es B', f__law_mixed [.box n, .lst ds] B = .ok (.lst es) B' ∧ es.Perm ds ∧ PenOk B' n := by
  have hn := pen_lt P
  have hP : PenOk (B ++ [.lst ds]) n := by
    obtain ⟨⟨a, b, c, h, h1⟩⟩ := P
    exact ⟨⟨a, b, c, by rw [List.getElem?_append_left hn]; exact h, h1⟩⟩
  obtain ⟨es, B', e, p, P'⟩ := mixed_loop (n := n) (m := B.length) (by omega) (.lst ds) 4000 ds [] (B ++ [.lst ds]) hl (by simp; omega) hP (by simp) hs
  refine ⟨es, B', ?_, p, P'⟩
  have z0 : szL [] = true := rfl
  simp [f__law_mixed, m__law_mixed, mPar2S, mBox, fLstO, z0]
  rw [e]
  simp [frz]

/-! ### words -/
abbrev wD (w : List Int) : D := .tup (w.map D.int)
abbrev wsD (ws : List (List Int)) : D := .tup (ws.map wD)
structure OkW (m : Nat) (ws : List (List Int)) : Prop where
  n2 : 2 ≤ ws.length
  n16 : ws.length ≤ 16
  m1 : 1 ≤ m
  m5 : m ≤ 5
  wid : ∀ w ∈ ws, w.length = m
  bits : ∀ w ∈ ws, ∀ b ∈ w, b = 0 ∨ b = 1
  nd : ws.Nodup
theorem shp_int (i : Int) : shp (.int i) = true := by simp [shp, SeqAt.shaped, toPy, PyData.canLay0, PyData.depth]
@[simp] theorem fEq_int (i j : Int) (B : Bs) : fEq (.int i) (.int j) B = .ok (.bool (i == j)) B := by simp [fEq, shp_int, eqD, toPy, PyData.eqv]
theorem shp_str {x : Str} (h : PyData.strOk x = true) : shp (.str x) = true := by simp [shp, SeqAt.shaped, toPy, PyData.canLay0, PyData.depth, h]
theorem fNe_str {x y : Str} (hx : PyData.strOk x = true) (hy : PyData.strOk y = true) (B : Bs) : fNe (.str x) (.str y) B = .ok (.bool (!(x == y))) B := by simp [fNe, shp_str hx, shp_str hy, eqD, toPy, PyData.eqv]
theorem fEq_str {x y : Str} (hx : PyData.strOk x = true) (hy : PyData.strOk y = true) (B : Bs) : fEq (.str x) (.str y) B = .ok (.bool (x == y)) B := by simp [fEq, shp_str hx, shp_str hy, eqD, toPy, PyData.eqv]
theorem is_between_ok (v lo hi : Int) (B : Bs) : f_is_between [.int v, .int lo, .int hi] B = .ok (.bool (decide (lo ≤ v) && decide (v ≤ hi))) B := by
  by_cases h : lo ≤ v <;> simp [f_is_between, m_is_between, h]
theorem boolsA_map (bs : List Bool) : boolsA (bs.map D.bool) = some bs := by
  induction bs with
  | nil => rfl
  | cons b bs ih => simp [boolsA, boolA, ih]
theorem intsA_map (bs : List Int) : intsA (bs.map D.int) = some bs := by
  induction bs with
  | nil => rfl
  | cons b bs ih => simp [intsA, intA, ih]
theorem tupsA_map (bs : List (List Int)) : tupsA (bs.map wD) = some bs := by
  induction bs with
  | nil => rfl
  | cons b bs ih => simp [tupsA, tupA, ih, intsA_map]
theorem fAll_true {α : Type} (xs : List α) (B : Bs) : fAll (.lst (xs.map fun _ => D.bool true)) B = .ok (.bool true) B := by
  have e : (xs.map fun _ => D.bool true) = (xs.map fun _ => true).map D.bool := by simp
  rw [fAll, e, boolsA_map]; simp
theorem are_bits_ok {w : List Int} (h : ∀ b ∈ w, b = 0 ∨ b = 1) (hl : w.length ≤ 1000000) (B : Bs) : f_are_bits [wD w] B = .ok (.bool true) B := by
  have := mLc_map (vs := [1]) (i := 1) (mi := mItems (mVar 0)) (me := mCall f_is_between [] (mCons (mVar 1) (mCons (mC (.int 0)) (mCons (mC (.int 1)) mNil)))) (σ := [some (false, wD w), none]) (B := B) (ds := w.map D.int) D.int (fun _ => D.bool true) w
    (by simp) rfl (Nat.le_trans hl size_big) (fun b hb => by
      have : (decide (0 ≤ b) && decide (b ≤ 1)) = true := by rcases h b hb with rfl | rfl <;> decide
      simp [wipeI, is_between_ok, this])
  simp [f_are_bits, m_are_bits, this, fAll_true]
theorem dd_nodup {α : Type} [DecidableEq α] : {l : List α} → l.Nodup → dd l = l
  | [], _ => rfl
  | x :: l, h => by
    have h' := List.nodup_cons.mp h
    simp [dd, h'.1, dd_nodup h'.2]
theorem are_words_ok {m : Nat} {ws : List (List Int)} (W : OkW m ws) (B : Bs) : f_are_words [wsD ws] B = .ok (.bool true) B := by
  have hne : ∃ w r, ws = w :: r := by cases ws with
    | nil => have := W.n2; simp at this
    | cons w r => exact ⟨w, r, rfl⟩
  obtain ⟨w0, r, hw⟩ := hne
  have e0 : w0.length = m := W.wid w0 (by simp [hw])
  have hsz : ws.length ≤ sizeLine := Nat.le_trans (Nat.le_trans W.n16 (by decide)) size_big
  have a1 := mLc_map (vs := [1]) (i := 1) (mi := mItems (mVar 0)) (me := mCall f_are_bits [] (mCons (mVar 1) mNil)) (σ := [some (false, wsD ws), none]) (B := B) (ds := ws.map wD) wD (fun _ => D.bool true) ws
    (by simp) rfl hsz (fun w h => by
      simp [wipeI, are_bits_ok (W.bits w h) (by have := W.wid w h; have := W.m5; omega)])
  have hix : ∀ B, fIx (wsD ws) (.int 0) B = .ok (wD w0) B := fun B => by simp [fIx, atI, ixN, hw]
  have a2 := mLc_map (vs := [1]) (i := 1) (mi := mItems (mVar 0)) (me := mBin fEq (m1 fLen (mVar 1)) (m1 fLen (mBin fIx (mVar 0) (mC (.int 0))))) (σ := [some (false, wsD ws), none]) (B := B) (ds := ws.map wD) wD (fun _ => D.bool true) ws
    (by simp) rfl hsz (fun w h => by
      simp [wipeI, hix, W.wid w h, e0])
  have h2 := W.n2; have h16 := W.n16; have h1 := W.m1; have h5 := W.m5
  have g1 : (2 : Int) ≤ (ws.length : Int) := by omega
  have g2 : (ws.length : Int) ≤ 16 := by omega
  have g3 : (1 : Int) ≤ (m : Int) := by omega
  have g4 : (m : Int) ≤ 5 := by omega
  have g5 : ws.length < 64 := by omega
  simp [f_are_words, m_are_words, a1, a2, fAll_true, hix, e0, g1, g2, g3, g4, fLenSet, tupsA_map, dd_nodup W.nd, g5]
end Hk

set_option Elab.async false
set_option linter.all false
set_option maxRecDepth 100000
namespace Hk
open PySem PySem.Spec PyProof.Rows L2 Hf

/-! ### texts as lists of signs -/
abbrev mkS (l : List Nat) : Str := ⟨l.toArray⟩
theorem mkS_app (a b : List Nat) : mkS a ++ mkS b = mkS (a ++ b) := TL.ext_tl (by rw [TL.tl_append])
theorem joinL_nil : (ps : List (List Nat)) → TL.joinL [] ps = ps.flatten
  | [] => rfl
  | [p] => by simp [TL.joinL]
  | p :: q :: r => by
    have := joinL_nil (q :: r)
    simp only [TL.joinL, this]; simp
theorem joinL_lines : (ps : List (List Nat)) → TL.joinL [10] (ps ++ [[]]) = (ps.map (· ++ [10])).flatten
  | [] => rfl
  | [p] => by simp [TL.joinL]
  | p :: q :: r => by
    have := joinL_lines (q :: r)
    simp only [List.cons_append] at this
    simp only [List.cons_append, TL.joinL, this]; simp
theorem strsA_map {α : Type} (g : α → List Nat) (xs : List α) : strsA (xs.map fun x => D.str (mkS (g x))) = some (xs.map fun x => mkS (g x)) := by
  induction xs with
  | nil => rfl
  | cons b bs ih => simp [strsA, strA, ih]
theorem ofS_nil : Str.ofString "" = mkS [] := TL.ext_tl (by rw [TL.tl_ofString]; rfl)
theorem ofS_nl : Str.ofString "\n" = mkS [10] := TL.ext_tl (by rw [TL.tl_ofString]; rfl)
theorem ofS_0 : Str.ofString "0" = mkS [48] := TL.ext_tl (by rw [TL.tl_ofString]; rfl)
theorem ofS_1 : Str.ofString "1" = mkS [49] := TL.ext_tl (by rw [TL.tl_ofString]; rfl)
theorem len_sum {α : Type} (g : α → List Nat) (xs : List α) : ((xs.map fun x => mkS (g x)).map (·.length)).sum = (xs.map g).flatten.length := by
  induction xs with
  | nil => rfl
  | cons b bs ih => simp at ih ⊢; rw [ih]; rfl
theorem join_nil_ok {α : Type} (g : α → List Nat) (xs : List α) (h : (xs.map g).flatten.length ≤ 1000000) (B : Bs) :
    fJoin (.str (Str.ofString "")) (.lst (xs.map fun x => D.str (mkS (g x)))) B = .ok (.str (mkS (xs.map g).flatten)) B := by
  have e : Txt.join (mkS []) (xs.map fun x => mkS (g x)) = mkS (xs.map g).flatten := by
    refine TL.ext_tl ?_
    rw [TL.join_eq, TL.tl_join]
    simp only [List.map_map]
    exact (joinL_nil _).trans (by congr 1)
  have l : (mkS []).length = 0 := rfl
  simp only [fJoin, strsOf, ofS_nil, strsA_map, len_sum, l, e]
  rw [if_pos (by omega)]
abbrev cW (w : List Int) : List Nat := w.map fun b => (48 + b).toNat
abbrev txN (ws : List (List Int)) : List Nat := (ws.map fun w => cW w ++ [10]).flatten
theorem strI_bit {b : Int} (h : b = 0 ∨ b = 1) (B : Bs) : fStrI (.int b) B = .ok (.str (mkS [(48 + b).toNat])) B := by
  have e0 : Str.ofString (toString (0 : Int)) = mkS [48] := ofS_0
  have e1 : Str.ofString (toString (1 : Int)) = mkS [49] := ofS_1
  rcases h with rfl | rfl
  · have : (0 : Int).natAbs.log2 < 1920 := by decide
    rw [fStrI, if_pos this, e0]; rfl
  · have : (1 : Int).natAbs.log2 < 1920 := by decide
    rw [fStrI, if_pos this, e1]; rfl
theorem nks_int (w : List Int) : nksD (w.map D.int) = some (w.map NestedKey.num) := by
  induction w with
  | nil => rfl
  | cons b bs ih => simp [nksD, nkD, ih]
theorem nk_wD (w : List Int) : nkD (wD w) = some (.tup (w.map .num)) := by simp [nkD, nks_int]
theorem depth_w (w : List Int) : (NestedKey.tup (w.map .num)).depth = 1 := by
  have : NestedKey.depthAll (w.map .num) = 0 := by
    induction w with
    | nil => simp [NestedKey.depthAll]
    | cons b bs ih => simp [NestedKey.depthAll, NestedKey.depth, ih]
  simp [NestedKey.depth, this]
theorem keyT_w (w : List Int) : keyT (wD w) = some (.tup (w.map .num)) := by
  have := nk_wD w
  simp only [keyT, this, depth_w]; rfl
theorem key_inj {w u : List Int} (h : NestedKey.tup (w.map .num) = NestedKey.tup (u.map .num)) : w = u := by
  injection h with h
  exact (List.map_inj_right (fun a b e => by injection e)).mp h
theorem dAt_none {w : List Int} : (pre : List (List Int)) → (vals : List D) → w ∉ pre → dAt (pre.map wD) vals (.tup (w.map .num)) = Option.none
  | [], _, _ => rfl
  | u :: pre, [], _ => rfl
  | u :: pre, v :: vals, h => by
    have h1 : ¬ nkD (wD u) = some (NestedKey.tup (w.map .num)) := fun e => by
      rw [nk_wD] at e
      injection e with e
      exact h (by rw [key_inj e]; exact List.mem_cons_self ..)
    show (if nkD (wD u) = _ then _ else _) = _
    rw [if_neg h1]
    exact dAt_none pre vals fun e => h (List.mem_cons_of_mem _ e)
theorem rng_succ (n : Nat) : rngD 0 (n + 1) = rngD 0 n ++ [.int n] := by simp [rngD, List.range_succ]
theorem dcL_words (a b : Option (Bool × D)) (B : Bs) : (rest pre : List (List Int)) → (pre ++ rest).Nodup → (pre ++ rest).length ≤ 1000000 →
    dcL (gT (gsC (gN 2) (gsC (gN 3) gs0))) mYes (mVar 3) (mVar 2) [a, b, Option.none, Option.none] ((List.range' pre.length rest.length).zipWith (fun i d => D.prs [.int (i : Nat), d]) (rest.map wD)) (pre.map wD, rngD 0 pre.length) B
      = .ok ((pre ++ rest).map wD, rngD 0 (pre ++ rest).length) B
  | [], pre, _, _ => by simp [dcL]
  | w :: rest, pre, hn, hl => by
    have hw : w ∉ pre := fun h => by
      rw [List.nodup_append] at hn
      exact hn.2.2 w h w (List.mem_cons_self ..) rfl
    have ih := dcL_words a b B rest (pre ++ [w]) (by simpa using hn) (by simpa using hl)
    have hs : pre.length < sizeLine := Nat.lt_of_lt_of_le (by simp at hl; omega) size_big
    have e1 : dPut (pre.map wD) (rngD 0 pre.length) (wD w) (.int pre.length) = some ((pre ++ [w]).map wD, rngD 0 (pre ++ [w]).length) := by
      simp [dPut, keyT_w, dAt_none _ _ hw, hs, rng_succ]
    have e2 : pre.length + 1 = (pre ++ [w]).length := by simp
    simp only [List.length_cons, List.range'_succ, List.map_cons, List.zipWith_cons_cons, dcL, gT, gsC, gN, gs0, mYes]
    simp [e1]
    simpa using ih
theorem enum_words (ws : List (List Int)) : enumD (ws.map wD) = (List.range' 0 ws.length).zipWith (fun i d => D.prs [.int (i : Nat), d]) (ws.map wD) := by
  simp [enumD, List.range_eq_range']
def codeD (ws : List (List Int)) : D := .inst 0 [wsD ws, .dct (ws.map wD) (rngD 0 ws.length)]
theorem init_ok {m : Nat} {ws : List (List Int)} (W : OkW m ws) (B : Bs) : f_CodeX_initX (ws.map wD) B = .ok (codeD ws) B := by
  have hl : ws.length ≤ 1000000 := Nat.le_trans W.n16 (by decide)
  have hs : ws.length ≤ sizeLine := Nat.le_trans hl size_big
  have e := dcL_words (some (true, .inst 0 [wsD ws])) (some (false, wsD ws)) B ws [] W.nd hl
  simp only [List.nil_append, List.length_nil] at e
  have e' : dcL (gT (gsC (gN 2) (gsC (gN 3) gs0))) mYes (mVar 3) (mVar 2) [some (true, .inst 0 [wsD ws]), some (false, wsD ws), Option.none, Option.none] (enumD (ws.map wD)) ([], []) B = .ok (ws.map wD, rngD 0 ws.length) B := by
    rw [enum_words]; exact e
  simp [f_CodeX_initX, m_CodeX_initX, mkIniS, hs, are_words_ok W, mFldJ, mFldSet, fldN, mDc, wipeI, mEnum, itD, e', finI, codeD]
theorem strOk_mkS {l : List Nat} (h : ∀ c ∈ l, c < 0x110000) : PyData.strOk (mkS l) = true := by
  simp only [PyData.strOk, Array.all_eq_true, decide_eq_true_eq]
  intro i hi
  exact h _ (by simp [mkS])
theorem eqv_str (x y : Str) : PyData.eqv (.str x) (.str y) = (x == y) := rfl
theorem chD_cW (w : List Int) : chD (mkS (cW w)) = w.map fun b => D.str (mkS [(48 + b).toNat]) := by
  simp [chD, cW]
theorem word_in_ok {w : List Int} (h : ∀ b ∈ w, b = 0 ∨ b = 1) (hl : w.length ≤ 1000000) (B : Bs) : f_word_in [.str (mkS (cW w))] B = .ok (wD w) B := by
  have := mLc_map (vs := [1]) (i := 1) (mi := mItems (mVar 0)) (me := (mIte (mCmpT (fInD fun b => b) (mVar 1) (mC (.tup [(.str (Str.ofString "0")), (.str (Str.ofString "1"))]))) (m1 (fIxS [Str.ofString "0", Str.ofString "1"]) (mVar 1)) (mC (.int (-1)))))
    (σ := [some (false, .str (mkS (cW w))), none]) (B := B) (ds := chD (mkS (cW w))) (fun b => D.str (mkS [(48 + b).toNat])) D.int w
    (by simp [itemsOf]) (chD_cW w) (Nat.le_trans hl size_big) (fun b hb => by
      have g0 : shp (.str (mkS [48])) = true := shp_str (strOk_mkS (by simp))
      have g1 : shp (.str (mkS [49])) = true := shp_str (strOk_mkS (by simp))
      have g2 : shp (.tup [.str (mkS [48]), .str (mkS [49])]) = true := by
        simp [shp, SeqAt.shaped, toPy, toPys, PyData.canLay0, PyData.canLayAll0, PyData.depth, PyData.depthAll, strOk_mkS]
      rcases h b hb with rfl | rfl
      · simp [wipeI, ofS_0, ofS_1, fInD, fInG, g0, g2, inD, toPys, toPy, eqv_str, fIxS, ixS]
      · simp [wipeI, ofS_0, ofS_1, fInD, fInG, g1, g2, inD, toPys, toPy, eqv_str, fIxS, ixS])
  simp [f_word_in, m_word_in, this]

@[simp] theorem z_mMeth (f : D → D → Bs → Rs D) (mo me : Ev) (σ : Sl) (B : Bs) : mMeth f mo me σ B = (mo σ B).bind fun o B1 => (isS o B1).bind fun o B2 => (me σ B2).bind fun d B3 => f o d B3 := (rfl)
@[simp] theorem z_isS (x : Str) (B : Bs) : isS (.str x) B = .ok (.str x) B := (rfl)
theorem cut_m1 {α : Type} (l : List α) (x : α) : cut (l ++ [x]) none (some (-1)) = l := by
  have e : HT.sIx (l ++ [x]).length (l ++ [x]).length (some (-1)) = l.length := by
    simp only [HT.sIx, List.length_append, List.length_cons, List.length_nil]
    rw [if_pos (by decide)]; omega
  simp only [cut, e, HT.sIx_none]; simp
theorem cut_lo {α : Type} (l : List α) (k : Nat) : cut l (some (k : Int)) none = l.drop k := by
  simp only [cut, HT.sIx_none, HT.sIx_nat]
  by_cases h : k ≤ l.length
  · rw [Nat.min_eq_left h, List.take_of_length_le (by simp)]
  · rw [Nat.min_eq_right (by omega)]; simp; omega
theorem cut_hi {α : Type} (l : List α) (k : Nat) : cut l none (some (k : Int)) = l.take k := by
  simp only [cut, HT.sIx_none, HT.sIx_nat, List.drop_zero, Nat.sub_zero]
  by_cases h : k ≤ l.length
  · rw [Nat.min_eq_left h]
  · rw [Nat.min_eq_right (by omega), List.take_of_length_le (Nat.le_refl _), List.take_of_length_le (by omega)]
theorem cW_lt {w : List Int} (h : ∀ b ∈ w, b = 0 ∨ b = 1) : ∀ c ∈ cW w, c = 48 ∨ c = 49 := by
  intro c hc
  simp only [cW, List.mem_map] at hc
  obtain ⟨b, hb, rfl⟩ := hc
  rcases h b hb with rfl | rfl <;> simp
theorem txN_len {m : Nat} {ws : List (List Int)} (W : OkW m ws) : (txN ws).length ≤ 1000 := by
  have h : ∀ us : List (List Int), (∀ w ∈ us, w.length = m) → (txN us).length = us.length * (m + 1) := by
    intro us hu
    induction us with
    | nil => simp [txN]
    | cons u us ih =>
      have e := ih fun w hw => hu w (List.mem_cons_of_mem _ hw)
      have e2 := hu u (List.mem_cons_self ..)
      simp only [txN] at e ⊢
      simp only [List.map_cons, List.flatten_cons, List.length_append, e, List.length_map, e2, List.length_cons, List.length_nil]
      rw [Nat.add_mul]; omega
  rw [h ws W.wid]
  have := W.n16; have := W.m5
  have := Nat.mul_le_mul W.n16 (show m + 1 ≤ 6 by omega)
  omega
theorem txN_ok {m : Nat} {ws : List (List Int)} (W : OkW m ws) : PyData.strOk (mkS (txN ws)) = true := strOk_mkS fun c hc => by
  simp only [txN, List.mem_flatten, List.mem_map] at hc
  obtain ⟨l, ⟨w, hw, rfl⟩, hc⟩ := hc
  rcases List.mem_append.mp hc with h | h
  · rcases cW_lt (W.bits w hw) c h with rfl | rfl <;> decide
  · simp at h; omega
theorem split_ok {m : Nat} {ws : List (List Int)} (W : OkW m ws) (B : Bs) : fSplit (.str (mkS (txN ws))) (.str (Str.ofString "\n")) B = .ok (.lst ((ws.map fun w => D.str (mkS (cW w))) ++ [.str (mkS [])])) B := by
  have e : Txt.split (mkS (txN ws)) (mkS [10]) = (ws.map fun w => mkS (cW w)) ++ [mkS []] := by
    have j : mkS (txN ws) = Txt.join (mkS [10]) ((ws.map fun w => mkS (cW w)) ++ [mkS []]) := by
      refine TL.ext_tl ?_
      rw [TL.join_eq, TL.tl_join]
      have := joinL_lines (ws.map cW)
      simp only [List.map_append, List.map_map, List.map_cons, List.map_nil] at this ⊢
      exact this.symm
    rw [j]
    refine TL.split_join (s := 10) (S := []) rfl (by simp) (by simp) fun p hp => ?_
    rcases List.mem_append.mp hp with h | h
    · obtain ⟨w, hw, rfl⟩ := List.mem_map.mp h
      intro h10
      rcases cW_lt (W.bits w hw) 10 h10 with h | h <;> simp at h
    · simp at h; subst h; simp
  have hl := txN_len W
  have hs := size_big
  have l1 : (mkS (txN ws)).length = (txN ws).length := rfl
  have l2 : (mkS [10]).length = 1 := rfl
  rw [ofS_nl, fSplit, if_pos ⟨by rw [l2]; rfl, by rw [l1]; omega⟩, e]
  simp
theorem lines_join {m : Nat} {ws : List (List Int)} (W : OkW m ws) (B : Bs) : fJoin (.str (Str.ofString "")) (.lst (ws.map fun w => D.str (mkS (cW w ++ [10])))) B = .ok (.str (mkS (txN ws))) B :=
  join_nil_ok (fun w => cW w ++ [10]) ws (Nat.le_trans (txN_len W) (by decide)) B
theorem add_str {a b : List Nat} (h : a.length + b.length ≤ 1000000) (B : Bs) : fAdd (.str (mkS a)) (.str (mkS b)) B = .ok (.str (mkS (a ++ b))) B := by
  have l1 : (mkS a).length = a.length := rfl
  have l2 : (mkS b).length = b.length := rfl
  rw [fAdd, if_pos (by rw [l1, l2]; exact Nat.le_trans h size_big), mkS_app]
theorem flat_one {α β : Type} (f : α → β) (l : List α) : (l.map fun b => [f b]).flatten = l.map f := by
  induction l with
  | nil => rfl
  | cons x l ih => simp [ih]
theorem wl_ok {m : Nat} {ws : List (List Int)} (W : OkW m ws) {w : List Int} (h : w ∈ ws) : w.length ≤ 5 := by have := W.wid w h; have := W.m5; omega
theorem read_ok {m : Nat} {ws : List (List Int)} (W : OkW m ws) (B : Bs) : f_Code_read [.cls 0, .str (mkS (txN ws))] B = .ok (codeD ws) B := by
  have hs : ws.length ≤ sizeLine := Nat.le_trans (Nat.le_trans W.n16 (by decide)) size_big
  have a1 := mLc_map (vs := [4]) (i := 4) (mi := mItems (mVar 2)) (me := mCall f_word_in [] (mCons (mVar 4) mNil)) (σ := [some (false, .cls 0), some (false, .str (mkS (txN ws))), some (false, .lst (ws.map fun w => D.str (mkS (cW w)))), none, none]) (B := B)
    (ds := ws.map fun w => D.str (mkS (cW w))) (fun w => D.str (mkS (cW w))) wD ws (by simp) rfl hs (fun w h => by simp [wipeI, word_in_ok (W.bits w h) (Nat.le_trans (wl_ok W h) (by decide))])
  have a2 := mLc_map (vs := [4]) (i := 4) (mi := mItems (mVar 2)) (me := mBin fAdd (mVar 4) (mC (.str (Str.ofString "\n")))) (σ := [some (false, .cls 0), some (false, .str (mkS (txN ws))), some (false, .lst (ws.map fun w => D.str (mkS (cW w)))), some (false, wsD ws), none]) (B := B)
    (ds := ws.map fun w => D.str (mkS (cW w))) (fun w => D.str (mkS (cW w))) (fun w => D.str (mkS (cW w ++ [10]))) ws (by simp) rfl hs (fun w h => by
      simp only [wipeI, mBin, mVar, mC, ofS_nl]; simp
      exact add_str (by have := wl_ok W h; simp; omega) B)
  have c1 : cut ((ws.map fun w => D.str (mkS (cW w))) ++ [.str (mkS [])]) none (some (-1)) = ws.map fun w => D.str (mkS (cW w)) := cut_m1 _ _
  simp [f_Code_read, m_Code_read, split_ok W, fSl, c1, a1, are_words_ok W, a2, lines_join W, fNe_str (txN_ok W) (txN_ok W), init_ok W]
end Hk

set_option Elab.async false
set_option linter.all false
set_option maxRecDepth 100000
namespace Hk
open PySem PySem.Spec PyProof.Rows L2 Hf

/-! ### what the functions of a code answer -/
abbrev turnW (ws : List (List Int)) (k : Nat) : List (List Int) := ws.drop k ++ ws.take k
theorem need_code_ok (ws : List (List Int)) (B : Bs) : f_need_code [codeD ws] B = .ok .none B := by
  simp [f_need_code, m_need_code, codeD]
theorem lenOk_nat (n : Nat) (h : n ≤ 1000000) (B : Bs) : lenOk (.ok (.int n) B) = .ok (.int n) B := by
  have e : 0 ≤ (n : Int) ∧ (n : Int) < 2 ^ 63 := ⟨by omega, by omega⟩
  simp only [lenOk]
  rw [if_pos e]
theorem len_code_ok (ws : List (List Int)) (h : ws.length ≤ 16) (B : Bs) : fLenA 0 f_CodeX_lenX (codeD ws) B = .ok (.int ws.length) B := by
  have e : f_CodeX_lenX [codeD ws] B = .ok (.int ws.length) B := by simp [f_CodeX_lenX, m_CodeX_lenX, codeD]
  generalize f_CodeX_lenX = f at e
  unfold codeD at e ⊢
  simp only [fLenA, e, lenOk_nat _ (show ws.length ≤ 1000000 by omega), if_true]
theorem add_tup {a b : List D} (h : a.length + b.length ≤ 1000000) (B : Bs) : fAdd (.tup a) (.tup b) B = .ok (.tup (a ++ b)) B := by
  rw [fAdd, if_pos (Nat.le_trans h size_big)]
theorem add_lst {a b : List D} (h : a.length + b.length ≤ 1000000) (B : Bs) : fAdd (.lst a) (.lst b) B = .ok (.lst (a ++ b)) B := by
  rw [fAdd, if_pos (Nat.le_trans h size_big)]
theorem words_ok (ws : List (List Int)) (B : Bs) : prpK 0 f_Code_words (codeD ws) B = .ok (wsD ws) B := by
  simp [codeD, f_Code_words, m_Code_words]
theorem turn_perm (ws : List (List Int)) (k : Nat) : (turnW ws k).Perm ws := by
  refine List.perm_append_comm.trans ?_
  rw [List.take_append_drop]
theorem OkW.perm {m : Nat} {ws us : List (List Int)} (W : OkW m ws) (p : us.Perm ws) : OkW m us :=
  ⟨by rw [p.length_eq]; exact W.n2, by rw [p.length_eq]; exact W.n16, W.m1, W.m5, fun w h => W.wid w (p.mem_iff.mp h), fun w h => W.bits w (p.mem_iff.mp h), p.nodup_iff.mpr W.nd⟩
theorem bits_ok {m : Nat} {ws : List (List Int)} (W : OkW m ws) (B : Bs) : prpK 0 f_Code_bits (codeD ws) B = .ok (.int m) B := by
  cases ws with
  | nil => have := W.n2; simp at this
  | cons w r =>
    have := W.wid w (List.mem_cons_self ..)
    simp [codeD, f_Code_bits, m_Code_bits, fIx, atI, ixN, this]
abbrev backW : List (List Int) → List (List Int)
  | [] => []
  | w :: r => w :: r.reverse
theorem back_perm (ws : List (List Int)) : (backW ws).Perm ws := by
  cases ws with
  | nil => exact .refl _
  | cons w r => exact List.Perm.cons _ (List.reverse_perm r)
end Hk

set_option Elab.async false
set_option linter.all false
set_option maxRecDepth 100000
namespace Hk
open PySem PySem.Spec PyProof.Rows L2 Hf

/-! ### the text of a value, for the test of two values -/
theorem law_same_ok {a b : D} (ha : reprOk a = true) (hb : reprOk b = true) (h1 : PyData.strOk (toPy a).shown = true) (h2 : PyData.strOk (toPy b).shown = true) (e : a = b) (B : Bs) : f__law_same [a, b] B = .ok (.bool true) B := by
  subst e
  simp [f__law_same, m__law_same, fRepr, ha, fEq_str h1 h1]
theorem perm_srt_ins (x : Int) (l : List Int) : (ins x l).Perm (x :: l) := by
  induction l with
  | nil => exact .refl _
  | cons y r ih =>
    by_cases h : x ≤ y
    · simp [ins, h]
    · simp only [ins, h, if_false]
      exact (ih.cons y).trans (List.Perm.swap _ _ _)
theorem srt_perm (l : List Int) : (srt l).Perm l := by
  induction l with
  | nil => exact .refl _
  | cons y r ih => exact (perm_srt_ins y (srt r)).trans (ih.cons y)
theorem ins_sorted (x : Int) {l : List Int} (h : l.Pairwise (· ≤ ·)) : (ins x l).Pairwise (· ≤ ·) := by
  induction l with
  | nil => simp [ins]
  | cons y r ih =>
    have h' := List.pairwise_cons.mp h
    by_cases hx : x ≤ y
    · simp only [ins, hx, if_true, List.pairwise_cons]
      refine ⟨fun z hz => ?_, h'.1, h'.2⟩
      rcases List.mem_cons.mp hz with rfl | hz
      · exact hx
      · exact Int.le_trans hx (h'.1 z hz)
    · simp only [ins, hx, if_false, List.pairwise_cons]
      refine ⟨fun z hz => ?_, ih h'.2⟩
      rcases List.mem_cons.mp ((perm_srt_ins x r).mem_iff.mp hz) with rfl | hz
      · omega
      · exact h'.1 z hz
theorem srt_sorted (l : List Int) : (srt l).Pairwise (· ≤ ·) := by
  induction l with
  | nil => simp [srt]
  | cons y r ih => exact ins_sorted y ih
theorem srt_eq {l s : List Int} (p : l.Perm s) (h : s.Pairwise (· ≤ ·)) : srt l = s :=
  List.Perm.eq_of_pairwise (fun a b _ _ h1 h2 => Int.le_antisymm h1 h2) (srt_sorted l) h ((srt_perm l).trans p)
end Hk

set_option Elab.async false
set_option linter.all false
set_option maxRecDepth 100000
namespace Hk
open PySem PySem.Spec PyProof.Rows L2 Hf

/-! ### the shown text has only good signs -/
theorem ok_app {a b : Str} (ha : PyData.strOk a = true) (hb : PyData.strOk b = true) : PyData.strOk (a ++ b) = true := by
  have e : ∀ x : Str, PyData.strOk x = true ↔ ∀ c ∈ x.cps.toList, c < 0x110000 := fun x => by
    simp only [PyData.strOk, ← Array.all_toList, List.all_eq_true, decide_eq_true_eq]
  rw [e] at *
  have := TL.tl_append a b
  simp only [TL.tl] at this
  rw [this]
  intro c hc
  rcases List.mem_append.mp hc with h | h
  · exact ha c h
  · exact hb c h
theorem ok_lit (s : String) (h : ∀ c ∈ s.toList.map Char.toNat, c < 0x110000) : PyData.strOk (Str.ofString s) = true := by
  have e : PyData.strOk (Str.ofString s) = true ↔ ∀ c ∈ (Str.ofString s).cps.toList, c < 0x110000 := by
    simp only [PyData.strOk, ← Array.all_toList, List.all_eq_true, decide_eq_true_eq]
  rw [e]
  have := TL.tl_ofString s
  simp only [TL.tl] at this
  rw [this]; exact h
theorem ok_join {sep : Str} (hs : PyData.strOk sep = true) : (ts : List Str) → (∀ t ∈ ts, PyData.strOk t = true) → PyData.strOk (Str.join sep ts) = true
  | [], _ => strOk_mkS (l := []) (by simp)
  | [t], h => h t (List.mem_singleton.mpr rfl)
  | t :: u :: r, h => by
    show PyData.strOk (t ++ sep ++ Str.join sep (u :: r)) = true
    exact ok_app (ok_app (h t (List.mem_cons_self ..)) hs) (ok_join hs (u :: r) fun x hx => h x (List.mem_cons_of_mem _ hx))
theorem ok_tuple {ts : List Str} (h : ∀ t ∈ ts, PyData.strOk t = true) : PyData.strOk (tupleText ts) = true := by
  unfold tupleText
  refine ok_app (ok_app (ok_lit "(" (by decide)) (ok_join (ok_lit ", " (by decide)) ts h)) ?_
  split
  · exact ok_lit ",)" (by decide)
  · exact ok_lit ")" (by decide)
theorem ok_from : (ts : List Str) → (k : Nat) → (acc : Str) → PyData.strOk acc = true → (∀ t ∈ ts, PyData.strOk t = true) → PyData.strOk (textFrom k acc ts) = true
  | [], _, acc, ha, _ => ha
  | t :: r, k, acc, ha, h => by
    refine ok_from r (k + 1) _ (ok_app (ok_app ha ?_) (h t (List.mem_cons_self ..))) fun x hx => h x (List.mem_cons_of_mem _ hx)
    split
    · exact ok_lit ", " (by decide)
    · exact ok_lit "" (by decide)
theorem ok_list {ts : List Str} (h : ∀ t ∈ ts, PyData.strOk t = true) : PyData.strOk (listText ts) = true :=
  ok_app (ok_from ts 0 _ (ok_lit "[" (by decide)) h) (ok_lit "]" (by decide))
theorem shown_bit {b : Int} (h : b = 0 ∨ b = 1) : PyData.shown (.int b) = mkS [(48 + b).toNat] := by
  rcases h with rfl | rfl
  · simp only [PyData.shown]; exact ofS_0
  · simp only [PyData.shown]; exact ofS_1
theorem toPys_map {α : Type} (f : α → D) (l : List α) : toPys (l.map f) = l.map fun x => toPy (f x) := by
  induction l with
  | nil => rfl
  | cons x l ih => simp [toPys, ih]
theorem shownAll_ok {α : Type} (f : α → PyData) (l : List α) (h : ∀ x ∈ l, PyData.strOk (f x).shown = true) : ∀ t ∈ PyData.shownAll (l.map f), PyData.strOk t = true := by
  induction l with
  | nil => intro t ht; simp [PyData.shownAll] at ht
  | cons x l ih =>
    intro t ht
    simp only [List.map_cons, PyData.shownAll] at ht
    rcases List.mem_cons.mp ht with rfl | ht
    · exact h x (List.mem_cons_self ..)
    · exact ih (fun y hy => h y (List.mem_cons_of_mem _ hy)) t ht
theorem shown_w_ok {w : List Int} (h : ∀ b ∈ w, b = 0 ∨ b = 1) : PyData.strOk (toPy (wD w)).shown = true := by
  simp only [wD, toPy, toPys_map, PyData.shown]
  refine ok_tuple (shownAll_ok _ w fun b hb => ?_)
  rw [shown_bit (h b hb)]
  refine strOk_mkS fun c hc => ?_
  have := List.mem_singleton.mp hc
  rcases h b hb with e | e <;> omega
theorem shown_ws_ok {ws : List (List Int)} (h : ∀ w ∈ ws, ∀ b ∈ w, b = 0 ∨ b = 1) : PyData.strOk (toPy (wsD ws)).shown = true := by
  have e : toPy (wsD ws) = .tuple (ws.map fun w => toPy (wD w)) := by simp only [wsD, toPy, toPys_map]
  rw [e, PyData.shown]
  exact ok_tuple (shownAll_ok (fun w => toPy (wD w)) ws fun w hw => shown_w_ok (h w hw))
theorem ok_two {a b : PyData} (h : PyData.strOk a.shown = true) (h' : PyData.strOk b.shown = true) : PyData.strOk (PyData.list [a, b]).shown = true := by
  simp only [PyData.shown, PyData.shownAll]
  refine ok_list fun t ht => ?_
  rcases List.mem_cons.mp ht with e | ht
  · rw [e]; exact h
  · rw [List.mem_singleton.mp ht]; exact h'
theorem shown_l2_ok {ws us : List (List Int)} (h : ∀ w ∈ ws, ∀ b ∈ w, b = 0 ∨ b = 1) (h' : ∀ w ∈ us, ∀ b ∈ w, b = 0 ∨ b = 1) : PyData.strOk (toPy (.lst [wsD ws, wsD us])).shown = true :=
  ok_two (shown_ws_ok h) (shown_ws_ok h')
end Hk

set_option Elab.async false
set_option linter.all false
set_option maxRecDepth 100000
namespace Hk
open PySem PySem.Spec PyProof.Rows L2 Hf

theorem canAll {α : Type} (f : α → PyData) (l : List α) (h : ∀ x ∈ l, (f x).canLay0 = true) : PyData.canLayAll0 (l.map f) = true := by
  induction l with
  | nil => simp [PyData.canLayAll0]
  | cons x l ih => simp only [List.map_cons, PyData.canLayAll0, h x (List.mem_cons_self ..), ih fun y hy => h y (List.mem_cons_of_mem _ hy)]; rfl
theorem showAll {α : Type} (f : α → PyData) (l : List α) (h : ∀ x ∈ l, (f x).showable = true) : PyData.showableAll (l.map f) = true := by
  induction l with
  | nil => simp [PyData.showableAll]
  | cons x l ih => simp only [List.map_cons, PyData.showableAll, h x (List.mem_cons_self ..), ih fun y hy => h y (List.mem_cons_of_mem _ hy)]; rfl
theorem depAll {α : Type} (f : α → PyData) (n : Nat) (l : List α) (h : ∀ x ∈ l, (f x).depth ≤ n) : PyData.depthAll (l.map f) ≤ n := by
  induction l with
  | nil => simp [PyData.depthAll]
  | cons x l ih => 
    have h1 := h x (List.mem_cons_self ..)
    have h2 := ih fun y hy => h y (List.mem_cons_of_mem _ hy)
    simp only [List.map_cons, PyData.depthAll]; omega
theorem shortAll {α : Type} (f : α → PyData) (n : Nat) (l : List α) (h : ∀ x ∈ l, (f x).intsShort n = true) : PyData.intsShortAll n (l.map f) = true := by
  induction l with
  | nil => simp [PyData.intsShortAll]
  | cons x l ih => simp only [List.map_cons, PyData.intsShortAll, h x (List.mem_cons_self ..), ih fun y hy => h y (List.mem_cons_of_mem _ hy)]; rfl
theorem toPy_w (w : List Int) : toPy (wD w) = .tuple (w.map PyData.int) := by
  simp only [wD, toPy, toPys_map]
theorem toPy_ws (ws : List (List Int)) : toPy (wsD ws) = .tuple (ws.map fun w => toPy (wD w)) := by simp only [wsD, toPy, toPys_map]
theorem can_w (w : List Int) : (toPy (wD w)).canLay0 = true := by
  rw [toPy_w, PyData.canLay0]; exact canAll _ w fun b _ => by simp [PyData.canLay0]
theorem can_ws (ws : List (List Int)) : (toPy (wsD ws)).canLay0 = true := by
  rw [toPy_ws, PyData.canLay0]; exact canAll (fun w => toPy (wD w)) ws fun w _ => can_w w
theorem dep_w (w : List Int) : (toPy (wD w)).depth ≤ 1 := by
  have := depAll PyData.int 0 w fun b _ => by simp [PyData.depth]
  rw [toPy_w, PyData.depth]; omega
theorem dep_ws (ws : List (List Int)) : (toPy (wsD ws)).depth ≤ 2 := by
  have := depAll (fun w => toPy (wD w)) 1 ws fun w _ => dep_w w
  rw [toPy_ws, PyData.depth]; omega
theorem show_w {w : List Int} (h : ∀ b ∈ w, b = 0 ∨ b = 1) : (toPy (wD w)).showable = true := by
  rw [toPy_w, PyData.showable]; exact showAll _ w fun b hb => by
    rcases h b hb with rfl | rfl <;> simp [PyData.showable] <;> decide
theorem show_ws {ws : List (List Int)} (h : ∀ w ∈ ws, ∀ b ∈ w, b = 0 ∨ b = 1) : (toPy (wsD ws)).showable = true := by
  rw [toPy_ws, PyData.showable]; exact showAll (fun w => toPy (wD w)) ws fun w hw => show_w (h w hw)
theorem short_w {w : List Int} (h : ∀ b ∈ w, b = 0 ∨ b = 1) : (toPy (wD w)).intsShort 13 = true := by
  rw [toPy_w, PyData.intsShort]; exact shortAll _ 13 w fun b hb => by
    rw [PyData.intsShort, shown_bit (h b hb)]; rfl
theorem short_ws {ws : List (List Int)} (h : ∀ w ∈ ws, ∀ b ∈ w, b = 0 ∨ b = 1) : (toPy (wsD ws)).intsShort 13 = true := by
  rw [toPy_ws, PyData.intsShort]; exact shortAll (fun w => toPy (wD w)) 13 ws fun w hw => short_w (h w hw)
theorem weiAll {α : Type} (f : α → PyData) (n : Nat) (l : List α) (h : ∀ x ∈ l, (f x).weight ≤ n) : PyData.weightAll (l.map f) ≤ l.length * (n + 1) := by
  induction l with
  | nil => simp [PyData.weightAll]
  | cons x l ih => 
    have h1 := h x (List.mem_cons_self ..)
    have h2 := ih fun y hy => h y (List.mem_cons_of_mem _ hy)
    simp only [List.map_cons, PyData.weightAll, List.length_cons, Nat.add_mul]; omega
theorem wei_w {w : List Int} (h : ∀ b ∈ w, b = 0 ∨ b = 1) (hl : w.length ≤ 5) : (toPy (wD w)).weight ≤ 10 := by
  have := weiAll PyData.int 1 w fun b hb => by
    rcases h b hb with rfl | rfl <;> simp [PyData.weight] <;> decide
  rw [toPy_w, PyData.weight]; omega
theorem wei_ws {ws : List (List Int)} (h : ∀ w ∈ ws, ∀ b ∈ w, b = 0 ∨ b = 1) (h5 : ∀ w ∈ ws, w.length ≤ 5) (hl : ws.length ≤ 16) : (toPy (wsD ws)).weight ≤ 176 := by
  have := weiAll (fun w => toPy (wD w)) 10 ws fun w hw => wei_w (h w hw) (h5 w hw)
  rw [toPy_ws, PyData.weight]; omega
theorem size13 : 15728653 ≤ sizeLine := by decide
theorem repr_ws {m : Nat} {ws : List (List Int)} (W : OkW m ws) : reprOk (wsD ws) = true := by
  have c := can_ws ws
  have l : PyData.layable0 (toPy (wsD ws)) = true := by
    have := dep_ws ws
    have := wei_ws W.bits (fun w h => wl_ok W h) W.n16
    simp only [PyData.layable0, c, Bool.and_eq_true, decide_eq_true_eq, true_and]
    omega
  have s := PyProof.Rows.shown_le13 l (short_ws W.bits)
  have d := dep_ws ws
  have z := size13
  have e : decide ((toPy (wsD ws)).depth < 50) = true := decide_eq_true (by omega)
  have e2 : decide ((toPy (wsD ws)).shown.length ≤ sizeLine) = true := decide_eq_true (by omega)
  simp only [reprOk, c, show_ws W.bits, PyData.hasDict_of_canLay _ c, e, e2]; rfl
theorem repr_two {m k : Nat} {ws us : List (List Int)} (W : OkW m ws) (U : OkW k us) : reprOk (.lst [wsD ws, wsD us]) = true := by
  have t : toPy (.lst [wsD ws, wsD us]) = .list [toPy (wsD ws), toPy (wsD us)] := rfl
  have c : (PyData.list [toPy (wsD ws), toPy (wsD us)]).canLay0 = true := by
    simp only [PyData.canLay0, PyData.canLayAll0, can_ws]; rfl
  have d : (PyData.list [toPy (wsD ws), toPy (wsD us)]).depth ≤ 3 := by
    have := dep_ws ws; have := dep_ws us
    simp only [PyData.depth, PyData.depthAll]; omega
  have l : PyData.layable0 (PyData.list [toPy (wsD ws), toPy (wsD us)]) = true := by
    have h1 := wei_ws W.bits (fun w h => wl_ok W h) W.n16
    have h2 := wei_ws U.bits (fun w h => wl_ok U h) U.n16
    simp only [PyData.layable0, c, Bool.and_eq_true, decide_eq_true_eq, true_and]
    refine ⟨by omega, ?_⟩
    simp only [PyData.weight, PyData.weightAll] at h1 h2 ⊢
    omega
  have sh : (PyData.list [toPy (wsD ws), toPy (wsD us)]).intsShort 13 = true := by
    simp only [PyData.intsShort, PyData.intsShortAll, short_ws W.bits, short_ws U.bits]; rfl
  have sw : (PyData.list [toPy (wsD ws), toPy (wsD us)]).showable = true := by
    simp only [PyData.showable, PyData.showableAll, show_ws W.bits, show_ws U.bits]; rfl
  have s := PyProof.Rows.shown_le13 l sh
  have z := size13
  have e : decide ((PyData.list [toPy (wsD ws), toPy (wsD us)]).depth < 50) = true := decide_eq_true (by omega)
  have e2 : decide ((PyData.list [toPy (wsD ws), toPy (wsD us)]).shown.length ≤ sizeLine) = true := decide_eq_true (by omega)
  simp only [reprOk, t, c, sw, PyData.hasDict_of_canLay _ c, e, e2]; rfl
end Hk

set_option Elab.async false
set_option linter.all false
set_option maxRecDepth 100000
namespace Hk
open PySem PySem.Spec PyProof.Rows L2 Hf

/-! ### small values may be shown -/
structure Sm (k n : Nat) (d : D) : Prop where
  can : (toPy d).canLay0 = true
  shw : (toPy d).showable = true
  dep : (toPy d).depth ≤ k
  wei : (toPy d).weight ≤ n
  sho : (toPy d).intsShort 13 = true
  ok : PyData.strOk (toPy d).shown = true
theorem Sm.mono {k n k' n' : Nat} {d : D} (h : Sm k n d) (hk : k ≤ k') (hn : n ≤ n') : Sm k' n' d := ⟨h.can, h.shw, Nat.le_trans h.dep hk, Nat.le_trans h.wei hn, h.sho, h.ok⟩
theorem sm_none : Sm 0 0 .none := ⟨rfl, rfl, Nat.le_refl _, Nat.le_refl _, rfl, by decide +kernel⟩
theorem sm_bool (b : Bool) : Sm 0 0 (.bool b) := by cases b <;> exact ⟨rfl, rfl, Nat.le_refl _, Nat.le_refl _, rfl, by decide +kernel⟩
theorem small_int : ∀ j : Fin 621, PyData.showable (.int ((j : Nat) - 20)) = true ∧ PyData.weight (.int ((j : Nat) - 20)) ≤ 10 ∧ PyData.intsShort 13 (.int ((j : Nat) - 20)) = true ∧ PyData.strOk (PyData.shown (.int ((j : Nat) - 20))) = true := by decide +kernel
theorem sm_int {i : Int} (h1 : -20 ≤ i) (h2 : i ≤ 600) : Sm 0 10 (.int i) := by
  have e : i = (((i + 20).toNat : Nat) : Int) - 20 := by omega
  have := small_int ⟨(i + 20).toNat, by omega⟩
  simp only [← e] at this
  exact ⟨rfl, this.1, Nat.le_refl _, this.2.1, this.2.2.1, this.2.2.2⟩
theorem sm_nat {i : Nat} (h2 : i ≤ 600) : Sm 0 10 (.int i) := sm_int (by omega) (by omega)
theorem allSm {k n : Nat} {ds : List D} (h : ∀ d ∈ ds, Sm k n d) : PyData.canLayAll0 (toPys ds) = true ∧ PyData.showableAll (toPys ds) = true ∧ PyData.depthAll (toPys ds) ≤ k ∧ PyData.weightAll (toPys ds) ≤ ds.length * (n + 1) ∧ PyData.intsShortAll 13 (toPys ds) = true ∧ ∀ t ∈ PyData.shownAll (toPys ds), PyData.strOk t = true := by
  induction ds with
  | nil => simp [toPys, PyData.canLayAll0, PyData.showableAll, PyData.depthAll, PyData.weightAll, PyData.intsShortAll, PyData.shownAll]
  | cons d ds ih =>
    obtain ⟨a1, a2, a3, a4, a5, a6⟩ := ih fun x hx => h x (List.mem_cons_of_mem _ hx)
    obtain ⟨b1, b2, b3, b4, b5, b6⟩ := h d (List.mem_cons_self ..)
    simp only [toPys, PyData.canLayAll0, PyData.showableAll, PyData.depthAll, PyData.weightAll, PyData.intsShortAll, PyData.shownAll, a1, a2, a5, b1, b2, b5, List.length_cons, Nat.add_mul]
    refine ⟨rfl, rfl, by omega, by omega, rfl, fun t ht => ?_⟩
    rcases List.mem_cons.mp ht with rfl | ht
    · exact b6
    · exact a6 t ht
theorem sm_tup {k n : Nat} {ds : List D} (h : ∀ d ∈ ds, Sm k n d) : Sm (k + 1) (ds.length * (n + 1)) (.tup ds) := by
  obtain ⟨a1, a2, a3, a4, a5, a6⟩ := allSm h
  refine ⟨?_, ?_, ?_, ?_, ?_, ?_⟩
  · simp only [toPy, PyData.canLay0]; exact a1
  · simp only [toPy, PyData.showable]; exact a2
  · simp only [toPy, PyData.depth]; omega
  · simp only [toPy, PyData.weight]; exact a4
  · simp only [toPy, PyData.intsShort]; exact a5
  · simp only [toPy, PyData.shown]; exact ok_tuple a6
theorem sm_lst {k n : Nat} {ds : List D} (h : ∀ d ∈ ds, Sm k n d) : Sm (k + 1) (ds.length * (n + 1)) (.lst ds) := by
  obtain ⟨a1, a2, a3, a4, a5, a6⟩ := allSm h
  refine ⟨?_, ?_, ?_, ?_, ?_, ?_⟩
  · simp only [toPy, PyData.canLay0]; exact a1
  · simp only [toPy, PyData.showable]; exact a2
  · simp only [toPy, PyData.depth]; omega
  · simp only [toPy, PyData.weight]; exact a4
  · simp only [toPy, PyData.intsShort]; exact a5
  · simp only [toPy, PyData.shown]; exact ok_list a6
def isSeq : D → Bool
  | .tup _ => true
  | .lst _ => true
  | _ => false
theorem Sm.repr {k n : Nat} {d : D} (h : Sm k n d) (hq : isSeq d = true) (hk : k ≤ 40) (hn : n ≤ 100000) : reprOk d = true := by
  have l : PyData.layable0 (toPy d) = true := by
    have := h.dep
    have := h.wei
    simp only [PyData.layable0, h.can, Bool.and_eq_true, decide_eq_true_eq, true_and]
    omega
  have s := PyProof.Rows.shown_le13 l h.sho
  have d' := h.dep
  have z := size13
  have e : decide ((toPy d).depth < 50) = true := decide_eq_true (by omega)
  have e2 : decide ((toPy d).shown.length ≤ sizeLine) = true := decide_eq_true (by omega)
  cases d <;> first | (simp only [reprOk, h.can, h.shw, PyData.hasDict_of_canLay _ h.can, e, e2]; rfl) | cases hq
theorem Sm.same {k n : Nat} {d : D} (h : Sm k n d) (hq : isSeq d = true) (hk : k ≤ 40) (hn : n ≤ 100000) (B : Bs) : f__law_same [d, d] B = .ok (.bool true) B :=
  law_same_ok (h.repr hq hk hn) (h.repr hq hk hn) h.ok h.ok rfl B
theorem Sm.shp {k n : Nat} {d : D} (h : Sm k n d) (hk : k ≤ 40) : Hf.shp d = true := by
  have := h.dep
  simp only [Hf.shp, SeqAt.shaped, h.can, Bool.and_eq_true, decide_eq_true_eq, true_and]; omega
theorem sm_bit {b : Int} (h : b = 0 ∨ b = 1) : Sm 0 10 (.int b) := sm_int (by omega) (by omega)
theorem sm_w {w : List Int} (h : ∀ b ∈ w, b = 0 ∨ b = 1) (hl : w.length ≤ 5) : Sm 1 55 (wD w) := by
  refine (sm_tup (k := 0) (n := 10) fun d hd => ?_).mono (Nat.le_refl _) (by simp; omega)
  obtain ⟨b, hb, rfl⟩ := List.mem_map.mp hd
  exact sm_bit (h b hb)
theorem sm_ws {ws : List (List Int)} (h : ∀ w ∈ ws, ∀ b ∈ w, b = 0 ∨ b = 1) (hl : ∀ w ∈ ws, w.length ≤ 5) (hn : ws.length ≤ 32) : Sm 2 1792 (wsD ws) := by
  refine (sm_tup (k := 1) (n := 55) fun d hd => ?_).mono (Nat.le_refl _) (by simp; omega)
  obtain ⟨b, hb, rfl⟩ := List.mem_map.mp hd
  exact sm_w (h b hb) (hl b hb)
theorem OkW.sm {m : Nat} {ws : List (List Int)} (W : OkW m ws) : Sm 2 1792 (wsD ws) := sm_ws W.bits (fun w h => wl_ok W h) (by have := W.n16; omega)
end Hk

set_option Elab.async false
set_option linter.all false
set_option maxRecDepth 100000
namespace Hk
open PySem PySem.Spec PyProof.Rows L2 Hf

/-! ### drawn words -/
theorem perm_map_inv {α β : Type} (f : α → β) {xs es : List β} (h : xs.Perm es) : ∀ {l : List α}, xs = l.map f → ∃ l' : List α, es = l'.map f ∧ l'.Perm l := by
  induction h with
  | nil => intro l e; have : l = [] := by simpa using e.symm
           subst this; exact ⟨[], rfl, .refl _⟩
  | cons x _ ih =>
    intro l e
    cases l with
    | nil => simp at e
    | cons y l =>
      simp at e
      obtain ⟨l', e1, p⟩ := ih e.2
      exact ⟨y :: l', by simp [e.1, e1], p.cons y⟩
  | swap x y l0 =>
    intro l e
    match l, e with
    | a :: b :: l, e =>
      simp at e
      exact ⟨b :: a :: l, by simp [e.1, e.2.1, e.2.2], List.Perm.swap _ _ _⟩
  | trans _ _ ih1 ih2 =>
    intro l e
    obtain ⟨l1, e1, p1⟩ := ih1 e
    obtain ⟨l2, e2, p2⟩ := ih2 e1
    exact ⟨l2, e2, p2.trans p1⟩
def alW : Nat → List (List Int)
  | 0 => [[]]
  | n + 1 => (alW n).flatMap fun w => [w ++ [0], w ++ [1]]
theorem five {m : Nat} (h1 : 1 ≤ m) (h5 : m ≤ 5) : m = 1 ∨ m = 2 ∨ m = 3 ∨ m = 4 ∨ m = 5 := by omega
def okB (m : Nat) (ws : List (List Int)) : Bool := decide (2 ≤ ws.length) && decide (ws.length ≤ 16) && decide (1 ≤ m) && decide (m ≤ 5) && ws.all (fun w => decide (w.length = m) && w.all fun b => decide (b = 0) || decide (b = 1)) && decide ws.Nodup
theorem okB_ok {m : Nat} {ws : List (List Int)} (h : okB m ws = true) : OkW m ws := by
  simp only [okB, Bool.and_eq_true, decide_eq_true_eq, List.all_eq_true, Bool.or_eq_true] at h
  obtain ⟨⟨⟨⟨⟨h1, h2⟩, h3⟩, h4⟩, h5⟩, h6⟩ := h
  exact ⟨h1, h2, h3, h4, fun w hw => (h5 w hw).1, fun w hw b hb => (h5 w hw).2 b hb, h6⟩
structure AlW (m : Nat) (ws : List (List Int)) : Prop where
  wid : ∀ w ∈ ws, w.length = m
  bits : ∀ w ∈ ws, ∀ b ∈ w, b = 0 ∨ b = 1
  nd : ws.Nodup
def alB (m : Nat) (ws : List (List Int)) : Bool := ws.all (fun w => decide (w.length = m) && w.all fun b => decide (b = 0) || decide (b = 1)) && decide ws.Nodup
theorem alB_ok {m : Nat} {ws : List (List Int)} (h : alB m ws = true) : AlW m ws := by
  simp only [alB, Bool.and_eq_true, decide_eq_true_eq, List.all_eq_true, Bool.or_eq_true] at h
  exact ⟨fun w hw => (h.1 w hw).1, fun w hw b hb => (h.1 w hw).2 b hb, h.2⟩
/-- a prefix of all words in a drawn order -/
theorem AlW.some {m : Nat} {ws us : List (List Int)} (A : AlW m ws) (h1 : 1 ≤ m) (h5 : m ≤ 5) (p : us.Perm ws) {k : Nat} (k2 : 2 ≤ k) (k16 : k ≤ 16) (kl : k ≤ us.length) : OkW m (us.take k) :=
  ⟨by simp; omega, by simp; omega, h1, h5, fun w h => A.wid w (p.mem_iff.mp (List.mem_of_mem_take h)), fun w h => A.bits w (p.mem_iff.mp (List.mem_of_mem_take h)), (List.take_sublist k us).nodup (p.nodup_iff.mpr A.nd)⟩
theorem all_words_ok {m : Nat} (h1 : 1 ≤ m) (h5 : m ≤ 5) (B : Bs) : f__law_all_words [.int m] B = .ok (.lst ((alW m).map wD)) B ∧ AlW m (alW m) ∧ (alW m).length = 2 ^ m := by
  rcases five h1 h5 with rfl | rfl | rfl | rfl | rfl <;> exact ⟨rfl, alB_ok (by decide +kernel), rfl⟩
end Hk


set_option Elab.async false
set_option linter.all false
set_option maxRecDepth 100000
namespace Hk
open PySem PySem.Spec PyProof.Rows L2 Hf

/-! ### comprehensions with a test -/
theorem lcL_filter {α : Type} {t : Tg} {mt : Et} {me : Ev} {σ : Sl} {B : Bs} (F : α → D) (p : α → Bool) (G : α → D) : (xs : List α) → (h : ∀ x ∈ xs, ∃ σ', t (F x) σ = some σ' ∧ mt σ' B = .ok (p x) B ∧ (p x = true → me σ' B = .ok (G x) B)) →
    lcL t mt me σ (xs.map F) B = .ok ((xs.filter p).map G) B
  | [], _ => rfl
  | x :: xs, h => by
    obtain ⟨σ', h1, h2, h3⟩ := h x (List.mem_cons_self ..)
    have ih := lcL_filter (t := t) (mt := mt) (me := me) (σ := σ) (B := B) F p G xs fun y hy => h y (List.mem_cons_of_mem _ hy)
    cases hp : p x with
    | true => simp [lcL, h1, h2, h3 hp, hp, ih]
    | false => simp [lcL, h1, h2, hp, ih]
theorem mLc_filter {α : Type} {vs : List Nat} {i : Nat} {mi : Ei} {mt : Et} {me : Ev} {σ : Sl} {B : Bs} {ds : List D} (F : α → D) (p : α → Bool) (G : α → D) (xs : List α) (hi : mi σ B = .ok ds B) (hd : ds = xs.map F) (hl : xs.length ≤ sizeLine)
    (h : ∀ x ∈ xs, mt ((wipeI σ vs).set i (some (false, F x))) B = .ok (p x) B ∧ (p x = true → me ((wipeI σ vs).set i (some (false, F x))) B = .ok (G x) B)) : mLc vs (gN i) mi mt me σ B = .ok (.lst ((xs.filter p).map G)) B := by
  subst hd
  have := lcL_filter (t := gN i) (mt := mt) (me := me) (σ := wipeI σ vs) (B := B) F p G xs fun x hx => ⟨_, rfl, h x hx⟩
  have hs : (xs.filter p).length ≤ sizeLine := Nat.le_trans (List.length_filter_le ..) hl
  simp [mLc, hi, this, szL, hs]
/-- all F x of a list are tested by the empty list -/
theorem eq_nil_ok {α : Type} (l : List α) (B : Bs) : fEq (.lst (l.map fun _ => D.int 1)) (.lst []) B = .ok (.bool l.isEmpty) B := by
  have h1 : shp (.lst (l.map fun _ => D.int 1)) = true := (sm_lst (k := 0) (n := 10) fun d hd => by
    obtain ⟨_, _, rfl⟩ := List.mem_map.mp hd
    exact sm_int (by decide) (by decide)).shp (by decide)
  have h2 : shp (.lst []) = true := (sm_lst (k := 0) (n := 0) fun d hd => by simp at hd).shp (by decide)
  simp only [fEq, h1, h2]
  cases l <;> rfl

/-! ### readings -/
abbrev col (W : List (List Int)) (p : Nat) : List Int := W.map fun w => w[p]!
abbrev cbit (W : List (List Int)) (p : Nat) : List Int := [0, 1].filter fun b => decide (b ∈ col W p)
def prdW (W : List (List Int)) : Nat → List (List Int)
  | 0 => [[]]
  | k + 1 => (prdW W k).flatMap fun w => (cbit W k).map fun b => w ++ [b]
theorem srt_col {W : List (List Int)} {p : Nat} (h : ∀ b ∈ col W p, b = 0 ∨ b = 1) : srt (dd (col W p)) = cbit W p := by
  refine srt_eq ((List.perm_ext_iff_of_nodup (nodup_dd _) (List.filter_sublist.nodup (by decide))).mpr fun a => ?_) ?_
  · rw [mem_dd, List.mem_filter, decide_eq_true_eq]
    refine ⟨fun ha => ⟨?_, ha⟩, fun ha => ha.2⟩
    rcases h a ha with rfl | rfl <;> decide
  · exact List.Pairwise.filter _ (by decide)
theorem prdW_wid (W : List (List Int)) : (k : Nat) → ∀ w ∈ prdW W k, w.length = k
  | 0, w, h => by simp [prdW] at h; simp [h]
  | k + 1, w, h => by
    simp only [prdW, List.mem_flatMap, List.mem_map] at h
    obtain ⟨u, hu, b, _, rfl⟩ := h
    simp [prdW_wid W k u hu]
theorem prdW_bits (W : List (List Int)) : (k : Nat) → ∀ w ∈ prdW W k, ∀ b ∈ w, b = 0 ∨ b = 1
  | 0, w, h, b, hb => by simp [prdW] at h; simp [h] at hb
  | k + 1, w, h, b, hb => by
    simp only [prdW, List.mem_flatMap, List.mem_map] at h
    obtain ⟨u, hu, c, hc, rfl⟩ := h
    rcases List.mem_append.mp hb with hb | hb
    · exact prdW_bits W k u hu b hb
    · rw [List.mem_singleton.mp hb]
      have := (List.mem_filter.mp hc).1
      simpa using this
theorem cbit_len (W : List (List Int)) (p : Nat) : (cbit W p).length ≤ 2 := List.length_filter_le ..
theorem prdW_len (W : List (List Int)) : (k : Nat) → (prdW W k).length ≤ 2 ^ k
  | 0 => by simp [prdW]
  | k + 1 => by
    have ih := prdW_len W k
    have : ∀ l : List (List Int), (l.flatMap fun w => (cbit W k).map fun b => w ++ [b]).length ≤ l.length * 2 := by
      intro l
      induction l with
      | nil => simp
      | cons x l ih =>
        have := cbit_len W k
        simp only [List.flatMap_cons, List.length_append, List.length_map, List.length_cons]
        omega
    have := this (prdW W k)
    simp only [prdW, Nat.pow_succ]; omega
/-- the law's own test of a word -/
abbrev gd (W : List (List Int)) (r : List Int) : Bool := (List.range r.length).all fun p => decide (r[p]! ∈ col W p)
theorem gd_snoc (W : List (List Int)) (w : List Int) (b : Int) : gd W (w ++ [b]) = (gd W w && decide (b ∈ col W w.length)) := by
  have e : (List.range (w ++ [b]).length) = List.range w.length ++ [w.length] := by simp [List.range_succ]
  have h1 : (w ++ [b])[w.length]! = b := by simp
  have h2 : ((List.range w.length).all fun p => decide ((w ++ [b])[p]! ∈ col W p)) = gd W w := by
    rw [gd, Bool.eq_iff_iff]
    simp only [List.all_eq_true, List.mem_range]
    refine forall_congr' fun p => imp_congr_right fun hp => ?_
    have : (w ++ [b])[p]! = w[p]! := by
      rw [getElem!_pos (w ++ [b]) p (by simp; omega), getElem!_pos w p hp, List.getElem_append_left hp]
    rw [this]
  unfold gd
  rw [e, List.all_append]
  simp only [List.all_cons, List.all_nil, Bool.and_true, h1]
  rw [h2]
theorem alW_wid : (k : Nat) → ∀ w ∈ alW k, w.length = k
  | 0, w, h => by simp [alW] at h; simp [h]
  | k + 1, w, h => by
    simp only [alW, List.mem_flatMap] at h
    obtain ⟨u, hu, h⟩ := h
    have := alW_wid k u hu
    simp at h
    rcases h with rfl | rfl <;> simp [this]
theorem flatMap_if {α β : Type} (p : α → Bool) (f : α → List β) (l : List α) : (l.flatMap fun x => if p x then f x else []) = (l.filter p).flatMap f := by
  induction l with
  | nil => rfl
  | cons x l ih => cases h : p x <;> simp [h, ih]
theorem flatMap_on {α β : Type} {f g : α → List β} {l : List α} (h : ∀ x ∈ l, f x = g x) : l.flatMap f = l.flatMap g := by
  induction l with
  | nil => rfl
  | cons x l ih => simp [h x (List.mem_cons_self ..), ih fun y hy => h y (List.mem_cons_of_mem _ hy)]
theorem gd_all (W : List (List Int)) : (k : Nat) → (alW k).filter (gd W) = prdW W k
  | 0 => by simp [alW, prdW, gd]
  | k + 1 => by
    rw [alW, prdW, ← gd_all W k, List.filter_flatMap, ← flatMap_if]
    refine flatMap_on fun w hw => ?_
    have hl := alW_wid k w hw
    have s0 := gd_snoc W w 0
    have s1 := gd_snoc W w 1
    rw [hl] at s0 s1
    simp only [List.filter_cons, List.filter_nil, s0, s1, cbit]
    cases gd W w <;> by_cases h0 : (0 : Int) ∈ col W k <;> by_cases h1 : (1 : Int) ∈ col W k <;> simp only [h0, h1] <;> rfl
end Hk

set_option Elab.async false
set_option linter.all false
set_option maxRecDepth 100000
namespace Hk
open PySem PySem.Spec PyProof.Rows L2 Hf
@[simp] theorem sz0 : 0 ≤ sizeLine := by decide
@[simp] theorem sz1 : 1 ≤ sizeLine := by decide
@[simp] theorem sz2 : 2 ≤ sizeLine := by decide
@[simp] theorem sz3 : 3 ≤ sizeLine := by decide
@[simp] theorem sz4 : 4 ≤ sizeLine := by decide
@[simp] theorem sz5 : 5 ≤ sizeLine := by decide
@[simp] theorem sz6 : 6 ≤ sizeLine := by decide
@[simp] theorem sz7 : 7 ≤ sizeLine := by decide
@[simp] theorem sz8 : 8 ≤ sizeLine := by decide
@[simp] theorem sz9 : 9 ≤ sizeLine := by decide
@[simp] theorem sz10 : 10 ≤ sizeLine := by decide
abbrev nD (o : List Nat) : List D := o.map fun i : Nat => D.int i
theorem rng_nD (n : Nat) : rngD 0 n = nD (List.range n) := by simp [rngD, nD]
end Hk

set_option Elab.async false
set_option linter.all false
set_option maxRecDepth 100000
namespace Hk
open PySem PySem.Spec PyProof.Rows L2 Hf

/-! ### windows and readings, by the program and by the law -/
abbrev wiN (n v s : Nat) : List Nat := (List.range (s + 1)).map fun i => (v + i) % n
theorem rngB_nat {n : Nat} (h : n ≤ 1000000) : rngB (n : Int) = true := by simp [rngB]; omega
theorem rng_map (n : Nat) : rngD 0 n = (List.range n).map fun i : Nat => D.int i := rng_nD n
theorem window_of_ok {ws : List (List Int)} (h16 : ws.length ≤ 16) (h0 : 0 < ws.length) {v s : Nat} (hv : v ≤ 100) (hs : s ≤ 100) (B : Bs) : f_window_of [codeD ws, .int v, .int s] B = .ok (.lst (nD (wiN ws.length v s))) B := by
  have l := len_code_ok ws h16 B
  have e4 : rngB ((s : Int) + 1) = true := by simp [rngB]; omega
  have e5 : ((s : Int) + 1).toNat = s + 1 := by omega
  have a := mLc_map (vs := [3]) (i := 3) (mi := mRng1 (mBin fAdd (mVar 2) (mC (.int 1)))) (me := mBin fMod (mBin fAdd (mVar 1) (mVar 3)) (m1 (fLenA 0 f_CodeX_lenX) (mVar 0))) (σ := [some (false, codeD ws), some (false, .int v), some (false, .int s), none]) (B := B)
    (ds := rngD 0 (s + 1)) (fun i : Nat => D.int i) (fun i : Nat => D.int (((v + i) % ws.length : Nat) : Int)) (List.range (s + 1)) (by simp [e4, e5]) (rng_map _) (Nat.le_trans (by simp; omega) size_big) (fun i hi => by
      generalize fLenA 0 f_CodeX_lenX = L at l
      simp [wipeI, l, z_fMod, h0])
  have e6 : nD (wiN ws.length v s) = (List.range (s + 1)).map fun i : Nat => D.int (((v + i) % ws.length : Nat) : Int) := by simp [nD]
  rw [e6]
  simp only [f_window_of, m_window_of]
  simp [a]
theorem in_ints (i : Int) (l : List Int) (f : Bool → Bool) (B : Bs) : fInD f (.int i) (.lst (l.map D.int)) B = .ok (.bool (f (decide (i ∈ l)))) B := by
  have s : shp (.lst (l.map D.int)) = true := by
    have h1 : PyData.canLayAll0 (toPys (l.map D.int)) = true := by rw [toPys_map]; exact canAll _ l fun b _ => by simp [toPy, PyData.canLay0]
    have h2 : PyData.depthAll (toPys (l.map D.int)) ≤ 0 := by rw [toPys_map]; exact depAll _ 0 l fun b _ => by simp [toPy, PyData.depth]
    simp only [shp, SeqAt.shaped, toPy, PyData.canLay0, PyData.depth, h1, Bool.and_eq_true, decide_eq_true_eq, true_and]; omega
  have s1 := shp_int i
  have e : inD (.int i) (l.map D.int) = decide (i ∈ l) := by
    rw [inD, toPys_map]
    simp only [toPy, List.any_map]
    induction l with
    | nil => rfl
    | cons x o ih =>
      simp only [List.any_cons, List.mem_cons, Function.comp, PyData.eqv]
      have ih' : (o.any ((fun z => z.eqv (PyData.int i)) ∘ fun x => PyData.int x)) = decide (i ∈ o) := ih (by
        have h1 : PyData.canLayAll0 (toPys (o.map D.int)) = true := by rw [toPys_map]; exact canAll _ o fun b _ => by simp [toPy, PyData.canLay0]
        have h2 : PyData.depthAll (toPys (o.map D.int)) ≤ 0 := by rw [toPys_map]; exact depAll _ 0 o fun b _ => by simp [toPy, PyData.depth]
        simp only [shp, SeqAt.shaped, toPy, PyData.canLay0, PyData.depth, h1, Bool.and_eq_true, decide_eq_true_eq, true_and]; omega)
      rw [show (o.any ((fun z => z.eqv (PyData.int i)) ∘ fun x => PyData.int x)) = decide (i ∈ o) from ih']
      by_cases h : i = x
      · simp [h]
      · have : ¬ (x = i) := fun e => h e.symm
        simp [h, this]
  simp only [fInD, fInG, s, s1, e]; rfl
abbrev wiW (ws : List (List Int)) (v s : Nat) : List (List Int) := (wiN ws.length v s).map fun i => ws[i]!
theorem wiW_mem {ws : List (List Int)} {v s : Nat} (h0 : 0 < ws.length) : ∀ w ∈ wiW ws v s, w ∈ ws := by
  intro w hw
  simp only [wiW, wiN, List.mem_map, List.mem_range] at hw
  obtain ⟨_, ⟨i, _, rfl⟩, rfl⟩ := hw
  have hl : (v + i) % ws.length < ws.length := Nat.mod_lt _ h0
  rw [getElem!_pos ws _ hl]
  exact List.getElem_mem hl
theorem ix_ws {ws : List (List Int)} {i : Nat} (h : i < ws.length) (B : Bs) : fIx (wsD ws) (.int i) B = .ok (wD ws[i]!) B := by
  simp [fIx, atI, ixN, h]
theorem ix_w {w : List Int} {i : Nat} (h : i < w.length) (B : Bs) : fIx (wD w) (.int i) B = .ok (.int w[i]!) B := by
  simp [fIx, atI, ixN, h]
theorem srtSet_ok {l : List Int} (h : l.length < 64) (B : Bs) : fSrtSet (.lst (l.map D.int)) B = .ok (.lst ((srt (dd l)).map D.int)) B := by
  rw [fSrtSet, intsA_map]
  simp only [h, if_true]
theorem ext_loop (bits : List Int) (hb : bits.length ≤ 2) (v0 v1 v2 v3 v4 v5 v6 : Option (Bool × D)) (B : Bs) : (us : List (List Int)) → (acc : List D) → acc.length + us.length * 2 ≤ 1000 → (∀ u ∈ us, u.length ≤ 10) → (a : Option (Bool × D)) →
    ∃ a', forL (gN 9) (mExt 8 (mLc [10] (gN 10) (mItems (mVar 7)) mYes (mTup (mStar (mVar 9) (mCons (mVar 10) mNil))))) (us.map wD) [v0, v1, v2, v3, v4, v5, v6, some (false, .lst (bits.map D.int)), some (true, .lst acc), a, none] B
      = .next [v0, v1, v2, v3, v4, v5, v6, some (false, .lst (bits.map D.int)), some (true, .lst (acc ++ (us.flatMap fun w => bits.map fun b => w ++ [b]).map wD)), a', none] B
  | [], acc, h, _, a => ⟨a, by simp [forL]⟩
  | u :: us, acc, h, hu, a => by
    have hu0 := hu u (List.mem_cons_self ..)
    have hs : u.length + 1 ≤ sizeLine := Nat.le_trans (show _ ≤ 1000000 by omega) size_big
    have b1 := mLc_map (vs := [10]) (i := 10) (mi := mItems (mVar 7)) (me := mTup (mStar (mVar 9) (mCons (mVar 10) mNil))) (σ := [v0, v1, v2, v3, v4, v5, v6, some (false, .lst (bits.map D.int)), some (true, .lst acc), some (false, wD u), none]) (B := B)
      (ds := bits.map D.int) D.int (fun b => wD (u ++ [b])) bits (by simp) rfl (Nat.le_trans (show _ ≤ 1000000 by omega) size_big) (fun b _ => by simp [wipeI, szL, hs])
    obtain ⟨a', e⟩ := ext_loop bits hb v0 v1 v2 v3 v4 v5 v6 B us (acc ++ (bits.map fun b => wD (u ++ [b]))) (by simp at h ⊢; omega) (fun x hx => hu x (List.mem_cons_of_mem _ hx)) (some (false, wD u))
    have hs2 : acc.length + bits.length ≤ sizeLine := Nat.le_trans (show _ ≤ 1000000 by simp at h; omega) size_big
    refine ⟨a', ?_⟩
    simp only [List.map_cons, forL, gN, List.set_cons_succ, List.set_cons_zero]
    have e1 : mExt 8 (mLc [10] (gN 10) (mItems (mVar 7)) mYes (mTup (mStar (mVar 9) (mCons (mVar 10) mNil)))) [v0, v1, v2, v3, v4, v5, v6, some (false, .lst (bits.map D.int)), some (true, .lst acc), some (false, wD u), none] B
        = .next [v0, v1, v2, v3, v4, v5, v6, some (false, .lst (bits.map D.int)), some (true, .lst (acc ++ (bits.map fun b => wD (u ++ [b])))), some (false, wD u), none] B := by
      simp [mExt, b1, upO, hs2]
    rw [e1, z_seq_next, e]
    simp [List.append_assoc]
theorem readings_in_ok {m : Nat} {ws : List (List Int)} (W : OkW m ws) {v s : Nat} (hv : v ≤ 100) (hs : s ≤ 20) (B : Bs) : f_readings_in [codeD ws, .int v, .int s] B = .ok (wsD (prdW (wiW ws v s) m)) B := by
  have h0 : 0 < ws.length := by have := W.n2; omega
  have h5 := W.m5
  have a1 := window_of_ok W.n16 h0 hv (show s ≤ 100 by omega) B
  have hW : ∀ w ∈ wiW ws v s, w.length = m := fun w hw => W.wid w (wiW_mem h0 w hw)
  have hB : ∀ w ∈ wiW ws v s, ∀ b ∈ w, b = 0 ∨ b = 1 := fun w hw => W.bits w (wiW_mem h0 w hw)
  have hl : (wiW ws v s).length = s + 1 := by simp
  have hn : (wiN ws.length v s).length = s + 1 := by simp
  have hm : ∀ i ∈ wiN ws.length v s, i < ws.length := fun i hi => by
    simp only [wiN, List.mem_map] at hi
    obtain ⟨j, _, rfl⟩ := hi
    exact Nat.mod_lt _ h0
  have hww : (wiN ws.length v s).map (fun i => wD ws[i]!) = (wiW ws v s).map wD := by simp
  have a2 := mLc_map (vs := [4]) (i := 4) (mi := mItems (mCall f_window_of [] (mCons (mVar 0) (mCons (mVar 1) (mCons (mVar 2) mNil))))) (me := mBin fIx (mPrp 0 f_Code_words (mVar 0)) (mVar 4))
    (σ := [some (false, codeD ws), some (false, .int v), some (false, .int s), none, none, none, none, none, none, none, none]) (B := B) (ds := nD (wiN ws.length v s)) (fun i : Nat => D.int i) (fun i => wD ws[i]!) (wiN ws.length v s)
    (by simp [a1]) rfl (Nat.le_trans (show _ ≤ 1000000 by omega) size_big) (fun i hi => by
      have x := ix_ws (hm i hi) B
      have y := words_ok ws B
      simp [wipeI, y, x, -z_prpK])
  rw [hww] at a2
  generalize wiW ws v s = V at *
  have y := bits_ok W B
  have e4 := rngB_nat (show m ≤ 1000000 by omega)
  obtain ⟨σ', B', e1, ⟨rfl, a6, a7, a8, a9, rfl⟩⟩ := forL_inv (t := gN 6) (b := mSeq (mSet 7 (m1 fSrtSet (mLc [9] (gN 9) (mItems (mVar 3)) mYes (mBin fIx (mVar 9) (mVar 6)))))
      (mSeq (mSetO 8 (mLst mNil))
      (mSeq (mFor (gN 9) (mItems (mVar 5)) (mExt 8 (mLc [10] (gN 10) (mItems (mVar 7)) mYes (mTup (mStar (mVar 9) (mCons (mVar 10) mNil))))))
      (mFrz 8 (mSet 5 (mVar 8))))))
    (fun k σ B' => B' = B ∧ ∃ a6 a7 a8 a9, σ = [some (false, codeD ws), some (false, .int v), some (false, .int s), some (false, .lst (V.map wD)), none, some (false, .lst ((prdW V k).map wD)), a6, a7, a8, a9, none])
    (rngD 0 m) 0 [some (false, codeD ws), some (false, .int v), some (false, .int s), some (false, .lst (V.map wD)), none, some (false, .lst ((prdW V 0).map wD)), none, none, none, none, none] B (by
      rintro k d σ B' hd ⟨rfl, a6, a7, a8, a9, rfl⟩
      obtain ⟨rfl, hk⟩ := rngD_get hd
      simp only [Nat.zero_add, Int.zero_add]
      have b1 := mLc_map (vs := [9]) (i := 9) (mi := mItems (mVar 3)) (me := mBin fIx (mVar 9) (mVar 6)) (σ := [some (false, codeD ws), some (false, .int v), some (false, .int s), some (false, .lst (V.map wD)), none, some (false, .lst ((prdW V k).map wD)), some (false, .int k), a7, a8, a9, none]) (B := B')
        (ds := V.map wD) wD (fun w => D.int w[k]!) V (by simp) rfl (Nat.le_trans (show _ ≤ 1000000 by omega) size_big) (fun w hw => by
          have x := ix_w (w := w) (i := k) (by rw [hW w hw]; exact hk) B'
          simp [wipeI, x])
      have hc : ∀ b ∈ col V k, b = 0 ∨ b = 1 := fun b hb => by
        obtain ⟨w, hw, rfl⟩ := List.mem_map.mp hb
        rw [getElem!_pos w k (by rw [hW w hw]; exact hk)]
        exact hB w hw _ (List.getElem_mem _)
      have b2 := srtSet_ok (l := col V k) (by simp; omega) B'
      rw [srt_col hc] at b2
      have b3 : V.map (fun w => D.int w[k]!) = (col V k).map D.int := by simp
      rw [b3] at b1
      have p32 : (prdW V k).length ≤ 32 := Nat.le_trans (prdW_len V k) (Nat.le_trans (Nat.pow_le_pow_right (by omega) (show k ≤ 5 by omega)) (by decide))
      obtain ⟨a9', b4⟩ := ext_loop (cbit V k) (cbit_len V k) (some (false, codeD ws)) (some (false, .int v)) (some (false, .int s)) (some (false, .lst (V.map wD))) none (some (false, .lst ((prdW V k).map wD))) (some (false, .int k)) B' (prdW V k) [] (by simp; omega) (fun u hu => by
        have := prdW_wid V k u hu; omega) a9
      rw [List.nil_append] at b4
      refine ⟨_, rfl, _, B', ?_, rfl, some (false, .int k), some (false, .lst ((cbit V k).map D.int)), some (false, .lst ((prdW V (k + 1)).map wD)), a9', rfl⟩
      have b5 : (prdW V k).flatMap (fun w => (cbit V k).map fun b => w ++ [b]) = prdW V (k + 1) := rfl
      rw [b5] at b4
      simp only [z_mSeq, z_mSet, z_m1, List.set_cons_succ, List.set_cons_zero, b1, z_bind_ok, b2, z_st_ok, z_seq_next, z_mSetO, z_mLst, z_mNil, szL]
      simp [mFor, b4]) ⟨rfl, none, none, none, none, rfl⟩
  simp only [Nat.zero_add, rngD_len] at e1
  have z0 : prdW V 0 = [[]] := rfl
  rw [z0] at e1
  simp only [f_readings_in, m_readings_in]
  simp [mFor, a2, szL, y, e4, -z_prpK]
  simp at e1
  have w0 : wD [] = .tup [] := rfl
  rw [w0] at e1
  rw [e1]
  simp
/-! ### the law's readings -/
end Hk


set_option Elab.async false
set_option linter.all false
set_option maxRecDepth 100000
namespace Hk
open PySem PySem.Spec PyProof.Rows L2 Hf

/-! ### words among words -/
theorem eqv_ints : (u w : List Int) → PyData.eqvAll (u.map PyData.int) (w.map PyData.int) = decide (u = w)
  | [], [] => by simp [PyData.eqvAll]
  | [], _ :: _ => by simp [PyData.eqvAll]
  | _ :: _, [] => by simp [PyData.eqvAll]
  | x :: u, y :: w => by
    have ih := eqv_ints u w
    simp only [List.map_cons, PyData.eqvAll, PyData.eqv, ih, List.cons.injEq]
    by_cases h : x = y <;> simp [h]
theorem eqv_w (u w : List Int) : PyData.eqv (toPy (wD u)) (toPy (wD w)) = decide (u = w) := by
  rw [toPy_w, toPy_w]
  simp only [PyData.eqv]; exact eqv_ints u w
theorem in_ws {ws : List (List Int)} {r : List Int} (hw : ∀ w ∈ ws, ∀ b ∈ w, b = 0 ∨ b = 1) (hl : ∀ w ∈ ws, w.length ≤ 5) (hn : ws.length ≤ 32) (hr : ∀ b ∈ r, b = 0 ∨ b = 1) (hr5 : r.length ≤ 5) (f : Bool → Bool) (B : Bs) :
    fInD f (wD r) (wsD ws) B = .ok (.bool (f (decide (r ∈ ws)))) B := by
  have s1 := (sm_w hr hr5).shp (by decide)
  have s2 := (sm_ws hw hl hn).shp (by decide)
  have e : inD (wD r) (ws.map wD) = decide (r ∈ ws) := by
    rw [inD, toPys_map]
    clear hw hl hn s2
    induction ws with
    | nil => rfl
    | cons w ws ih =>
      simp only [List.map_cons, List.any_cons, ih, eqv_w, List.mem_cons]
      by_cases h : r = w
      · simp [h]
      · have : ¬ w = r := fun e => h e.symm
        simp [h, this]
  simp only [fInD, fInG, s1, s2, e]; rfl
theorem ixD_w {r : List Int} : (ws : List (List Int)) → r ∈ ws → ixD (wD r) (ws.map wD) = some (ws.idxOf r)
  | w :: ws, h => by
    simp only [List.map_cons, ixD, eqv_w, List.idxOf_cons]
    by_cases e : w = r
    · simp [e]
    · have h2 : r ∈ ws := by
        rcases List.mem_cons.mp h with h | h
        · exact absurd h.symm e
        · exact h
      have e2 : (w == r) = false := by simpa using e
      rw [if_neg (by simpa using e), ixD_w ws h2, e2]; rfl
theorem idx_ok {ws : List (List Int)} {r : List Int} (hw : ∀ w ∈ ws, ∀ b ∈ w, b = 0 ∨ b = 1) (hl : ∀ w ∈ ws, w.length ≤ 5) (hn : ws.length ≤ 32) (hr : ∀ b ∈ r, b = 0 ∨ b = 1) (hr5 : r.length ≤ 5) (h : r ∈ ws) (B : Bs) :
    fIdx (wsD ws) (wD r) B = .ok (.int (ws.idxOf r : Nat)) B := by
  have s1 := (sm_w hr hr5).shp (by decide)
  have s2 := (sm_ws hw hl hn).shp (by decide)
  simp only [fIdx, s1, s2, ixD_w ws h]; rfl
theorem rngD_cons (k : Int) (n : Nat) : rngD k (n + 1) = .int k :: rngD (k + 1) n := by
  simp [rngD, List.range_succ_eq_map]
  intro x _; omega
theorem dAt_w {r : List Int} : (ws : List (List Int)) → (k : Int) → dAt (ws.map wD) (rngD k ws.length) (.tup (r.map .num)) = if r ∈ ws then some (.int (k + (ws.idxOf r : Nat))) else Option.none
  | [], k => by simp [dAt]
  | w :: ws, k => by
    rw [List.length_cons, rngD_cons, List.map_cons, dAt, nk_wD]
    by_cases e : w = r
    · subst e; simp [List.idxOf_cons]
    · have h1 : ¬ (some (NestedKey.tup (w.map .num)) = some (NestedKey.tup (r.map .num))) := fun h => e (key_inj (Option.some.inj h))
      rw [if_neg h1, dAt_w ws (k + 1)]
      have e2 : (w == r) = false := by simpa using e
      have e3 : ¬ r = w := fun h => e h.symm
      by_cases h : r ∈ ws
      · rw [if_pos h, if_pos (List.mem_cons_of_mem _ h), List.idxOf_cons, e2]
        simp only [cond_false]
        congr 2; omega
      · rw [if_neg h, if_neg (by simp [h, e3])]
/-- the value of a word, -1 of none -/
def fdW (ws : List (List Int)) (r : List Int) : Int := if r ∈ ws then (ws.idxOf r : Nat) else -1
theorem get_ok (ws : List (List Int)) (r : List Int) (B : Bs) : fGet (ws.map wD) (rngD 0 ws.length) (wD r) (.int (-1)) B = .ok (.int (fdW ws r)) B := by
  rw [fGet, keyT_w]
  simp only [dAt_w, fdW]
  by_cases h : r ∈ ws
  · simp [h]
  · simp [h]
end Hk

set_option Elab.async false
set_option linter.all false
set_option maxRecDepth 100000
namespace Hk
open PySem PySem.Spec PyProof.Rows L2 Hf

/-! ### what is the same of all laws: cells, a pen for each -/
theorem pen_made_ok (c : Int) (B : Bs) : ∃ B', f__law_pen [.int c] B = .ok (.box B.length) B' ∧ PenOk B' B.length := by
  have h0 := Int.emod_nonneg c (show (2147483629 : Int) ≠ 0 by decide)
  have h1 := Int.emod_lt_of_pos c (show (0 : Int) < 2147483629 by decide)
  refine ⟨B ++ [.lst [.int (if c - 10 ^ 18 > 0 then c - 10 ^ 18 else 0), .int (c % 2147483629 + 1), .int 0]], ?_, ⟨(if c - 10 ^ 18 > 0 then c - 10 ^ 18 else 0), c % 2147483629 + 1, 0, by simp, by omega, by omega⟩⟩
  have e : fPow (.int 10) (.int 18) B = .ok (.int (10 ^ 18)) B := rfl
  simp [f__law_pen, m__law_pen, e, mBox, szL, z_fMod]
theorem cell_at_ok (ns : List Int) (k : Nat) (B : Bs) : ∃ c, f__law_cell_at [.scr (ns.map D.int), .int k] B = .ok (.int c) B := by
  by_cases h : k < ns.length
  · refine ⟨ns[k], ?_⟩
    have : (k : Int) < (ns.length : Int) := by omega
    simp [f__law_cell_at, m__law_cell_at, fIx, atI, ixN, h]
  · refine ⟨0, ?_⟩
    have : ¬ (k : Int) < (ns.length : Int) := by omega
    simp [f__law_cell_at, m__law_cell_at, h]
theorem law_outer (inner : Ms) (c N : Nat) (hc : 1 ≤ c ∧ c ≤ 100) (ns : List Int)
    (h : ∀ (n k : Nat) (B : Bs) (r : Sl), r.length = N → PenOk B n → ∃ r' B', r'.length = N ∧ inner (some (false, .scr (ns.map D.int)) :: some (false, .int k) :: some (false, .box n) :: r) B = .next (some (false, .scr (ns.map D.int)) :: some (false, .int k) :: some (false, .box n) :: r') B') (r : Sl) (hr : r.length = N) (B : Bs) :
    ∃ B', (mSeq (mFor (gN 1) (mRng1 (mBin fMax2 (mC (.int 1)) (mBin fMin2 (m1 fLen (mVar 0)) (mC (.int c))))) (mSeq (mSet 2 (mCall f__law_pen [] (mCons (mCall f__law_cell_at [] (mCons (mVar 0) (mCons (mVar 1) mNil))) mNil))) inner)) (mRet (mC (.bool true)))
      (some (false, .scr (ns.map D.int)) :: none :: none :: r) B) = .ret (.bool true) B' := by
  obtain ⟨K, hK⟩ : ∃ K : Nat, (if (if (c : Int) < (ns.length : Int) then (c : Int) else (ns.length : Int)) > 1 then (if (c : Int) < (ns.length : Int) then (c : Int) else (ns.length : Int)) else 1) = (K : Int) ∧ K ≤ 100 :=
    ⟨(if (if (c : Int) < (ns.length : Int) then (c : Int) else (ns.length : Int)) > 1 then (if (c : Int) < (ns.length : Int) then (c : Int) else (ns.length : Int)) else 1).toNat, by split <;> split <;> omega, by split <;> split <;> omega⟩
  obtain ⟨σ', B', e, a, b, r', _, rfl⟩ := forL_inv (t := gN 1) (b := mSeq (mSet 2 (mCall f__law_pen [] (mCons (mCall f__law_cell_at [] (mCons (mVar 0) (mCons (mVar 1) mNil))) mNil))) inner)
    (fun _ σ _ => ∃ a b r, r.length = N ∧ σ = some (false, .scr (ns.map D.int)) :: a :: b :: r) (rngD 0 K) 0 (some (false, .scr (ns.map D.int)) :: none :: none :: r) B (by
      rintro i d σ B hd ⟨a, b, r, hr, rfl⟩
      obtain ⟨rfl, _⟩ := rngD_get hd
      obtain ⟨x, e1⟩ := cell_at_ok ns i B
      obtain ⟨B1, e2, P1⟩ := pen_made_ok x B
      obtain ⟨r', B2, hr', e3⟩ := h B.length i B1 r hr P1
      refine ⟨_, rfl, some (false, .scr (ns.map D.int)) :: some (false, .int i) :: some (false, .box B.length) :: r', B2, ?_, _, _, r', hr', rfl⟩
      simp [e1, e2]
      exact e3) ⟨none, none, r, hr, rfl⟩
  have r4 : rngB (K : Int) = true := by simp [rngB]; omega
  refine ⟨B', ?_⟩
  have s1 : mRng1 (mBin fMax2 (mC (.int 1)) (mBin fMin2 (m1 fLen (mVar 0)) (mC (.int c)))) (some (false, .scr (ns.map D.int)) :: none :: none :: r) B = .ok (rngD 0 K) B := by
    have l : ((ns.map D.int).length : Int) = (ns.length : Int) := by simp
    simp only [z_mRng1, z_mBin, z_mC, z_m1, z_mVar, List.getElem?_cons_zero, z_bind_ok, z_lenS, z_fMin2, z_fMax2, z_asI, l, hK.1, r4, if_true, Int.toNat_natCast]
  simp only [z_mSeq, mFor, s1, z_st_ok, e, z_seq_next, z_mRet, z_mC]
end Hk

set_option Elab.async false
set_option linter.all false
set_option maxRecDepth 100000
namespace Hk
open PySem PySem.Spec PyProof.Rows L2 Hf

/-! ### bridges: what may be read, how one is made -/
theorem mLc_filterT {α : Type} {vs : List Nat} {t : Tg} {mi : Ei} {mt : Et} {me : Ev} {σ : Sl} {B : Bs} {ds : List D} (F : α → D) (p : α → Bool) (G : α → D) (xs : List α) (hi : mi σ B = .ok ds B) (hd : ds = xs.map F) (hl : xs.length ≤ sizeLine)
    (h : ∀ x ∈ xs, ∃ σ', t (F x) (wipeI σ vs) = some σ' ∧ mt σ' B = .ok (p x) B ∧ (p x = true → me σ' B = .ok (G x) B)) : mLc vs t mi mt me σ B = .ok (.lst ((xs.filter p).map G)) B := by
  subst hd
  have := lcL_filter (t := t) (mt := mt) (me := me) (σ := wipeI σ vs) (B := B) F p G xs h
  have hs : (xs.filter p).length ≤ sizeLine := Nat.le_trans (List.length_filter_le ..) hl
  simp [mLc, hi, this, szL, hs]
theorem fNe_int (i j : Int) (B : Bs) : fNe (.int i) (.int j) B = .ok (.bool (!(i == j))) B := by simp [fNe, shp_int, eqD, toPy, PyData.eqv]
theorem getitem_ok {m : Nat} {ws : List (List Int)} (W : OkW m ws) {r : List Int} (hr : ∀ b ∈ r, b = 0 ∨ b = 1) (hl : r.length = m) (B : Bs) : f_CodeX_getitemX [codeD ws, wD r] B = .ok (.int (fdW ws r)) B := by
  have h0 : 0 < ws.length := by have := W.n2; omega
  have h5 := W.m5
  obtain ⟨u0, x0, w0⟩ : ∃ u0, fIx (wsD ws) (.int 0) B = .ok (wD u0) B ∧ u0.length = m := ⟨ws[0], by simp [fIx, atI, ixN, h0], W.wid _ (List.getElem_mem _)⟩
  have a1 := are_bits_ok hr (by omega) B
  have a2 := get_ok ws r B
  have n1 : fNe (.int ((r.length : Nat) : Int)) (.int ((u0.length : Nat) : Int)) B = .ok (.bool false) B := by
    simp [fNe, shp_int, eqD, toPy, PyData.eqv, hl, w0]
  have a3 : mGet (mFld 0 1 (mVar 0)) (mVar 1) (mC (.int (-1))) [some (false, codeD ws), some (false, wD r)] B = .ok (.int (fdW ws r)) B := by
    rw [← a2]; rfl
  have s1 : mIf (mOrT (mNotT (mT (mCall f_are_bits [] (mCons (mVar 1) mNil)))) (mCmpT fNe (m1 fLen (mVar 1)) (m1 fLen (mBin fIx (mFld 0 0 (mVar 0)) (mC (.int 0)))))) mBad mSkip [some (false, codeD ws), some (false, wD r)] B = .next [some (false, codeD ws), some (false, wD r)] B := by
    simp [codeD, a1, x0]
    simp [n1]
  have : f_CodeX_getitemX [codeD ws, wD r] B = (m_CodeX_getitemX [some (false, codeD ws), some (false, wD r)] B).fin := rfl
  rw [this, m_CodeX_getitemX]
  simp only [z_mSeq, s1, z_seq_next, z_mRet, a3, z_st_ok, z_fin_ret]
/-- what may be read in a window: values, -1 of other words -/
def snW (ws : List (List Int)) (m v s : Nat) : List Int := srt (dd ((prdW (wiW ws v s) m).map (fdW ws)))
theorem p32 {m : Nat} (h5 : m ≤ 5) (V : List (List Int)) : (prdW V m).length ≤ 32 := Nat.le_trans (prdW_len V m) (Nat.le_trans (Nat.pow_le_pow_right (by omega) h5) (by decide))
theorem sn_len {m : Nat} (h5 : m ≤ 5) (ws : List (List Int)) (v s : Nat) : (snW ws m v s).length ≤ 32 := by
  have h := p32 h5 (wiW ws v s)
  have h2 := dd_le ((prdW (wiW ws v s) m).map (fdW ws))
  rw [snW, (srt_perm _).length_eq]
  simp only [List.length_map] at h2
  omega
theorem values_in_ok {m : Nat} {ws : List (List Int)} (W : OkW m ws) {v s : Nat} (hv : v ≤ 100) (hs : s ≤ 20) (B : Bs) : f_values_in [codeD ws, .int v, .int s] B = .ok (.tup ((snW ws m v s).map D.int)) B := by
  have h5 := W.m5
  have a1 := readings_in_ok W hv hs B
  have hp := p32 h5 (wiW ws v s)
  have a2 := mLc_map (vs := [3]) (i := 3) (mi := mItems (mCall f_readings_in [] (mCons (mVar 0) (mCons (mVar 1) (mCons (mVar 2) mNil))))) (me := mIxC 0 f_CodeX_getitemX (mVar 0) (mVar 3))
    (σ := [some (false, codeD ws), some (false, .int v), some (false, .int s), none]) (B := B) (ds := (prdW (wiW ws v s) m).map wD) wD (fun r => D.int (fdW ws r)) (prdW (wiW ws v s) m)
    (by simp [a1]) rfl (Nat.le_trans (show _ ≤ 1000000 by omega) size_big) (fun r hr => by
      have x := getitem_ok W (prdW_bits _ m r hr) (prdW_wid _ m r hr) B
      simp [wipeI, mIxC, insF, codeD]
      exact x)
  rw [snW]
  generalize prdW (wiW ws v s) m = L at *
  have e : L.map (fun r => D.int (fdW ws r)) = (L.map (fdW ws)).map D.int := by simp
  rw [e] at a2
  have a3 := srtSet_ok (l := L.map (fdW ws)) (by simp; omega) B
  generalize L.map (fdW ws) = M at *
  simp [f_values_in, m_values_in, a2, a3]
/-- a bridge as it is planned -/
structure Pl where
  ws : List (List Int)
  m : Nat
  dp : Nat
  ah : Nat
  be : Nat
  sl : Nat
abbrev Pl.n (p : Pl) : Nat := p.ws.length
structure OkP (p : Pl) : Prop where
  W : OkW p.m p.ws
  d1 : 1 ≤ p.dp
  d2 : p.dp < p.n
  a1 : 1 ≤ p.ah
  a3 : p.ah ≤ 3
  b1 : 1 ≤ p.be
  b3 : p.be ≤ 3
  s1 : 1 ≤ p.sl
  s3 : p.sl ≤ 3
def tabD (p : Pl) : D := .lst ((List.range p.n).map fun v => D.lst ((List.range (p.sl + 1)).map fun s => D.tup ((snW p.ws p.m v s).map D.int)))
def ownD (p : Pl) : D := .tup [codeD p.ws, .int p.dp, .int p.ah, .int p.be, .int p.sl]
def brD (p : Pl) : D := .inst 1 [ownD p, tabD p]
theorem mLc_mapR {vs : List Nat} {i : Nat} {mi : Ei} {me : Ev} {σ : Sl} {B : Bs} {n : Nat} (G : Nat → D) (hi : mi σ B = .ok (rngD 0 n) B) (hl : n ≤ 1000)
    (h : ∀ x < n, me ((wipeI σ vs).set i (some (false, D.int (x : Nat)))) B = .ok (G x) B) : mLc vs (gN i) mi mYes me σ B = .ok (.lst ((List.range n).map G)) B :=
  mLc_map (fun x : Nat => D.int x) G (List.range n) (hi.trans (by rw [rng_map])) rfl (Nat.le_trans (show _ ≤ 1000000 by simp; omega) size_big) fun x hx => h x (List.mem_range.mp hx)
abbrev iniS (p : Pl) (x : D) (o : Option (Bool × D)) : Sl := [some (true, x), some (false, codeD p.ws), some (false, .int p.dp), some (false, .int p.ah), some (false, .int p.be), some (false, .int p.sl), o, none, none, none, none]
abbrev bndD (p : Pl) : D := .tup [.tup [.int p.dp, .int ((p.n : Int) - 1)], .tup [.int p.ah, .int 3], .tup [.int p.be, .int 3], .tup [.int p.sl, .int 3]]
theorem bi_c1 {p : Pl} (P : OkP p) (x : D) (B : Bs) : mLc [7, 8] (gT (gsC (gN 7) (gsC (gN 8) gs0))) (mItems (mVar 6)) mYes (mCall f_is_between [] (mCons (mVar 7) (mCons (mC (.int 1)) (mCons (mVar 8) mNil)))) (iniS p x (some (false, bndD p))) B = .ok (.lst [.bool true, .bool true, .bool true, .bool true]) B := by
  obtain ⟨W, d1, d2, a1, a3, b1, b3, s1, s3⟩ := P
  have i1 := is_between_ok (p.dp : Int) 1 ((p.n : Int) - 1) B
  have i2 := is_between_ok (p.ah : Int) 1 3 B
  have i3 := is_between_ok (p.be : Int) 1 3 B
  have i4 := is_between_ok (p.sl : Int) 1 3 B
  have j1 : (decide ((1 : Int) ≤ p.dp) && decide ((p.dp : Int) ≤ (p.n : Int) - 1)) = true := by simp; omega
  have j2 : (decide ((1 : Int) ≤ p.ah) && decide ((p.ah : Int) ≤ 3)) = true := by simp; omega
  have j3 : (decide ((1 : Int) ≤ p.be) && decide ((p.be : Int) ≤ 3)) = true := by simp; omega
  have j4 : (decide ((1 : Int) ≤ p.sl) && decide ((p.sl : Int) ≤ 3)) = true := by simp; omega
  rw [j1] at i1; rw [j2] at i2; rw [j3] at i3; rw [j4] at i4
  generalize codeD p.ws = cd
  simp [mLc, lcL, wipeI, mYes, szL, i1, i2, i3, i4]
theorem bi_c2 {p : Pl} (P : OkP p) (x : D) (o : Option (Bool × D)) (B : Bs) : mLc [9] (gN 9) (mRng1 (m1 (fLenA 0 f_CodeX_lenX) (mVar 1))) mYes (mLc [10] (gN 10) (mRng1 (mBin fAdd (mVar 5) (mC (.int 1)))) mYes (mCall f_values_in [] (mCons (mVar 1) (mCons (mVar 9) (mCons (mVar 10) mNil))))) (iniS p x o) B = .ok (tabD p) B := by
  obtain ⟨W, d1, d2, a1, a3, b1, b3, s1, s3⟩ := P
  have h16 := W.n16
  have e1 := len_code_ok p.ws h16 B
  have r1 := rngB_nat (show p.n ≤ 1000000 by show p.ws.length ≤ _; omega)
  have r2 : rngB ((p.sl : Int) + 1) = true := rngB_nat (n := p.sl + 1) (by omega)
  have a0 := fun (v s : Nat) (hv : v < p.ws.length) (hs : s < p.sl + 1) => values_in_ok W (v := v) (s := s) (by omega) (by omega) B
  unfold tabD
  refine mLc_mapR (n := p.n) (fun v => D.lst ((List.range (p.sl + 1)).map fun s => D.tup ((snW p.ws p.m v s).map D.int))) ?_ (by show p.ws.length ≤ _; omega) fun v hv => ?_
  · simp [e1, r1]
  · refine mLc_mapR (n := p.sl + 1) (fun s => D.tup ((snW p.ws p.m v s).map D.int)) ?_ (by omega) fun s hs => ?_
    · have t : ((p.sl : Int) + 1).toNat = p.sl + 1 := by omega
      simp [wipeI, r2, t]
    · simp [wipeI, a0 v s hv hs]
theorem bi_k1 {p : Pl} (P : OkP p) (x : D) (B : Bs) : mSet 6 (mTup (mCons (mTup (mCons (mVar 2) (mCons (mBin fSub (m1 (fLenA 0 f_CodeX_lenX) (mVar 1)) (mC (.int 1))) mNil))) (mCons (mTup (mCons (mVar 3) (mCons (mC (.int (3))) mNil))) (mCons (mTup (mCons (mVar 4) (mCons (mC (.int (3))) mNil))) (mCons (mTup (mCons (mVar 5) (mCons (mC (.int (3))) mNil))) mNil)))))
      (iniS p x none) B = .next (iniS p x (some (false, bndD p))) B := by
  have e1 := len_code_ok p.ws P.W.n16 B
  simp [e1, szL]
theorem bi_k2 {p : Pl} (P : OkP p) (x : D) (B : Bs) : mIf (mNotT (mT (m1 fAll (mLc [7, 8] (gT (gsC (gN 7) (gsC (gN 8) gs0))) (mItems (mVar 6)) mYes (mCall f_is_between [] (mCons (mVar 7) (mCons (mC (.int 1)) (mCons (mVar 8) mNil)))))))) mBad mSkip (iniS p x (some (false, bndD p))) B = .next (iniS p x (some (false, bndD p))) B := by
  have c1 := bi_c1 P x B
  have fa : fAll (.lst [.bool true, .bool true, .bool true, .bool true]) B = .ok (.bool true) B := fAll_true [(), (), (), ()] B
  simp only [z_mIf, z_mNotT, z_mT, z_m1, c1, z_bind_ok, fa, z_tru_b, z_st_ok, Bool.not_true, Bool.false_eq_true, if_false, z_mSkip]
theorem fldN1 : (fldN 1).length = 2 := rfl
theorem fldJ_ok {c j : Nat} {m : Ev} {ds : List D} {d : D} {r : Sl} {B B' : Bs} (h : m (some (true, .inst c ds) :: r) B = .ok d B') (hl : ds.length = j) (hj : j < (fldN c).length) : mFldJ c j m (some (true, .inst c ds) :: r) B = .next (some (true, .inst c (ds ++ [d])) :: r) B' := by
  simp [mFldJ, mFldSet, h, hl, hj]
theorem mkIni_five (c : Nat) (M : Ms) (a b d e f : D) (B : Bs) : mkIni c 5 11 M [a, b, d, e, f] B = finI c (M [some (true, .inst c []), some (false, a), some (false, b), some (false, d), some (false, e), some (false, f), none, none, none, none, none] B) := rfl
theorem bridge_init_ok {p : Pl} (P : OkP p) (B : Bs) : f_BridgeX_initX [codeD p.ws, .int p.dp, .int p.ah, .int p.be, .int p.sl] B = .ok (brD p) B := by
  have e0 := need_code_ok p.ws B
  have k1 := bi_k1 P (.inst 1 []) B
  have k2 := bi_k2 P (.inst 1 []) B
  have k3 : mFldJ 1 0 (mTup (mCons (mVar 1) (mCons (mVar 2) (mCons (mVar 3) (mCons (mVar 4) (mCons (mVar 5) mNil)))))) (iniS p (.inst 1 []) (some (false, bndD p))) B = .next (iniS p (.inst 1 [ownD p]) (some (false, bndD p))) B := by
    refine fldJ_ok (d := ownD p) ?_ rfl (by rw [fldN1]; decide)
    unfold ownD
    generalize codeD p.ws = cd
    simp [szL]
  have k4 : mFldJ 1 1 (mLc [9] (gN 9) (mRng1 (m1 (fLenA 0 f_CodeX_lenX) (mVar 1))) mYes (mLc [10] (gN 10) (mRng1 (mBin fAdd (mVar 5) (mC (.int 1)))) mYes (mCall f_values_in [] (mCons (mVar 1) (mCons (mVar 9) (mCons (mVar 10) mNil)))))) (iniS p (.inst 1 [ownD p]) (some (false, bndD p))) B = .next (iniS p (.inst 1 [ownD p, tabD p]) (some (false, bndD p))) B :=
    fldJ_ok (d := tabD p) (bi_c2 P _ _ B) rfl (by rw [fldN1]; decide)
  have e : f_BridgeX_initX [codeD p.ws, .int p.dp, .int p.ah, .int p.be, .int p.sl] B = finI 1 (m_BridgeX_initX (iniS p (.inst 1 []) none) B) := by
    exact mkIni_five _ _ _ _ _ _ _ _
  have z : ∀ (a b : D) (r : Sl), finI 1 (.next (some (true, .inst 1 [a, b]) :: r) B) = .ok (.inst 1 [a, b]) B := fun a b r => rfl
  rw [e, m_BridgeX_initX]
  simp only [z_mSeq, z_mDo, z_mCall, z_mCons, z_mNil, z_mVar, List.getElem?_cons_succ, List.getElem?_cons_zero, z_bind_ok, List.append_nil, e0, z_st_ok, z_seq_next, k1, k2, k3, k4, z, brD]
end Hk

set_option Elab.async false
set_option linter.all false
set_option maxRecDepth 100000
namespace Hk
open PySem PySem.Spec PyProof.Rows L2 Hf

/-! ### states, beats, what a tick does -/
structure St where
  put : Nat
  taken : Nat
  lo : List Int
  gl : List Int
  pu : List Int
  ta : List Int
def stD (s : St) : D := .tup [.int s.put, .int s.taken, wD s.lo, wD s.gl, wD s.pu, wD s.ta]
structure OkS (p : Pl) (s : St) : Prop where
  p1 : s.put < p.n
  t1 : s.taken < p.n
  ll : s.lo.length = p.ah
  lv : ∀ x ∈ s.lo, -1 ≤ x ∧ x < p.n
  gg : s.gl.length = p.be
  gv : ∀ x ∈ s.gl, -1 ≤ x ∧ x < p.n
  pl : s.pu.length = p.sl - 1
  pv : ∀ x ∈ s.pu, x = 0 ∨ x = 1
  tl : s.ta.length = p.sl - 1
  tv : ∀ x ∈ s.ta, x = 0 ∨ x = 1
def btD (i j : Nat) : D := .tup [.int i, .int j]
theorem prp_code (a b c d e t : D) (B : Bs) : prpK 1 f_Bridge_code (.inst 1 [.tup [a, b, c, d, e], t]) B = .ok a B := rfl
theorem prp_depth (a b c d e t : D) (B : Bs) : prpK 1 f_Bridge_depth (.inst 1 [.tup [a, b, c, d, e], t]) B = .ok b B := rfl
theorem prp_ahead (a b c d e t : D) (B : Bs) : prpK 1 f_Bridge_ahead (.inst 1 [.tup [a, b, c, d, e], t]) B = .ok c B := rfl
theorem prp_behind (a b c d e t : D) (B : Bs) : prpK 1 f_Bridge_behind (.inst 1 [.tup [a, b, c, d, e], t]) B = .ok d B := rfl
theorem prp_slow (a b c d e t : D) (B : Bs) : prpK 1 f_Bridge_slow (.inst 1 [.tup [a, b, c, d, e], t]) B = .ok e B := rfl
theorem br_code (p : Pl) (B : Bs) : prpK 1 f_Bridge_code (brD p) B = .ok (codeD p.ws) B := prp_code ..
theorem br_depth (p : Pl) (B : Bs) : prpK 1 f_Bridge_depth (brD p) B = .ok (.int p.dp) B := prp_depth ..
theorem br_ahead (p : Pl) (B : Bs) : prpK 1 f_Bridge_ahead (brD p) B = .ok (.int p.ah) B := prp_ahead ..
theorem br_behind (p : Pl) (B : Bs) : prpK 1 f_Bridge_behind (brD p) B = .ok (.int p.be) B := prp_behind ..
theorem br_slow (p : Pl) (B : Bs) : prpK 1 f_Bridge_slow (brD p) B = .ok (.int p.sl) B := prp_slow ..
theorem br_isC (p : Pl) : isC 1 (brD p) = some true := rfl
theorem fAll_map {α : Type} (f : α → Bool) (xs : List α) (B : Bs) : fAll (.lst (xs.map fun x => D.bool (f x))) B = .ok (.bool (xs.all f)) B := by
  have e : (xs.map fun x => D.bool (f x)) = (xs.map f).map D.bool := by simp
  rw [e, fAll, boolsA_map]
  simp
theorem are_numbers_ok (l : List Int) (n lo hi : Int) (hl : l.length ≤ 1000) (B : Bs) : f_are_numbers [wD l, .int n, .int lo, .int hi] B = .ok (.bool (decide ((l.length : Int) = n) && l.all fun x => decide (lo ≤ x) && decide (x ≤ hi))) B := by
  by_cases h : (l.length : Int) = n
  · have a := mLc_map (vs := [4]) (i := 4) (mi := mItems (mVar 0)) (me := mCall f_is_between [] (mCons (mVar 4) (mCons (mVar 2) (mCons (mVar 3) mNil)))) (σ := [some (false, wD l), some (false, .int n), some (false, .int lo), some (false, .int hi), none]) (B := B)
      (ds := l.map D.int) D.int (fun x => D.bool (decide (lo ≤ x) && decide (x ≤ hi))) l (by simp) rfl (Nat.le_trans (show _ ≤ 1000000 by omega) size_big) (fun x hx => by
        have := is_between_ok x lo hi B
        simp [wipeI, this])
    have b := fAll_map (fun x => decide (lo ≤ x) && decide (x ≤ hi)) l B
    have e : ((l.length : Int) == n) = true := by simpa using h
    simp [f_are_numbers, m_are_numbers, a, b, e, h]
  · have e : ((l.length : Int) == n) = false := by simpa using h
    simp [f_are_numbers, m_are_numbers, e, h]
theorem all_in {l : List Int} {lo hi : Int} (h : ∀ x ∈ l, lo ≤ x ∧ x ≤ hi) : (l.all fun x => decide (lo ≤ x) && decide (x ≤ hi)) = true := by
  rw [List.all_eq_true]
  intro x hx
  have := h x hx
  simp [this.1, this.2]
theorem ne6 (ds : List D) (h : ds.length = 6) (B : Bs) : fNe (.int (ds.length : Nat)) (.int 6) B = .ok (.bool false) B := by rw [fNe_int, h]; rfl
theorem len_br {p : Pl} (P : OkP p) (B : Bs) : fLenA 0 f_CodeX_lenX (codeD p.ws) B = .ok (.int p.n) B := len_code_ok p.ws P.W.n16 B
theorem is_state_ok {p : Pl} (P : OkP p) {s : St} (S : OkS p s) (B : Bs) : f_is_state_in [brD p, stD s] B = .ok (.bool true) B := by
  have a1 := br_code p B
  have a2 := br_slow p B
  have a3 := br_ahead p B
  have a4 := br_behind p B
  have a5 := len_br P B
  have h16 := P.W.n16
  have pa := P.a3; have pb := P.b3; have ps := P.s3; have ps1 := P.s1
  have hp := S.p1; have ht := S.t1
  have b1 := is_between_ok (s.put : Int) 0 ((p.n : Int) - 1) B
  have b2 := is_between_ok (s.taken : Int) 0 ((p.n : Int) - 1) B
  have j1 : (decide ((0 : Int) ≤ s.put) && decide ((s.put : Int) ≤ (p.n : Int) - 1)) = true := by simp; omega
  have j2 : (decide ((0 : Int) ≤ s.taken) && decide ((s.taken : Int) ≤ (p.n : Int) - 1)) = true := by simp; omega
  rw [j1] at b1; rw [j2] at b2
  have c1 := are_numbers_ok s.lo (p.ah : Int) (-1) ((p.n : Int) - 1) (by have := S.ll; omega) B
  have c2 := are_numbers_ok s.gl (p.be : Int) (-1) ((p.n : Int) - 1) (by have := S.gg; omega) B
  have c3 := are_numbers_ok s.pu ((p.sl : Int) - 1) 0 1 (by have := S.pl; omega) B
  have c4 := are_numbers_ok s.ta ((p.sl : Int) - 1) 0 1 (by have := S.tl; omega) B
  rw [all_in (fun x hx => by have := S.lv x hx; omega), show (decide ((s.lo.length : Int) = p.ah)) = true by have := S.ll; simp [this], Bool.true_and] at c1
  rw [all_in (fun x hx => by have := S.gv x hx; omega), show (decide ((s.gl.length : Int) = p.be)) = true by have := S.gg; simp [this], Bool.true_and] at c2
  rw [all_in (fun x hx => by have := S.pv x hx; omega), show (decide ((s.pu.length : Int) = (p.sl : Int) - 1)) = true by have := S.pl; simp; omega, Bool.true_and] at c3
  rw [all_in (fun x hx => by have := S.tv x hx; omega), show (decide ((s.ta.length : Int) = (p.sl : Int) - 1)) = true by have := S.tl; simp; omega, Bool.true_and] at c4
  have d : fNe (.int 6) (.int 6) B = .ok (.bool false) B := by rw [fNe_int]; rfl
  generalize brD p = br at *
  generalize codeD p.ws = cd at *
  simp [f_is_state_in, m_is_state_in, stD, a1, a2, a3, a4, a5, b1, b2, c1, c2, c3, c4, d, szL, -z_prpK]
theorem need_state_ok {p : Pl} (P : OkP p) {s : St} (S : OkS p s) (B : Bs) : f_need_state [brD p, stD s] B = .ok .none B := by
  have a := is_state_ok P S B
  simp [f_need_state, m_need_state, a]
structure OkB (i j : Nat) : Prop where
  i2 : i ≤ 2
  j2 : j ≤ 2
  ij : i ≠ 0 ∨ j ≠ 0
theorem need_beat_ok {i j : Nat} (h : OkB i j) (B : Bs) : f_need_beat [btD i j] B = .ok .none B := by
  obtain ⟨h1, h2, h3⟩ := h
  have a := are_numbers_ok [(i : Int), (j : Int)] 2 0 2 (by simp) B
  have e : wD [(i : Int), (j : Int)] = btD i j := rfl
  rw [e] at a
  have e2 : (decide ((([(i : Int), (j : Int)] : List Int).length : Int) = 2) && [(i : Int), (j : Int)].all fun x => decide (0 ≤ x) && decide (x ≤ 2)) = true := by simp; omega
  rw [e2] at a
  have b : fNe (btD i j) (.tup [.int 0, .int 0]) B = .ok (.bool true) B := by
    have s0 : shp (.tup [D.int i, D.int j]) = true := (sm_tup (k := 0) (n := 10) (ds := [D.int i, D.int j]) (by
      intro d hd
      simp only [List.mem_cons, List.not_mem_nil, or_false] at hd
      rcases hd with rfl | rfl
      · exact sm_nat (by omega)
      · exact sm_nat (by omega))).shp (by decide)
    have s1 : shp (btD i j) = true := s0
    have s2 : shp (.tup [.int 0, .int 0]) = true := rfl
    have s3 : eqD (btD i j) (.tup [.int 0, .int 0]) = false := by
      simp [btD, eqD, toPy, toPys, PyData.eqv, PyData.eqvAll]
      omega
    simp [fNe, s1, s2, s3]
  simp [f_need_beat, m_need_beat, f_is_beat, m_is_beat, a, b, szL]
theorem st0 (s : St) (B : Bs) : fIx (stD s) (.int 0) B = .ok (.int s.put) B := rfl
theorem st1 (s : St) (B : Bs) : fIx (stD s) (.int 1) B = .ok (.int s.taken) B := rfl
theorem st2 (s : St) (B : Bs) : fIx (stD s) (.int 2) B = .ok (wD s.lo) B := rfl
theorem st3 (s : St) (B : Bs) : fIx (stD s) (.int 3) B = .ok (wD s.gl) B := rfl
theorem st4 (s : St) (B : Bs) : fIx (stD s) (.int 4) B = .ok (wD s.pu) B := rfl
theorem st5 (s : St) (B : Bs) : fIx (stD s) (.int 5) B = .ok (wD s.ta) B := rfl
theorem bt0 (i j : Nat) (B : Bs) : fIx (btD i j) (.int 0) B = .ok (.int i) B := rfl
theorem bt1 (i j : Nat) (B : Bs) : fIx (btD i j) (.int 1) B = .ok (.int j) B := rfl
end Hk

set_option Elab.async false
set_option linter.all false
set_option maxRecDepth 100000
namespace Hk
open PySem PySem.Spec PyProof.Rows L2 Hf

/-! ### what a tick does -/
abbrev lastI (l : List Int) : Int := l.getLast?.getD 0
theorem last_ok {l : List Int} (h : l ≠ []) (B : Bs) : fIx (wD l) (.int (-1)) B = .ok (.int (lastI l)) B := by
  have h1 : 0 < l.length := List.length_pos_iff.mpr h
  have e : l[l.length - 1]? = some (lastI l) := by
    rw [lastI, List.getLast?_eq_getElem?, List.getElem?_eq_getElem (by omega)]
    rfl
  have e2 : ((-1 : Int) + ((l.length : Nat) : Int)).toNat = l.length - 1 := by omega
  have e3 : (1 : Int) ≤ ((l.length : Nat) : Int) := by omega
  simp [fIx, atI, ixN, e2, e3, e]
theorem lastI_mem {l : List Int} (h : l ≠ []) : lastI l ∈ l := by
  have h1 : 0 < l.length := List.length_pos_iff.mpr h
  rw [lastI, List.getLast?_eq_getElem?, List.getElem?_eq_getElem (by omega)]
  exact List.getElem_mem _
def putsB (p : Pl) (s : St) (i : Nat) : Bool := decide (i = 2) && (decide (lastI s.lo ≠ -1) && decide (((s.put : Int) - lastI s.lo) % (p.n : Int) < p.dp))
def takesB (p : Pl) (s : St) (j : Nat) : Bool := decide (j = 2) && (decide (lastI s.gl ≠ -1) && (decide (1 ≤ (lastI s.gl - (s.taken : Int)) % (p.n : Int)) && decide ((lastI s.gl - (s.taken : Int)) % (p.n : Int) ≤ p.dp)))
theorem OkS.lo_ne {p : Pl} (P : OkP p) {s : St} (S : OkS p s) : s.lo ≠ [] := fun e => by
  have h1 := S.ll; have h2 := P.a1
  rw [e] at h1; simp at h1; omega
theorem OkS.gl_ne {p : Pl} (P : OkP p) {s : St} (S : OkS p s) : s.gl ≠ [] := fun e => by
  have h1 := S.gg; have h2 := P.b1
  rw [e] at h1; simp at h1; omega
theorem OkP.n0 {p : Pl} (P : OkP p) : (0 : Int) < (p.n : Int) := by have := P.W.n2; show (0 : Int) < (p.ws.length : Int); omega
theorem nat2 (i : Nat) : ((i : Int) == 2) = decide (i = 2) := by
  by_cases h : i = 2
  · subst h; rfl
  · have : ¬ (i : Int) = 2 := by omega
    simp [h, this]
theorem puts_in_ok {p : Pl} (P : OkP p) {s : St} (S : OkS p s) (i j : Nat) (B : Bs) : f_puts_in [brD p, stD s, btD i j] B = .ok (.bool (putsB p s i)) B := by
  have a1 := br_code p B
  have a2 := br_depth p B
  have a3 := len_br P B
  have l1 := last_ok (S.lo_ne P) B
  have n0 := P.n0
  have m1 := z_fMod ((s.put : Int) - lastI s.lo) (p.n : Int) B n0
  unfold putsB
  generalize brD p = br at *
  generalize codeD p.ws = cd at *
  generalize lastI s.lo = lk at *
  by_cases h1 : i = 2
  · by_cases h2 : lk = -1
    · simp [f_puts_in, m_puts_in, st0, st2, bt0, l1, fNe_int, h2, h1, nat2]
    · simp [f_puts_in, m_puts_in, st0, st2, bt0, l1, fNe_int, h2, a1, a2, a3, m1, h1, nat2, -z_prpK]
  · simp [f_puts_in, m_puts_in, st2, bt0, l1, h1, nat2]
theorem takes_in_ok {p : Pl} (P : OkP p) {s : St} (S : OkS p s) (i j : Nat) (B : Bs) : f_takes_in [brD p, stD s, btD i j] B = .ok (.bool (takesB p s j)) B := by
  have a1 := br_code p B
  have a2 := br_depth p B
  have a3 := len_br P B
  have l1 := last_ok (S.gl_ne P) B
  have n0 := P.n0
  have m1 := z_fMod (lastI s.gl - (s.taken : Int)) (p.n : Int) B n0
  unfold takesB
  generalize brD p = br at *
  generalize codeD p.ws = cd at *
  generalize lastI s.gl = lk at *
  by_cases h1 : j = 2
  · by_cases h2 : lk = -1
    · simp [f_takes_in, m_takes_in, st1, st3, bt1, l1, fNe_int, h2, h1, nat2]
    · by_cases h3 : 1 ≤ (lk - (s.taken : Int)) % (p.n : Int)
      · simp [f_takes_in, m_takes_in, st1, st3, bt1, l1, fNe_int, h2, a1, a2, a3, m1, h1, h3, nat2, -z_prpK]
      · simp [f_takes_in, m_takes_in, st1, st3, bt1, l1, fNe_int, h2, a1, a2, a3, m1, h1, h3, nat2, -z_prpK]
  · simp [f_takes_in, m_takes_in, st3, bt1, l1, h1, nat2]
/-- what moves in a tick, or by what the bridge breaks -/
inductive Mv where
  | full | empty | go (a b : Bool)
def mvP (p : Pl) (s : St) (i j : Nat) : Mv := if (putsB p s i && decide ((p.dp : Int) ≤ ((s.put : Int) - s.taken) % (p.n : Int))) = true then .full else if (takesB p s j && decide (s.put = s.taken)) = true then .empty else .go (putsB p s i) (takesB p s j)
def mvD : Mv → D
  | .full => .str (Str.ofString "full")
  | .empty => .str (Str.ofString "empty")
  | .go a b => .tup [.bool a, .bool b]
theorem moves_in_ok {p : Pl} (P : OkP p) {s : St} (S : OkS p s) (i j : Nat) (B : Bs) : f_moves_in [brD p, stD s, btD i j] B = .ok (mvD (mvP p s i j)) B := by
  have a0 := puts_in_ok P S i j B
  have b0 := takes_in_ok P S i j B
  have a1 := br_code p B
  have a2 := br_depth p B
  have a3 := len_br P B
  have n0 := P.n0
  have m1 := z_fMod ((s.put : Int) - (s.taken : Int)) (p.n : Int) B n0
  unfold mvP
  generalize brD p = br at *
  generalize codeD p.ws = cd at *
  generalize putsB p s i = u at *
  generalize takesB p s j = v at *
  have q : ((s.put : Int) == (s.taken : Int)) = decide (s.put = s.taken) := by
    by_cases h : s.put = s.taken
    · simp [h]
    · have : ¬ (s.put : Int) = s.taken := by omega
      simp [h, this]
  generalize ((s.put : Int) - (s.taken : Int)) % (p.n : Int) = r at *
  generalize decide (s.put = s.taken) = w at *
  cases u <;> cases v <;> cases w <;> by_cases h1 : (p.dp : Int) ≤ r <;>
    simp [f_moves_in, m_moves_in, a0, b0, st0, st1, a1, a2, a3, m1, q, h1, mvD, szL, -z_prpK]
end Hk

set_option Elab.async false
set_option linter.all false
set_option maxRecDepth 100000
namespace Hk
open PySem PySem.Spec PyProof.Rows L2 Hf

/-! ### what is read in a tick -/
abbrev b2i (b : Bool) : Int := if b then 1 else 0
theorem fInt_b (b : Bool) (B : Bs) : fInt (.bool b) B = .ok (.int (b2i b)) B := by cases b <;> rfl
theorem sum_01 : (l : List Int) → (∀ x ∈ l, x = 0 ∨ x = 1) → 0 ≤ l.sum ∧ l.sum ≤ l.length
  | [], _ => by simp
  | x :: l, h => by
    have := sum_01 l fun y hy => h y (List.mem_cons_of_mem _ hy)
    have := h x (List.mem_cons_self ..)
    simp
    omega
theorem fSumT_w (l : List Int) (B : Bs) : fSumT (wD l) B = .ok (.int l.sum) B := by
  simp [fSumT, intsA_map]
theorem prdW_ne {V : List (List Int)} {m : Nat} (hV : V ≠ []) (hw : ∀ w ∈ V, w.length = m) (hb : ∀ w ∈ V, ∀ b ∈ w, b = 0 ∨ b = 1) : (k : Nat) → k ≤ m → prdW V k ≠ []
  | 0, _ => by simp [prdW]
  | k + 1, h => by
    have ih := prdW_ne hV hw hb k (by omega)
    obtain ⟨w, hw1⟩ := List.exists_mem_of_ne_nil _ hV
    obtain ⟨u, hu⟩ := List.exists_mem_of_ne_nil _ ih
    have hk : k < w.length := by rw [hw w hw1]; omega
    have h1 := hb w hw1 w[k] (List.getElem_mem hk)
    have h2 : w[k] ∈ cbit V k := by
      refine List.mem_filter.mpr ⟨by rcases h1 with h | h <;> simp [h], ?_⟩
      rw [decide_eq_true_eq]
      exact List.mem_map.mpr ⟨w, hw1, by rw [getElem!_pos w k hk]⟩
    intro e
    have : u ++ [w[k]] ∈ prdW V (k + 1) := List.mem_flatMap.mpr ⟨u, hu, List.mem_map.mpr ⟨_, h2, rfl⟩⟩
    rw [e] at this
    simp at this
theorem sn_ne {m : Nat} {ws : List (List Int)} (W : OkW m ws) (v s : Nat) : snW ws m v s ≠ [] := by
  have h0 : 0 < ws.length := by have := W.n2; omega
  have hne : wiW ws v s ≠ [] := by
    intro e
    have : (wiW ws v s).length = s + 1 := by simp
    rw [e] at this; simp at this
  have hp := prdW_ne hne (fun w hw => W.wid w (wiW_mem h0 w hw)) (fun w hw => W.bits w (wiW_mem h0 w hw)) m (Nat.le_refl _)
  intro e
  obtain ⟨u, hu⟩ := List.exists_mem_of_ne_nil _ hp
  have h1 : fdW ws u ∈ snW ws m v s := by
    unfold snW
    rw [(srt_perm _).mem_iff, mem_dd]
    exact List.mem_map_of_mem hu
  rw [e] at h1
  simp at h1
theorem sn_bd {m : Nat} {ws : List (List Int)} {v s : Nat} : ∀ x ∈ snW ws m v s, -1 ≤ x ∧ x < ws.length := fun x h => by
  unfold snW at h
  rw [(srt_perm _).mem_iff, mem_dd] at h
  obtain ⟨u, _, rfl⟩ := List.mem_map.mp h
  unfold fdW
  split
  · rename_i hu
    have := List.idxOf_lt_length_of_mem hu
    omega
  · omega
theorem sn_inc (ws : List (List Int)) (m v s : Nat) : (snW ws m v s).Pairwise (· < ·) := by
  unfold snW
  have h1 := srt_sorted (dd ((prdW (wiW ws v s) m).map (fdW ws)))
  have h2 : (srt (dd ((prdW (wiW ws v s) m).map (fdW ws)))).Nodup := (srt_perm _).nodup_iff.mpr (nodup_dd _)
  exact (h1.and h2).imp fun h => by omega
/-- what may be read of a counter at v that stepped so often -/
def rdL (p : Pl) (v : Int) (st : Nat) : List Int := snW p.ws p.m ((v - st) % (p.n : Int)).toNat st
theorem read_of_ok {p : Pl} (P : OkP p) (v : Int) {st : Nat} (hs : st ≤ p.sl) (B : Bs) : f_read_of [brD p, .int v, .int st] B = .ok (wD (rdL p v st)) B := by
  have a1 := br_code p B
  have a3 := len_br P B
  have n0 := P.n0
  have m1 := z_fMod (v - (st : Int)) (p.n : Int) B n0
  have h1 := Int.emod_nonneg (v - (st : Int)) (show (p.n : Int) ≠ 0 by omega)
  have h2 := Int.emod_lt_of_pos (v - (st : Int)) n0
  have f1 : ∀ σ : Sl, mFld 1 1 (mVar 0) (some (false, brD p) :: σ) B = .ok (tabD p) B := fun σ => rfl
  have i1 : fIx (tabD p) (.int ((v - (st : Int)) % (p.n : Int))) B = .ok (.lst ((List.range (p.sl + 1)).map fun s => D.tup ((snW p.ws p.m ((v - (st : Int)) % (p.n : Int)).toNat s).map D.int))) B := by
    have h3 : ((v - (st : Int)) % (p.n : Int)).toNat < p.ws.length := by have : (p.n : Int) = p.ws.length := rfl; omega
    have h4 : (List.range p.n)[((v - (st : Int)) % (p.n : Int)).toNat]? = some ((v - (st : Int)) % (p.n : Int)).toNat := List.getElem?_range h3
    simp only [tabD, fIx, atI, ixN, List.length_map, List.length_range, h1, h2, if_true, Option.bind_some, List.getElem?_map, h4, Option.map_some]
    rfl
  have i2 : fIx (.lst ((List.range (p.sl + 1)).map fun s => D.tup ((snW p.ws p.m ((v - (st : Int)) % (p.n : Int)).toNat s).map D.int))) (.int st) B = .ok (wD (rdL p v st)) B := by
    have h3 : st < p.sl + 1 := by omega
    have h4 : (st : Int) < ((p.sl + 1 : Nat) : Int) := by omega
    have h5 : (0 : Int) ≤ (st : Int) := by omega
    have h6 : (List.range (p.sl + 1))[st]? = some st := List.getElem?_range h3
    simp only [fIx, atI, ixN, List.length_map, List.length_range, h4, h5, if_true, Int.toNat_natCast, Option.bind_some, List.getElem?_map, h6, Option.map_some, rdL]
    rfl
  generalize brD p = br at *
  generalize tabD p = tb at *
  generalize codeD p.ws = cd at *
  simp [f_read_of, m_read_of, f1, a1, a3, m1, i1, i2, -z_prpK, -z_mFld]
def lkL (p : Pl) (s : St) (b : Bool) : List Int := rdL p ((s.taken : Int) + b2i b) (b2i b + s.ta.sum).toNat
def gkL (p : Pl) (s : St) (a : Bool) : List Int := rdL p ((s.put : Int) + b2i a) (b2i a + s.pu.sum).toNat
theorem st_le {p : Pl} (P : OkP p) {l : List Int} (hl : l.length = p.sl - 1) (hv : ∀ x ∈ l, x = 0 ∨ x = 1) (b : Bool) : (b2i b + l.sum).toNat ≤ p.sl ∧ (((b2i b + l.sum).toNat : Nat) : Int) = b2i b + l.sum := by
  have := sum_01 l hv
  have := P.s1
  cases b <;> simp [b2i] <;> omega
theorem nat0 (i : Nat) : ((i : Int) == 0) = decide (i = 0) := by
  by_cases h : i = 0
  · subst h; rfl
  · have : ¬ (i : Int) = 0 := by omega
    simp [h, this]
theorem looks_in_ok {p : Pl} (P : OkP p) {s : St} (S : OkS p s) (i j : Nat) (a b : Bool) (B : Bs) : f_looks_in [brD p, stD s, btD i j, .tup [.bool a, .bool b]] B = .ok (if i = 0 then .tup [] else wD (lkL p s b)) B := by
  obtain ⟨q1, q2⟩ := st_le P S.tl S.tv b
  have r := read_of_ok P ((s.taken : Int) + b2i b) q1 B
  rw [q2] at r
  have u := fSumT_w s.ta B
  have x1 : fIx (.tup [.bool a, .bool b]) (.int 1) B = .ok (.bool b) B := rfl
  have x2 := fInt_b b B
  generalize brD p = br at *
  unfold lkL
  generalize b2i b = c at *
  by_cases h : i = 0
  · simp [f_looks_in, m_looks_in, x1, x2, bt0, nat0, h, szL]
  · simp [f_looks_in, m_looks_in, x1, x2, bt0, nat0, h, st1, st5, u]
    rw [r]; rfl
theorem glances_in_ok {p : Pl} (P : OkP p) {s : St} (S : OkS p s) (i j : Nat) (a b : Bool) (B : Bs) : f_glances_in [brD p, stD s, btD i j, .tup [.bool a, .bool b]] B = .ok (if j = 0 then .tup [] else wD (gkL p s a)) B := by
  obtain ⟨q1, q2⟩ := st_le P S.pl S.pv a
  have r := read_of_ok P ((s.put : Int) + b2i a) q1 B
  rw [q2] at r
  have u := fSumT_w s.pu B
  have x1 : fIx (.tup [.bool a, .bool b]) (.int 0) B = .ok (.bool a) B := rfl
  have x2 := fInt_b a B
  generalize brD p = br at *
  unfold gkL
  generalize b2i a = c at *
  by_cases h : j = 0
  · simp [f_glances_in, m_glances_in, x1, x2, bt1, nat0, h, szL]
  · simp [f_glances_in, m_glances_in, x1, x2, bt1, nat0, h, st0, st4, u]
    rw [r]; rfl
end Hk

set_option Elab.async false
set_option linter.all false
set_option maxRecDepth 100000
namespace Hk
open PySem PySem.Spec PyProof.Rows L2 Hf

/-! ### the states that may come -/
/-- a row of readings behind a tick -/
def frD (i : Nat) (row : List Int) : D → List Int
  | .int x => if i = 0 then row else x :: row.dropLast
  | _ => row
def itL (i : Nat) (l : List Int) : List D := if i = 0 then [.none] else l.map D.int
theorem itL_int {i : Nat} {l : List Int} {d : D} (h : d ∈ itL i l) (hi : i ≠ 0) : ∃ x, d = .int x ∧ x ∈ l := by
  rw [itL, if_neg hi] at h
  obtain ⟨x, hx, rfl⟩ := List.mem_map.mp h
  exact ⟨x, rfl, hx⟩
def nxS (p : Pl) (s : St) (i j : Nat) (a b : Bool) (dl dg : D) : St :=
  ⟨(((s.put : Int) + b2i a) % (p.n : Int)).toNat, (((s.taken : Int) + b2i b) % (p.n : Int)).toNat, frD i s.lo dl, frD j s.gl dg, (b2i a :: s.pu).take (p.sl - 1), (b2i b :: s.ta).take (p.sl - 1)⟩
theorem cut_dl {l : List Int} (h : l ≠ []) : cut (l.map D.int) none (some (-1)) = l.dropLast.map D.int := by
  obtain ⟨x, u, rfl⟩ : ∃ x u, l = u ++ [x] := ⟨l.getLast h, l.dropLast, (List.dropLast_concat_getLast h).symm⟩
  have := cut_m1 (u.map D.int) (D.int x)
  simpa using this
theorem behind_in_ok {p : Pl} (P : OkP p) {s : St} (S : OkS p s) (i j : Nat) (a b : Bool) (dl dg : D) (hl : i ≠ 0 → ∃ x, dl = .int x) (hg : j ≠ 0 → ∃ x, dg = .int x) (B : Bs) :
    f_behind_in [brD p, stD s, btD i j, .tup [.bool a, .bool b], dl, dg] B = .ok (stD (nxS p s i j a b dl dg)) B := by
  have a1 := br_code p B
  have a2 := br_slow p B
  have a3 := len_br P B
  have n0 := P.n0
  have s1 := P.s1
  have s3 := P.s3
  have x0 : fIx (.tup [.bool a, .bool b]) (.int 0) B = .ok (.bool a) B := rfl
  have x1 : fIx (.tup [.bool a, .bool b]) (.int 1) B = .ok (.bool b) B := rfl
  have y0 := fInt_b a B
  have y1 := fInt_b b B
  have m0 := z_fMod ((s.put : Int) + b2i a) (p.n : Int) B n0
  have m1 := z_fMod ((s.taken : Int) + b2i b) (p.n : Int) B n0
  have g0 := Int.emod_nonneg ((s.put : Int) + b2i a) (show (p.n : Int) ≠ 0 by omega)
  have g1 := Int.emod_nonneg ((s.taken : Int) + b2i b) (show (p.n : Int) ≠ 0 by omega)
  have c1 := cut_dl (S.lo_ne P)
  have c2 := cut_dl (S.gl_ne P)
  have l1 := S.ll; have l2 := S.gg; have l3 := S.pl; have l4 := S.tl
  have pa := P.a3; have pb := P.b3
  have w1 : ∀ x, szL (D.int x :: s.lo.dropLast.map D.int) = true := fun x => by
    unfold szL; exact decide_eq_true (Nat.le_trans (show _ ≤ 1000000 by simp; omega) size_big)
  have w2 : ∀ x, szL (D.int x :: s.gl.dropLast.map D.int) = true := fun x => by
    unfold szL; exact decide_eq_true (Nat.le_trans (show _ ≤ 1000000 by simp; omega) size_big)
  have w3 : ∀ x, szL (D.int x :: s.pu.map D.int) = true := fun x => by
    unfold szL; exact decide_eq_true (Nat.le_trans (show _ ≤ 1000000 by simp; omega) size_big)
  have w4 : ∀ x, szL (D.int x :: s.ta.map D.int) = true := fun x => by
    unfold szL; exact decide_eq_true (Nat.le_trans (show _ ≤ 1000000 by simp; omega) size_big)
  have w6 : ∀ q0 q1 q2 q3 q4 q5 : D, szL [q0, q1, q2, q3, q4, q5] = true := fun _ _ _ _ _ _ => decide_eq_true (show 6 ≤ sizeLine by decide)
  have w33 : ∀ q0 q1 q2 : D, szL [q0, q1, q2] = true := fun _ _ _ => decide_eq_true (show 3 ≤ sizeLine by decide)
  have w22 : ∀ q0 q1 : D, szL [q0, q1] = true := fun _ _ => decide_eq_true (show 2 ≤ sizeLine by decide)
  have e3 : (p.sl : Int) - 1 = ((p.sl - 1 : Nat) : Int) := by omega
  have k3 : cut (D.int (b2i a) :: s.pu.map D.int) none (some ((p.sl - 1 : Nat) : Int)) = ((b2i a :: s.pu).take (p.sl - 1)).map D.int := by rw [cut_hi, List.map_take]; rfl
  have k4 : cut (D.int (b2i b) :: s.ta.map D.int) none (some ((p.sl - 1 : Nat) : Int)) = ((b2i b :: s.ta).take (p.sl - 1)).map D.int := by rw [cut_hi, List.map_take]; rfl
  have z1 : mIte (mCmpT fEq (mBin fIx (mVar 2) (mC (.int 0))) (mC (.int (0)))) (mBin fIx (mVar 1) (mC (.int 2))) (mTup (mCons (mVar 4) (mStar (mSl01 (mBin fIx (mVar 1) (mC (.int 2))) (mNeg (mC (.int 1)))) mNil)))
      [some (false, brD p), some (false, stD s), some (false, btD i j), some (false, .tup [.bool a, .bool b]), some (false, dl), some (false, dg), some (false, .int (b2i a)), some (false, .int (b2i b)), some (false, .int ((p.sl - 1 : Nat) : Int)), some (false, .int (((s.put : Int) + b2i a) % (p.n : Int))), some (false, .int (((s.taken : Int) + b2i b) % (p.n : Int))), none, none] B = .ok (wD (frD i s.lo dl)) B := by
    by_cases h : i = 0
    · have e : frD i s.lo dl = s.lo := by cases dl <;> simp [frD, h]
      rw [e]
      simp [bt0, nat0, h, st2]
    · obtain ⟨x, rfl⟩ := hl h
      have e : frD i s.lo (.int x) = x :: s.lo.dropLast := by simp [frD, h]
      rw [e]
      have f := w1 x
      simp [bt0, nat0, h, st2, fSl, c1]
      simp at f
      simp [f]
  have z2 : ∀ o, mIte (mCmpT fEq (mBin fIx (mVar 2) (mC (.int 1))) (mC (.int (0)))) (mBin fIx (mVar 1) (mC (.int 3))) (mTup (mCons (mVar 5) (mStar (mSl01 (mBin fIx (mVar 1) (mC (.int 3))) (mNeg (mC (.int 1)))) mNil)))
      [some (false, brD p), some (false, stD s), some (false, btD i j), some (false, .tup [.bool a, .bool b]), some (false, dl), some (false, dg), some (false, .int (b2i a)), some (false, .int (b2i b)), some (false, .int ((p.sl - 1 : Nat) : Int)), some (false, .int (((s.put : Int) + b2i a) % (p.n : Int))), some (false, .int (((s.taken : Int) + b2i b) % (p.n : Int))), o, none] B = .ok (wD (frD j s.gl dg)) B := by
    intro o
    by_cases h : j = 0
    · have e : frD j s.gl dg = s.gl := by cases dg <;> simp [frD, h]
      rw [e]
      simp [bt1, nat0, h, st3]
    · obtain ⟨x, rfl⟩ := hg h
      have e : frD j s.gl (.int x) = x :: s.gl.dropLast := by simp [frD, h]
      rw [e]
      have f := w2 x
      simp [bt1, nat0, h, st3, fSl, c2]
      simp at f
      simp [f]
  have zf : stD (nxS p s i j a b dl dg) = .tup [.int (((s.put : Int) + b2i a) % (p.n : Int)), .int (((s.taken : Int) + b2i b) % (p.n : Int)), wD (frD i s.lo dl), wD (frD j s.gl dg), wD ((b2i a :: s.pu).take (p.sl - 1)), wD ((b2i b :: s.ta).take (p.sl - 1))] := by
    unfold stD nxS
    simp only [Int.toNat_of_nonneg g0, Int.toNat_of_nonneg g1]
  rw [zf]
  generalize frD i s.lo dl = FL at *
  generalize frD j s.gl dg = FG at *
  have y3 := w3 (b2i a)
  have y4 := w4 (b2i b)
  generalize (b2i a :: s.pu).take (p.sl - 1) = Ta at *
  generalize (b2i b :: s.ta).take (p.sl - 1) = Tb at *
  generalize ((s.put : Int) + b2i a) % (p.n : Int) = r0 at *
  generalize ((s.taken : Int) + b2i b) % (p.n : Int) = r1 at *
  generalize b2i a = ia at *
  generalize b2i b = ib at *
  have hm : f_behind_in [brD p, stD s, btD i j, .tup [.bool a, .bool b], dl, dg] B = (m_behind_in [some (false, brD p), some (false, stD s), some (false, btD i j), some (false, .tup [.bool a, .bool b]), some (false, dl), some (false, dg), none, none, none, none, none, none, none] B).fin := by
    simp [f_behind_in]
  rw [hm, m_behind_in]
  generalize brD p = br at *
  generalize codeD p.ws = cd at *
  simp only [z_mSeq, z_mAsg, z_mTup, z_mCons, z_mNil, z_m1, z_mBin, z_mVar, z_mC, List.getElem?_cons_succ, List.getElem?_cons_zero, z_bind_ok, x0, x1, y0, y1, z_mPrp, a2, z_fSub, e3, w33, if_true, z_st_ok, z_gT, z_gsC, z_gN, z_gs0, Option.bind_some, List.set_cons_succ, List.set_cons_zero, z_seq_next,
    st0, st1, a1, a3, z_fAddI, m0, m1, w22, z_mSet, z1, z2, st4, st5, z_mRet, z_mSl01, z_mStar, z_seq_t, List.append_nil, y3, y4, z_asI, fSl, k3, k4, w6, z_fin_ret]
end Hk

set_option Elab.async false
set_option linter.all false
set_option maxRecDepth 100000
namespace Hk
open PySem PySem.Spec PyProof.Rows L2 Hf

/-! ### the order of the states -/
abbrev kT (l : List Int) : List (Int ⊕ List Nat) := PySem.W.keyToksAll (l.map PyData.int)
theorem kT_cons (x : Int) (l : List Int) : kT (x :: l) = .inl 1 :: .inl x :: kT l := by simp [kT, PySem.W.keyToksAll, PySem.W.keyToks]
theorem toPy_st (s : St) : toPy (stD s) = .tuple [.int s.put, .int s.taken, .tuple (s.lo.map .int), .tuple (s.gl.map .int), .tuple (s.pu.map .int), .tuple (s.ta.map .int)] := by
  simp [stD, toPy, toPys, toPys_map, Function.comp_def]
theorem toks_st (s : St) : PySem.W.keyToks (toPy (stD s)) = [.inl 1, .inl (s.put : Int), .inl 1, .inl (s.taken : Int), .inl 1] ++ (kT s.lo ++ (.inl 1 :: (kT s.gl ++ (.inl 1 :: (kT s.pu ++ (.inl 1 :: (kT s.ta ++ [.inl 0]))))))) := by
  rw [toPy_st]
  simp [PySem.W.keyToks, PySem.W.keyToksAll, kT]
theorem lex_gt {a b : Int} (h : a < b) (P t u : List (Int ⊕ List Nat)) : PyProof.Rows.lexLt PyProof.Rows.itemOrd (P ++ .inl b :: t) (P ++ .inl a :: u) = false := by
  rw [PySem.W.lex_pre, PyProof.Rows.lex_cons]
  have h1 : PyProof.Rows.itemOrd.blt (.inl b) (.inl a) = false := by
    show decide (b < a) = false
    simp; omega
  have h2 : PyProof.Rows.itemOrd.blt (.inl a) (.inl b) = true := by
    show decide (a < b) = true
    simpa using h
  rw [h1, h2]; rfl
/-- a row behind another one -/
def Inc (r u : List Int) : Prop := ∃ a b t, r = a :: t ∧ u = b :: t ∧ a < b
theorem le_of (x y : St) (h : PyProof.Rows.lexLt PyProof.Rows.itemOrd (PySem.W.keyToks (toPy (stD y))) (PySem.W.keyToks (toPy (stD x))) = false) : PySem.W.dataLe false toPy (stD x) (stD y) = true := by
  show (!PyProof.Rows.lexLt PyProof.Rows.itemOrd (PySem.W.keyToks (toPy (stD y))) (PySem.W.keyToks (toPy (stD x)))) = true
  rw [h]; rfl
theorem le_lo {x y : St} (hp : x.put = y.put) (ht : x.taken = y.taken) (h : Inc x.lo y.lo) : PySem.W.dataLe false toPy (stD x) (stD y) = true := by
  obtain ⟨a, b, t, e1, e2, hab⟩ := h
  refine le_of x y ?_
  rw [toks_st, toks_st, e1, e2, kT_cons, kT_cons, hp, ht]
  have := lex_gt hab [.inl 1, .inl (y.put : Int), .inl 1, .inl (y.taken : Int), .inl 1, .inl 1] (kT t ++ (.inl 1 :: (kT y.gl ++ (.inl 1 :: (kT y.pu ++ (.inl 1 :: (kT y.ta ++ [.inl 0]))))))) (kT t ++ (.inl 1 :: (kT x.gl ++ (.inl 1 :: (kT x.pu ++ (.inl 1 :: (kT x.ta ++ [.inl 0])))))))
  simpa using this
theorem le_gl {x y : St} (hp : x.put = y.put) (ht : x.taken = y.taken) (hl : x.lo = y.lo) (h : Inc x.gl y.gl) : PySem.W.dataLe false toPy (stD x) (stD y) = true := by
  obtain ⟨a, b, t, e1, e2, hab⟩ := h
  refine le_of x y ?_
  rw [toks_st, toks_st, e1, e2, kT_cons, kT_cons, hp, ht, hl]
  have := lex_gt hab ([.inl 1, .inl (y.put : Int), .inl 1, .inl (y.taken : Int), .inl 1] ++ (kT y.lo ++ [.inl 1, .inl 1])) (kT t ++ (.inl 1 :: (kT y.pu ++ (.inl 1 :: (kT y.ta ++ [.inl 0]))))) (kT t ++ (.inl 1 :: (kT x.pu ++ (.inl 1 :: (kT x.ta ++ [.inl 0])))))
  simpa using this
theorem inOrd_of : {ds : List D} → ds.Pairwise (fun x y => PySem.W.dataLe false toPy x y = true) → inOrd ds = true
  | [], _ => rfl
  | d :: ds, h => by
    rw [List.pairwise_cons] at h
    simp only [inOrd, Bool.and_eq_true, List.all_eq_true]
    exact ⟨h.1, inOrd_of h.2⟩
theorem alike_ints : {l u : List Int} → l.length = u.length → PySem.W.alikeAll (l.map PyData.int) (u.map PyData.int) = true
  | [], [], _ => rfl
  | _ :: l, _ :: u, h => by
    simp only [List.map_cons, PySem.W.alikeAll, PySem.W.alike, Bool.true_and]
    exact alike_ints (by simpa using h)
structure Same4 (x y : St) : Prop where
  l : x.lo.length = y.lo.length
  g : x.gl.length = y.gl.length
  u : x.pu.length = y.pu.length
  t : x.ta.length = y.ta.length
theorem alike_st {x y : St} (h : Same4 x y) : PySem.W.alike (toPy (stD x)) (toPy (stD y)) = true := by
  rw [toPy_st, toPy_st]
  simp [PySem.W.alike, PySem.W.alikeAll, alike_ints h.l, alike_ints h.g, alike_ints h.u, alike_ints h.t]
theorem can_ints (l : List Int) : PyData.canLayAll0 (l.map PyData.int) = true := by
  induction l with
  | nil => rfl
  | cons x l ih => simp [PyData.canLayAll0, PyData.canLay0, ih]
theorem depth_ints (l : List Int) : PyData.depthAll (l.map PyData.int) ≤ 1 := by
  induction l with
  | nil => simp [PyData.depthAll]
  | cons x l ih => simp only [List.map_cons, PyData.depthAll, PyData.depth]; omega
theorem srt_states {xs : List St} (hl : xs.length ≤ 10000) (h4 : ∀ x ∈ xs, ∀ y ∈ xs, Same4 x y) (ho : xs.Pairwise fun x y => PySem.W.dataLe false toPy (stD x) (stD y) = true) : srtG (xs.map stD) = true := by
  have e : toPys (xs.map stD) = xs.map fun x => toPy (stD x) := by rw [toPys_map]
  simp only [srtG, Bool.and_eq_true, decide_eq_true_eq, e, List.all_eq_true]
  refine ⟨⟨⟨⟨⟨Nat.le_trans (show _ ≤ 1000000 by simp; omega) size_big, ?_⟩, ?_⟩, ?_⟩, ?_⟩, inOrd_of (by rw [List.pairwise_map]; exact ho)⟩
  · intro z hz
    obtain ⟨x, _, rfl⟩ := List.mem_map.mp hz
    rw [toPy_st]; rfl
  · intro z hz u hu
    obtain ⟨x, hx, rfl⟩ := List.mem_map.mp hz
    obtain ⟨y, hy, rfl⟩ := List.mem_map.mp hu
    exact alike_st (h4 x hx y hy)
  · clear h4 ho hl e
    induction xs with
    | nil => rfl
    | cons x xs ih =>
      rw [List.map_cons, PyData.canLayAll0, ih, toPy_st]
      simp [PyData.canLay0, PyData.canLayAll0, can_ints]
  · intro z hz
    obtain ⟨x, _, rfl⟩ := List.mem_map.mp hz
    rw [toPy_st]
    have h1 := depth_ints x.lo; have h2 := depth_ints x.gl; have h3 := depth_ints x.pu; have h4 := depth_ints x.ta
    simp only [PyData.depth, PyData.depthAll]
    omega
end Hk

set_option Elab.async false
set_option linter.all false
set_option maxRecDepth 100000
namespace Hk
open PySem PySem.Spec PyProof.Rows L2 Hf

/-! ### a bridge asked -/
def nxL (p : Pl) (s : St) (i j : Nat) (a b : Bool) : List St := (itL i (lkL p s b)).flatMap fun dl => (itL j (gkL p s a)).map fun dg => nxS p s i j a b dl dg
def ansD (p : Pl) (s : St) (i j : Nat) : D := match mvP p s i j with
  | .go a b => .tup ((nxL p s i j a b).map stD)
  | m => mvD m
theorem rd_ne {p : Pl} (P : OkP p) (v : Int) (st : Nat) : rdL p v st ≠ [] := sn_ne P.W _ _
theorem rd_len {p : Pl} (P : OkP p) (v : Int) (st : Nat) : (rdL p v st).length ≤ 32 := sn_len P.W.m5 _ _ _
theorem itL_len {i : Nat} {l : List Int} (h : l.length ≤ 32) : (itL i l).length ≤ 32 := by
  unfold itL
  split <;> simp
  exact h
theorem nx_len {p : Pl} (P : OkP p) (s : St) (i j : Nat) (a b : Bool) : (nxL p s i j a b).length ≤ 1024 := by
  have h1 := itL_len (i := i) (rd_len P ((s.taken : Int) + b2i b) (b2i b + s.ta.sum).toNat)
  have h2 := itL_len (i := j) (rd_len P ((s.put : Int) + b2i a) (b2i a + s.pu.sum).toNat)
  unfold nxL
  have hL : (itL i (lkL p s b)).length ≤ 32 := h1
  have hG : (itL j (gkL p s a)).length ≤ 32 := h2
  generalize itL i (lkL p s b) = L at *
  generalize itL j (gkL p s a) = G at *
  have : ∀ L : List D, (L.flatMap fun dl => G.map fun dg => nxS p s i j a b dl dg).length ≤ L.length * 32 := by
    intro L
    induction L with
    | nil => simp
    | cons x L ih => simp only [List.flatMap_cons, List.length_append, List.length_map, List.length_cons]; omega
  have := this L
  omega
theorem or_items {m : Ev} {σ : Sl} {i : Nat} {l : List Int} {B : Bs} (h : m σ B = .ok (if i = 0 then .tup [] else wD l) B) (hl : l ≠ []) : mItems (mOr m (mTup (mCons (mC .none) mNil))) σ B = .ok (itL i l) B := by
  have z1 : szL [D.none] = true := rfl
  by_cases hi : i = 0
  · have t : tru (.tup []) B = .ok false B := rfl
    simp [h, hi, t, z1, itL]
  · have t : tru (wD l) B = .ok true B := by
      cases l with
      | nil => exact absurd rfl hl
      | cons x l => rfl
    simp only [z_mItems, z_mOr, h, hi, if_false, z_bind_ok, t, if_true, itL]
    rfl
theorem in_loop {p : Pl} (P : OkP p) {s : St} (S : OkS p s) (i j : Nat) (a b : Bool) (dl : D) (hl : i ≠ 0 → ∃ x, dl = .int x) (B : Bs) : (gs : List D) → (acc : List D) → (o : Option (Bool × D)) → acc.length + gs.length ≤ 10000 → (∀ d ∈ gs, j ≠ 0 → ∃ x, d = .int x) →
    ∃ o', forL (gN 6) (mApp 4 (mCall f_behind_in [] (mCons (mVar 0) (mCons (mVar 1) (mCons (mVar 2) (mCons (mVar 3) (mCons (mVar 5) (mCons (mVar 6) mNil)))))))) gs [some (false, brD p), some (false, stD s), some (false, btD i j), some (false, .tup [.bool a, .bool b]), some (true, .lst acc), some (false, dl), o] B =
      .next [some (false, brD p), some (false, stD s), some (false, btD i j), some (false, .tup [.bool a, .bool b]), some (true, .lst (acc ++ gs.map fun dg => stD (nxS p s i j a b dl dg))), some (false, dl), o'] B
  | [], acc, o, _, _ => ⟨o, by simp [forL]⟩
  | d :: gs, acc, o, h, hg => by
    obtain ⟨o', ih⟩ := in_loop P S i j a b dl hl B gs (acc ++ [stD (nxS p s i j a b dl d)]) (some (false, d)) (by simp at h ⊢; omega) fun e he => hg e (List.mem_cons_of_mem _ he)
    refine ⟨o', ?_⟩
    have e := behind_in_ok P S i j a b dl d hl (hg d (List.mem_cons_self ..)) B
    have hz : acc.length < sizeLine := Nat.lt_of_lt_of_le (show acc.length < 1000000 by simp at h; omega) size_big
    rw [forL]
    simp [mApp, upO, e, hz]
    rw [ih]
    simp
theorem out_loop {p : Pl} (P : OkP p) {s : St} (S : OkS p s) (i j : Nat) (a b : Bool) (B : Bs) : (ls : List D) → (acc : List D) → (o q : Option (Bool × D)) → acc.length + ls.length * 32 ≤ 10000 → (∀ d ∈ ls, i ≠ 0 → ∃ x, d = .int x) →
    ∃ o' q', forL (gN 5) (mFor (gN 6) (mItems (mOr (mCall f_glances_in [] (mCons (mVar 0) (mCons (mVar 1) (mCons (mVar 2) (mCons (mVar 3) mNil))))) (mTup (mCons (mC .none) mNil)))) (mApp 4 (mCall f_behind_in [] (mCons (mVar 0) (mCons (mVar 1) (mCons (mVar 2) (mCons (mVar 3) (mCons (mVar 5) (mCons (mVar 6) mNil))))))))) ls
      [some (false, brD p), some (false, stD s), some (false, btD i j), some (false, .tup [.bool a, .bool b]), some (true, .lst acc), o, q] B =
      .next [some (false, brD p), some (false, stD s), some (false, btD i j), some (false, .tup [.bool a, .bool b]), some (true, .lst (acc ++ (ls.flatMap fun dl => (itL j (gkL p s a)).map fun dg => nxS p s i j a b dl dg).map stD)), o', q'] B
  | [], acc, o, q, _, _ => ⟨o, q, by simp [forL]⟩
  | d :: ls, acc, o, q, h, hl => by
    have hG := itL_len (i := j) (rd_len P ((s.put : Int) + b2i a) (b2i a + s.pu.sum).toNat)
    have hG' : (itL j (gkL p s a)).length ≤ 32 := hG
    obtain ⟨q1, e1⟩ := in_loop P S i j a b d (hl d (List.mem_cons_self ..)) B (itL j (gkL p s a)) acc q (by simp at h; omega) fun e he hj => by
      obtain ⟨x, hx, _⟩ := itL_int he hj; exact ⟨x, hx⟩
    obtain ⟨o', q', ih⟩ := out_loop P S i j a b B ls (acc ++ (itL j (gkL p s a)).map fun dg => stD (nxS p s i j a b d dg)) (some (false, d)) q1 (by simp at h ⊢; omega) fun e he => hl e (List.mem_cons_of_mem _ he)
    refine ⟨o', q', ?_⟩
    have g0 := glances_in_ok P S i j a b B
    have g1 := or_items (m := mCall f_glances_in [] (mCons (mVar 0) (mCons (mVar 1) (mCons (mVar 2) (mCons (mVar 3) mNil))))) (σ := [some (false, brD p), some (false, stD s), some (false, btD i j), some (false, .tup [.bool a, .bool b]), some (true, .lst acc), some (false, d), q]) (B := B) (i := j) (l := gkL p s a)
      (by simp [g0]) (rd_ne P _ _)
    rw [forL]
    simp only [z_gN, List.set_cons_succ, List.set_cons_zero, mFor, g1, z_st_ok, e1, z_seq_next]
    rw [ih]
    simp
theorem fr_inc {p : Pl} {i : Nat} {row : List Int} {l : List Int} (hp : l.Pairwise (· < ·)) : (itL i l).Pairwise fun x y => i ≠ 0 ∧ Inc (frD i row x) (frD i row y) := by
  unfold itL
  split
  · exact List.pairwise_singleton ..
  · rename_i h
    rw [List.pairwise_map]
    exact hp.imp fun {a b} hab => ⟨h, a, b, row.dropLast, by simp [frD, h], by simp [frD, h], hab⟩
theorem fr_len {i : Nat} {row : List Int} (h : row ≠ []) {l : List Int} {d : D} (hd : d ∈ itL i l) : (frD i row d).length = row.length := by
  have h1 : 0 < row.length := List.length_pos_iff.mpr h
  by_cases hi : i = 0
  · have : frD i row d = row := by cases d <;> simp [frD, hi]
    rw [this]
  · obtain ⟨x, rfl, _⟩ := itL_int hd hi
    simp [frD, hi]; omega
theorem nx_srt {p : Pl} (P : OkP p) {s : St} (S : OkS p s) (i j : Nat) (a b : Bool) : srtG ((nxL p s i j a b).map stD) = true := by
  refine srt_states (Nat.le_trans (nx_len P s i j a b) (by decide)) (fun x hx y hy => ?_) ?_
  · simp only [nxL, List.mem_flatMap, List.mem_map] at hx hy
    obtain ⟨dl, h1, dg, h2, rfl⟩ := hx
    obtain ⟨dl', h3, dg', h4, rfl⟩ := hy
    exact ⟨(fr_len (S.lo_ne P) h1).trans (fr_len (S.lo_ne P) h3).symm, (fr_len (S.gl_ne P) h2).trans (fr_len (S.gl_ne P) h4).symm, rfl, rfl⟩
  · unfold nxL
    rw [List.pairwise_flatMap]
    refine ⟨fun dl _ => ?_, ?_⟩
    · rw [List.pairwise_map]
      exact (fr_inc (p := p) (i := j) (row := s.gl) (sn_inc _ _ _ _)).imp fun {x y} h => le_gl (x := nxS p s i j a b dl x) (y := nxS p s i j a b dl y) rfl rfl rfl h.2
    · refine (fr_inc (p := p) (i := i) (row := s.lo) (sn_inc _ _ _ _)).imp fun {x y} h => ?_
      intro u hu v hv
      obtain ⟨d1, _, rfl⟩ := List.mem_map.mp hu
      obtain ⟨d2, _, rfl⟩ := List.mem_map.mp hv
      exact le_lo (x := nxS p s i j a b x d1) (y := nxS p s i j a b y d2) rfl rfl h.2
theorem next_in_ok {p : Pl} (P : OkP p) {s : St} (S : OkS p s) (i j : Nat) (B : Bs) : f_next_in [brD p, stD s, btD i j] B = .ok (ansD p s i j) B := by
  have m0 := moves_in_ok P S i j B
  have z0 : szL [] = true := rfl
  have hm : f_next_in [brD p, stD s, btD i j] B = (m_next_in [some (false, brD p), some (false, stD s), some (false, btD i j), none, none, none, none] B).fin := by simp [f_next_in]
  rw [hm, m_next_in]
  cases hv : mvP p s i j with
  | full => simp [mPar2S, m0, hv, mvD, z0, ansD]
  | empty => simp [mPar2S, m0, hv, mvD, z0, ansD]
  | go a b =>
    have l0 := looks_in_ok P S i j a b B
    have l1 := or_items (m := mCall f_looks_in [] (mCons (mVar 0) (mCons (mVar 1) (mCons (mVar 2) (mCons (mVar 3) mNil))))) (σ := [some (false, brD p), some (false, stD s), some (false, btD i j), some (false, .tup [.bool a, .bool b]), some (true, .lst []), none, none]) (B := B) (i := i) (l := lkL p s b)
      (by simp [l0]) (rd_ne P _ _)
    have hL := itL_len (i := i) (rd_len P ((s.taken : Int) + b2i b) (b2i b + s.ta.sum).toNat)
    have hL' : (itL i (lkL p s b)).length ≤ 32 := hL
    obtain ⟨o, q, e1⟩ := out_loop P S i j a b B (itL i (lkL p s b)) [] none none (by simp; omega) fun e he hi => by
      obtain ⟨x, hx, _⟩ := itL_int he hi; exact ⟨x, hx⟩
    have t0 : mT (mIsB .str (mVar 3)) [some (false, brD p), some (false, stD s), some (false, btD i j), some (false, .tup [.bool a, .bool b]), some (true, .lst []), none, none] B = .ok false B := rfl
    have so := nx_srt P S i j a b
    have e2 : ∀ (x y z w : Option (Bool × D)), m1 fTupO (m1 fSrtG (mBor 4)) [x, y, z, w, some (true, .lst ((nxL p s i j a b).map stD)), o, q] B = .ok (.tup ((nxL p s i j a b).map stD)) B := fun x y z w => by
      simp [fSrtG, so]
    have e3 : mPar2S 3 4 (mCall f_moves_in [] (mCons (mVar 0) (mCons (mVar 1) (mCons (mVar 2) mNil)))) (mLst mNil) [some (false, brD p), some (false, stD s), some (false, btD i j), none, none, none, none] B =
        .next [some (false, brD p), some (false, stD s), some (false, btD i j), some (false, .tup [.bool a, .bool b]), some (true, .lst []), none, none] B := by
      simp [mPar2S, m0, hv, mvD, z0]
    have e4 : mFor (gN 5) (mItems (mOr (mCall f_looks_in [] (mCons (mVar 0) (mCons (mVar 1) (mCons (mVar 2) (mCons (mVar 3) mNil))))) (mTup (mCons (mC .none) mNil)))) (mFor (gN 6) (mItems (mOr (mCall f_glances_in [] (mCons (mVar 0) (mCons (mVar 1) (mCons (mVar 2) (mCons (mVar 3) mNil))))) (mTup (mCons (mC .none) mNil)))) (mApp 4 (mCall f_behind_in [] (mCons (mVar 0) (mCons (mVar 1) (mCons (mVar 2) (mCons (mVar 3) (mCons (mVar 5) (mCons (mVar 6) mNil))))))))) [some (false, brD p), some (false, stD s), some (false, btD i j), some (false, .tup [.bool a, .bool b]), some (true, .lst []), none, none] B =
        .next [some (false, brD p), some (false, stD s), some (false, btD i j), some (false, .tup [.bool a, .bool b]), some (true, .lst ((nxL p s i j a b).map stD)), o, q] B := by
      simp only [mFor, l1, z_st_ok]
      rw [e1]
      rfl
    simp only [z_mSeq, e3, z_seq_next, z_mIf, t0, z_st_ok, Bool.false_eq_true, if_false, z_mSkip, e4, z_mRet, e2, z_fin_ret, ansD, hv]
theorem call_ok {p : Pl} (P : OkP p) {s : St} (S : OkS p s) {i j : Nat} (h : OkB i j) (B : Bs) : f_BridgeX_callX [brD p, stD s, btD i j] B = .ok (ansD p s i j) B := by
  have a1 := need_state_ok P S B
  have a2 := need_beat_ok h B
  have a3 := next_in_ok P S i j B
  simp [f_BridgeX_callX, m_BridgeX_callX, a1, a2, a3]
end Hk

set_option Elab.async false
set_option linter.all false
set_option maxRecDepth 100000
namespace Hk
open PySem PySem.Spec PyProof.Rows L2 Hf

/-! ### the law's own reckoning -/
abbrev mSeenIn : Ms := mExt 8 (mLc [11] (gN 11) (mItems (mTup (mCons (mC (.int 0)) (mCons (mC (.int 1)) mNil)))) (mCmpT (fInD fun b => b) (mVar 11) (mVar 9)) (mBin fAdd (mVar 7) (mTup (mCons (mVar 11) mNil))))
theorem seen_loop (V : List (List Int)) (k : Nat) (hV : V.length ≤ 100) (v0 v1 v2 v3 v4 v5 v6 : Option (Bool × D)) (B : Bs) : (us : List (List Int)) → (acc : List D) → acc.length + us.length * 2 ≤ 1000 → (∀ u ∈ us, u.length ≤ 10) → (a b c : Option (Bool × D)) →
    ∃ a', forL (gN 7) mSeenIn (us.map wD) [v0, v1, v2, v3, v4, v5, v6, a, some (true, .lst acc), some (false, .lst ((col V k).map D.int)), b, c] B =
      .next [v0, v1, v2, v3, v4, v5, v6, a', some (true, .lst (acc ++ (us.flatMap fun w => (cbit V k).map fun b => w ++ [b]).map wD)), some (false, .lst ((col V k).map D.int)), b, c] B
  | [], acc, _, _, a, b, c => ⟨a, by simp [forL]⟩
  | u :: us, acc, h, hu, a, b, c => by
    have hu0 := hu u (List.mem_cons_self ..)
    have hc : (cbit V k).length ≤ 2 := cbit_len V k
    obtain ⟨a', ih⟩ := seen_loop V k hV v0 v1 v2 v3 v4 v5 v6 B us (acc ++ ((cbit V k).map fun b => u ++ [b]).map wD) (by simp at h ⊢; omega) (fun w hw => hu w (List.mem_cons_of_mem _ hw)) (some (false, wD u)) b c
    refine ⟨a', ?_⟩
    have e1 := mLc_filter (vs := [11]) (i := 11) (mi := mItems (mTup (mCons (mC (.int 0)) (mCons (mC (.int 1)) mNil)))) (mt := mCmpT (fInD fun b => b) (mVar 11) (mVar 9)) (me := mBin fAdd (mVar 7) (mTup (mCons (mVar 11) mNil)))
      (σ := [v0, v1, v2, v3, v4, v5, v6, some (false, wD u), some (true, .lst acc), some (false, .lst ((col V k).map D.int)), b, c]) (B := B) (ds := [D.int 0, D.int 1]) D.int (fun b => decide (b ∈ col V k)) (fun b => wD (u ++ [b])) [0, 1]
      (by simp [szL]) rfl (by decide) (fun x hx => ⟨by
        have y := in_ints x (col V k) (fun b => b) B
        simp only [z_mCmpT, wipeI, z_mVar, List.set_cons_succ, List.set_cons_zero, List.getElem?_cons_succ, List.getElem?_cons_zero, z_bind_ok, y, z_toB], fun _ => by
        have y := add_tup (a := u.map D.int) (b := [D.int x]) (by simp; omega) B
        simp [wipeI, szL, y]⟩)
    have e2 : ([0, 1].filter fun b => decide (b ∈ col V k)).map (fun b => wD (u ++ [b])) = ((cbit V k).map fun b => u ++ [b]).map wD := by simp [cbit]
    rw [e2] at e1
    have hz : acc.length + (((cbit V k).map fun b => u ++ [b]).map wD).length ≤ sizeLine := Nat.le_trans (show _ ≤ 1000000 by simp at h ⊢; omega) size_big
    generalize hR : ((cbit V k).map fun b => u ++ [b]).map wD = R at *
    rw [List.map_cons, forL]
    simp only [z_gN, List.set_cons_succ, List.set_cons_zero]
    have e3 : mSeenIn [v0, v1, v2, v3, v4, v5, v6, some (false, wD u), some (true, .lst acc), some (false, .lst ((col V k).map D.int)), b, c] B = .next [v0, v1, v2, v3, v4, v5, v6, some (false, wD u), some (true, .lst (acc ++ R)), some (false, .lst ((col V k).map D.int)), b, c] B := by
      simp only [mSeenIn, mExt, List.getElem?_cons_succ, List.getElem?_cons_zero, e1, z_st_ok]
      simp only [upO, List.getElem?_cons_succ, List.getElem?_cons_zero, seqOf, hz]
      simp [hz]
    simp only [e3, z_seq_next]
    rw [ih]
    simp [← hR]
end Hk

set_option Elab.async false
set_option linter.all false
set_option maxRecDepth 100000
namespace Hk
open PySem PySem.Spec PyProof.Rows L2 Hf

theorem wi_at {ws : List (List Int)} (h0 : 0 < ws.length) (v x : Nat) (B : Bs) : fIx (wsD ws) (.int (((v : Int) + (x : Int)) % (ws.length : Int))) B = .ok (wD ws[(v + x) % ws.length]!) B := by
  have e : ((v : Int) + (x : Int)) % (ws.length : Int) = (((v + x) % ws.length : Nat) : Int) := by push_cast; rfl
  rw [e]
  exact ix_ws (Nat.mod_lt _ h0) B
theorem law_seen_ok {m : Nat} {ws : List (List Int)} (W : OkW m ws) (v s : Nat) (hs : s ≤ 20) (B : Bs) : f__law_seen [wsD ws, .int v, .int s] B = .ok (.lst ((snW ws m v s).map D.int)) B := by
  have h0 : 0 < ws.length := by have := W.n2; omega
  have n0 : (0 : Int) < (ws.length : Int) := by omega
  have h5 := W.m5
  have hW : ∀ w ∈ wiW ws v s, w.length = m := fun w hw => W.wid w (wiW_mem h0 w hw)
  have hB : ∀ w ∈ wiW ws v s, ∀ b ∈ w, b = 0 ∨ b = 1 := fun w hw => W.bits w (wiW_mem h0 w hw)
  have hl : (wiW ws v s).length = s + 1 := by simp
  have r1 : rngB ((s : Int) + 1) = true := rngB_nat (n := s + 1) (by omega)
  have t1 : ((s : Int) + 1).toNat = s + 1 := by omega
  have lw : ∀ B, fLen (wsD ws) B = .ok (.int (ws.length : Nat)) B := fun B => by simp
  obtain ⟨u0, x0, w0⟩ : ∃ u0, fIx (wsD ws) (.int 0) B = .ok (wD u0) B ∧ u0.length = m := ⟨ws[0], by simp [fIx, atI, ixN, h0], W.wid _ (List.getElem_mem _)⟩
  have a1 := mLc_mapR (vs := [5]) (i := 5) (mi := mRng1 (mBin fAdd (mVar 2) (mC (.int 1)))) (me := mBin fIx (mVar 0) (mBin fMod (mBin fAdd (mVar 1) (mVar 5)) (m1 fLen (mVar 0))))
    (σ := [some (false, wsD ws), some (false, .int v), some (false, .int s), none, none, none, none, none, none, none, none, none]) (B := B) (n := s + 1) (fun i => wD ws[(v + i) % ws.length]!) (by simp [r1, t1]) (by omega) (fun x hx => by
      have y := wi_at h0 v x B
      have z := z_fMod ((v : Int) + (x : Int)) (ws.length : Int) B n0
      simp only [wipeI, z_mBin, z_mVar, z_m1, List.set_cons_succ, List.set_cons_zero, List.getElem?_cons_succ, List.getElem?_cons_zero, z_bind_ok, z_fAddI, lw, z, y])
  have e1 : (List.range (s + 1)).map (fun i => wD ws[(v + i) % ws.length]!) = (wiW ws v s).map wD := by simp
  rw [e1] at a1
  unfold snW
  generalize wiW ws v s = V at *
  have z0 : ∀ a b : D, szL [a, b] = true := fun _ _ => decide_eq_true (show 2 ≤ sizeLine by decide)
  have z1 : szL [D.tup []] = true := rfl
  have e4 := rngB_nat (show m ≤ 1000000 by omega)
  obtain ⟨σ', B', e2, ⟨rfl, a6, a7, a8, a9, a10, a11, rfl⟩⟩ := forL_inv (t := gN 6) (b := mSeq (mPar2F 8 9 (mLst mNil) (mLc [10] (gN 10) (mItems (mVar 3)) mYes (mBin fIx (mVar 10) (mVar 6))))
      (mSeq (mFor (gN 7) (mItems (mVar 4)) mSeenIn) (mFrz 8 (mSet 4 (mVar 8)))))
    (fun k σ B' => B' = B ∧ ∃ a6 a7 a8 a9 a10 a11, σ = [some (false, wsD ws), some (false, .int v), some (false, .int s), some (false, .lst (V.map wD)), some (false, .lst ((prdW V k).map wD)), none, a6, a7, a8, a9, a10, a11])
    (rngD 0 m) 0 [some (false, wsD ws), some (false, .int v), some (false, .int s), some (false, .lst (V.map wD)), some (false, .lst ((prdW V 0).map wD)), none, none, none, none, none, none, none] B (by
      rintro k d σ B' hd ⟨rfl, a6, a7, a8, a9, a10, a11, rfl⟩
      obtain ⟨rfl, hk⟩ := rngD_get hd
      simp only [Nat.zero_add, Int.zero_add]
      have b1 := mLc_map (vs := [10]) (i := 10) (mi := mItems (mVar 3)) (me := mBin fIx (mVar 10) (mVar 6)) (σ := [some (false, wsD ws), some (false, .int v), some (false, .int s), some (false, .lst (V.map wD)), some (false, .lst ((prdW V k).map wD)), none, some (false, .int k), a7, a8, a9, a10, a11]) (B := B')
        (ds := V.map wD) wD (fun w => D.int w[k]!) V (by simp) rfl (Nat.le_trans (show _ ≤ 1000000 by omega) size_big) (fun w hw => by
          have x := ix_w (w := w) (i := k) (by rw [hW w hw]; exact hk) B'
          simp [wipeI, x])
      have b3 : V.map (fun w => D.int w[k]!) = (col V k).map D.int := by simp
      rw [b3] at b1
      have p32 := p32 (show k ≤ 5 by omega) V
      obtain ⟨a7', b4⟩ := seen_loop V k (by omega) (some (false, wsD ws)) (some (false, .int v)) (some (false, .int s)) (some (false, .lst (V.map wD))) (some (false, .lst ((prdW V k).map wD))) none (some (false, .int k)) B' (prdW V k) [] (by simp; omega) (fun u hu => by
        have := prdW_wid V k u hu; omega) a7 a10 a11
      rw [List.nil_append] at b4
      refine ⟨_, rfl, _, B', ?_, rfl, some (false, .int k), a7', some (false, .lst ((prdW V (k + 1)).map wD)), some (false, .lst ((col V k).map D.int)), a10, a11, rfl⟩
      have b5 : (prdW V k).flatMap (fun w => (cbit V k).map fun b => w ++ [b]) = prdW V (k + 1) := rfl
      rw [b5] at b4
      have z00 : szL [] = true := rfl
      simp only [z_mSeq, mPar2F, z_mLst, z_mNil, z_bind_ok, z00, if_true, z_st_ok, List.set_cons_succ, List.set_cons_zero, b1, z_seq_next, mFor, z_mItems, z_mVar, List.getElem?_cons_succ, List.getElem?_cons_zero, z_it_l, b4]
      simp) ⟨rfl, none, none, none, none, none, none, rfl⟩
  simp only [Nat.zero_add, rngD_len] at e2
  have zz : prdW V 0 = [[]] := rfl
  rw [zz] at e2
  have hp := p32 h5 V
  have a3 := fun (x6 x7 x8 x9 x10 x11 : Option (Bool × D)) => mLc_map (vs := [7]) (i := 7) (mi := mItems (mVar 4)) (me := mIte (mCmpT (fInD fun b => b) (mVar 7) (mVar 0)) (mIdxT (mVar 0) (mVar 7)) (mNeg (mC (.int 1))))
    (σ := [some (false, wsD ws), some (false, .int v), some (false, .int s), some (false, .lst (V.map wD)), some (false, .lst ((prdW V m).map wD)), none, x6, x7, x8, x9, x10, x11]) (B := B') (ds := (prdW V m).map wD) wD (fun r => D.int (fdW ws r)) (prdW V m)
    (by simp) rfl (Nat.le_trans (show _ ≤ 1000000 by omega) size_big) (fun r hr => by
      have hb := prdW_bits V m r hr
      have hr5 : r.length ≤ 5 := by have := prdW_wid V m r hr; omega
      have y := in_ws W.bits (fun w hw => wl_ok W hw) (by have := W.n16; omega) hb hr5 (fun b => b) B'
      by_cases h : r ∈ ws
      · have y2 := idx_ok W.bits (fun w hw => wl_ok W hw) (by have := W.n16; omega) hb hr5 h B'
        simp only [h, decide_true] at y
        simp only [wipeI, z_mIte, z_mCmpT, z_mVar, List.set_cons_succ, List.set_cons_zero, List.getElem?_cons_succ, List.getElem?_cons_zero, z_bind_ok, y, z_toB, if_true, fdW, h]
        simp only [mIdxT, z_mVar, List.set_cons_succ, List.set_cons_zero, List.getElem?_cons_succ, List.getElem?_cons_zero, z_bind_ok, isTu, y2]
      · simp only [h, decide_false] at y
        simp only [wipeI, z_mIte, z_mCmpT, z_mVar, List.set_cons_succ, List.set_cons_zero, List.getElem?_cons_succ, List.getElem?_cons_zero, z_bind_ok, y, z_toB, Bool.false_eq_true, if_false, fdW, h, z_mNeg, z_mC])
  have e5 : (prdW V m).map (fun r => D.int (fdW ws r)) = ((prdW V m).map (fdW ws)).map D.int := by simp
  rw [e5] at a3
  have a4 := srtSet_ok (l := (prdW V m).map (fdW ws)) (by simp; omega) B'
  have hm : f__law_seen [wsD ws, .int v, .int s] B' = (m__law_seen [some (false, wsD ws), some (false, .int v), some (false, .int s), none, none, none, none, none, none, none, none, none] B').fin := by simp [f__law_seen]
  rw [hm, m__law_seen]
  have k1 : mAsg (gT (gsC (gN 3) (gsC (gN 4) gs0))) (mTup (mCons (mLc [5] (gN 5) (mRng1 (mBin fAdd (mVar 2) (mC (.int 1)))) mYes (mBin fIx (mVar 0) (mBin fMod (mBin fAdd (mVar 1) (mVar 5)) (m1 fLen (mVar 0))))) (mCons (mLst (mCons (mTup mNil) mNil)) mNil)))
      [some (false, wsD ws), some (false, .int v), some (false, .int s), none, none, none, none, none, none, none, none, none] B' = .next [some (false, wsD ws), some (false, .int v), some (false, .int s), some (false, .lst (V.map wD)), some (false, .lst ([[]].map wD)), none, none, none, none, none, none, none] B' := by
    have zt : szL [] = true := rfl
    simp only [z_mAsg, z_mTup, z_mCons, z_mNil, a1, z_bind_ok, z_mLst, zt, if_true, z1, z0, z_st_ok, z_gT, z_gsC, z_gN, z_gs0, Option.bind_some, List.set_cons_succ, List.set_cons_zero]
    rfl
  have k2 : mRng1 (m1 fLen (mBin fIx (mVar 0) (mC (.int 0)))) [some (false, wsD ws), some (false, .int v), some (false, .int s), some (false, .lst (V.map wD)), some (false, .lst ([[]].map wD)), none, none, none, none, none, none, none] B' = .ok (rngD 0 m) B' := by
    simp only [z_mRng1, z_m1, z_mBin, z_mVar, z_mC, List.getElem?_cons_zero, z_bind_ok, x0, z_lenT, List.length_map, w0, z_asI, e4, if_true, Int.toNat_natCast]
  simp only [z_mSeq, k1, z_seq_next]
  rw [mFor, k2]
  simp only [z_st_ok]
  rw [e2]
  simp only [z_seq_next, z_mRet, z_m1, a3, z_bind_ok, a4, z_st_ok, z_fin_ret]
end Hk

set_option Elab.async false
set_option linter.all false
set_option maxRecDepth 100000
namespace Hk
open PySem PySem.Spec PyProof.Rows L2 Hf

/-! ### the law's own next states -/
def plD (p : Pl) : D := .tup [wsD p.ws, .int p.dp, .int p.ah, .int p.be, .int p.sl]
theorem pl0 (p : Pl) (B : Bs) : fIx (plD p) (.int 0) B = .ok (wsD p.ws) B := rfl
theorem pl1 (p : Pl) (B : Bs) : fIx (plD p) (.int 1) B = .ok (.int p.dp) B := rfl
theorem pl2 (p : Pl) (B : Bs) : fIx (plD p) (.int 2) B = .ok (.int p.ah) B := rfl
theorem pl3 (p : Pl) (B : Bs) : fIx (plD p) (.int 3) B = .ok (.int p.be) B := rfl
theorem pl4 (p : Pl) (B : Bs) : fIx (plD p) (.int 4) B = .ok (.int p.sl) B := rfl
theorem plL (p : Pl) (B : Bs) : fLen (plD p) B = .ok (.int 5) B := rfl
theorem wsL (p : Pl) (B : Bs) : fLen (wsD p.ws) B = .ok (.int p.n) B := by simp
def lvD : Mv → D
  | .full => .str (Str.ofString "full")
  | .empty => .str (Str.ofString "empty")
  | .go a b => .tup [.int (b2i a), .int (b2i b)]
theorem law_moves_ok {p : Pl} (P : OkP p) {s : St} (S : OkS p s) (i j : Nat) (B : Bs) : f__law_moves [plD p, stD s, btD i j] B = .ok (lvD (mvP p s i j)) B := by
  have l1 := last_ok (S.lo_ne P) B
  have l2 := last_ok (S.gl_ne P) B
  have n0 := P.n0
  have m0 := z_fMod ((s.put : Int) - (s.taken : Int)) (p.n : Int) B n0
  have q1 := z_fMod ((s.put : Int) - lastI s.lo) (p.n : Int) B n0
  have m2 := z_fMod (lastI s.gl - (s.taken : Int)) (p.n : Int) B n0
  have g1 := (S.lv _ (lastI_mem (S.lo_ne P))).1
  have g2 := (S.gv _ (lastI_mem (S.gl_ne P))).1
  have w3 : ∀ q0 q1 q2 : D, szL [q0, q1, q2] = true := fun _ _ _ => decide_eq_true (show 3 ≤ sizeLine by decide)
  have w2 : ∀ q0 q1 : D, szL [q0, q1] = true := fun _ _ => decide_eq_true (show 2 ≤ sizeLine by decide)
  have q : ((s.put : Int) == (s.taken : Int)) = decide (s.put = s.taken) := by
    by_cases h : s.put = s.taken
    · simp [h]
    · have : ¬ (s.put : Int) = s.taken := by omega
      simp [h, this]
  have hm : f__law_moves [plD p, stD s, btD i j] B = (m__law_moves [some (false, plD p), some (false, stD s), some (false, btD i j), none, none, none, none, none] B).fin := by simp [f__law_moves]
  rw [hm, m__law_moves]
  unfold mvP putsB takesB
  generalize lastI s.lo = lk at *
  generalize lastI s.gl = gk at *
  have d1 : decide ((-1 : Int) < lk) = decide (lk ≠ -1) := decide_eq_decide.mpr (by omega)
  have d2 : decide ((-1 : Int) < gk) = decide (gk ≠ -1) := decide_eq_decide.mpr (by omega)
  have d3 : decide ((0 : Int) < (gk - (s.taken : Int)) % (p.n : Int)) = decide (1 ≤ (gk - (s.taken : Int)) % (p.n : Int)) := decide_eq_decide.mpr (by omega)
  have c1 : mSet 6 (mAnd (mBin fEq (mBin fIx (mVar 2) (mC (.int 0))) (mC (.int 2))) (mAnd (mBin fGt (mVar 4) (mNeg (mC (.int 1)))) (mBin fLt (mBin fMod (mBin fSub (mBin fIx (mVar 1) (mC (.int 0))) (mVar 4)) (mVar 3)) (mBin fIx (mVar 0) (mC (.int 1))))))
      [some (false, plD p), some (false, stD s), some (false, btD i j), some (false, .int (p.n : Int)), some (false, .int lk), some (false, .int gk), none, none] B =
      .next [some (false, plD p), some (false, stD s), some (false, btD i j), some (false, .int (p.n : Int)), some (false, .int lk), some (false, .int gk), some (false, .bool (decide (i = 2) && (decide (lk ≠ -1) && decide (((s.put : Int) - lk) % (p.n : Int) < p.dp)))), none] B := by
    rw [← d1]
    by_cases h1 : i = 2 <;> by_cases h2 : (-1 : Int) < lk <;> simp [bt0, nat2, h1, h2, st0, q1, pl1]
  have c2 : ∀ u, mSet 7 (mAnd (mBin fEq (mBin fIx (mVar 2) (mC (.int 1))) (mC (.int 2))) (mAnd (mBin fGt (mVar 5) (mNeg (mC (.int 1)))) (mChain fLt fLe (mC (.int 0)) (mBin fMod (mBin fSub (mVar 5) (mBin fIx (mVar 1) (mC (.int 1)))) (mVar 3)) (mBin fIx (mVar 0) (mC (.int 1))))))
      [some (false, plD p), some (false, stD s), some (false, btD i j), some (false, .int (p.n : Int)), some (false, .int lk), some (false, .int gk), some (false, .bool u), none] B =
      .next [some (false, plD p), some (false, stD s), some (false, btD i j), some (false, .int (p.n : Int)), some (false, .int lk), some (false, .int gk), some (false, .bool u), some (false, .bool (decide (j = 2) && (decide (gk ≠ -1) && (decide (1 ≤ (gk - (s.taken : Int)) % (p.n : Int)) && decide ((gk - (s.taken : Int)) % (p.n : Int) ≤ p.dp)))))] B := by
    intro u
    rw [← d2, ← d3]
    by_cases h1 : j = 2 <;> by_cases h2 : (-1 : Int) < gk <;> by_cases h3 : (0 : Int) < (gk - (s.taken : Int)) % (p.n : Int) <;> simp [bt1, nat2, h1, h2, h3, st1, m2, pl1]
  have c0 : mAsg (gT (gsC (gN 3) (gsC (gN 4) (gsC (gN 5) gs0)))) (mTup (mCons (m1 fLen (mBin fIx (mVar 0) (mC (.int 0)))) (mCons (mBin fIx (mBin fIx (mVar 1) (mC (.int 2))) (mNeg (mC (.int 1)))) (mCons (mBin fIx (mBin fIx (mVar 1) (mC (.int 3))) (mNeg (mC (.int 1)))) mNil))))
      [some (false, plD p), some (false, stD s), some (false, btD i j), none, none, none, none, none] B = .next [some (false, plD p), some (false, stD s), some (false, btD i j), some (false, .int (p.n : Int)), some (false, .int lk), some (false, .int gk), none, none] B := by
    simp [pl0, st2, st3, l1, l2, w3]
  simp only [z_mSeq, c0, z_seq_next, c1, c2]
  generalize (decide (i = 2) && (decide (lk ≠ -1) && decide (((s.put : Int) - lk) % (p.n : Int) < p.dp))) = u
  generalize (decide (j = 2) && (decide (gk ≠ -1) && (decide (1 ≤ (gk - (s.taken : Int)) % (p.n : Int)) && decide ((gk - (s.taken : Int)) % (p.n : Int) ≤ p.dp)))) = v
  clear c1 c2 c0 q1 m2 d1 d2 d3
  generalize decide (s.put = s.taken) = w at *
  generalize ((s.put : Int) - (s.taken : Int)) % (p.n : Int) = r at *
  cases u <;> cases v <;> cases w <;> by_cases h1 : (p.dp : Int) ≤ r <;> simp [st0, st1, m0, pl1, q, h1, lvD, w2, fInt_b]
theorem law_fronts_no (p : Pl) (row : List Int) (v st : Int) (B : Bs) : f__law_fronts [plD p, wD row, .int v, .int st, .bool false] B = .ok (.lst [wD row]) B := by
  have z : szL [wD row] = true := decide_eq_true (show 1 ≤ sizeLine by decide)
  simp [f__law_fronts, m__law_fronts, z]
theorem law_fronts_yes {p : Pl} (P : OkP p) {row : List Int} (hr : row ≠ []) (hr2 : row.length ≤ 10) (v : Int) (st : Nat) (hs : st ≤ 20) (B : Bs) : f__law_fronts [plD p, wD row, .int v, .int st, .bool true] B = .ok (.lst ((rdL p v st).map fun x => wD (x :: row.dropLast))) B := by
  have n0 := P.n0
  have m0 := z_fMod (v - (st : Int)) (p.n : Int) B n0
  have g0 := Int.emod_nonneg (v - (st : Int)) (show (p.n : Int) ≠ 0 by omega)
  have e : (v - (st : Int)) % (p.n : Int) = ((((v - (st : Int)) % (p.n : Int)).toNat : Nat) : Int) := by omega
  have a := law_seen_ok P.W ((v - (st : Int)) % (p.n : Int)).toNat st hs B
  rw [← e] at a
  have hl := rd_len P v st
  have c := cut_dl hr
  have g : fGt (.int 5) (.int 5) B = .ok (.bool false) B := rfl
  have b := mLc_map (vs := [7]) (i := 7) (mi := mItems (mVar 6)) (me := mBin fAdd (mTup (mCons (mVar 7) mNil)) (mSl01 (mVar 1) (mNeg (mC (.int 1)))))
    (σ := [some (false, plD p), some (false, wD row), some (false, .int v), some (false, .int st), some (false, .bool true), some (false, .int ((v - (st : Int)) % (p.n : Int))), some (false, .lst ((rdL p v st).map D.int)), none]) (B := B) (ds := (rdL p v st).map D.int) D.int (fun x => wD (x :: row.dropLast)) (rdL p v st)
    (by simp) rfl (Nat.le_trans (show _ ≤ 1000000 by omega) size_big) (fun x hx => by
      have y := add_tup (a := [D.int x]) (b := row.dropLast.map D.int) (by simp; omega) B
      have z : szL [D.int x] = true := decide_eq_true (show 1 ≤ sizeLine by decide)
      simp only [wipeI, z_mBin, z_mTup, z_mCons, z_mNil, z_mVar, List.set_cons_succ, List.set_cons_zero, List.getElem?_cons_succ, List.getElem?_cons_zero, z_bind_ok, z, if_true, z_mSl01, z_mNeg, z_mC, z_asI, fSl, c, y]
      rfl)
  have hm : f__law_fronts [plD p, wD row, .int v, .int st, .bool true] B = (m__law_fronts [some (false, plD p), some (false, wD row), some (false, .int v), some (false, .int st), some (false, .bool true), none, none, none] B).fin := by simp [f__law_fronts]
  rw [hm, m__law_fronts]
  have hd : decide ((5 : Int) < 5) = false := by decide
  have a' : f__law_seen [wsD p.ws, .int ((v - (st : Int)) % (p.n : Int)), .int st] B = .ok (.lst ((rdL p v st).map D.int)) B := a
  generalize rdL p v st = R at *
  simp only [z_mSeq, z_mIf, z_mNotT, z_mT, z_mVar, List.getElem?_cons_succ, List.getElem?_cons_zero, z_bind_ok, z_tru_b, Bool.not_true, z_st_ok, Bool.false_eq_true, if_false, z_mSkip, z_seq_next, z_mSet, z_mBin, z_fSub, z_m1, z_mC, pl0, wsL, m0, List.set_cons_succ, List.set_cons_zero,
    z_mIte, z_mCmpT, plL, z_fGt, hd, z_toB, z_mCall, z_mCons, z_mNil, List.append_nil, a', z_mRet, b, z_fin_ret]
end Hk

set_option Elab.async false
set_option linter.all false
set_option maxRecDepth 100000
namespace Hk
open PySem PySem.Spec PyProof.Rows L2 Hf

theorem rd_mod {p : Pl} (x : Int) (st : Nat) : rdL p (x % (p.n : Int)) st = rdL p x st := by
  have e : (x % (p.n : Int) - (st : Int)) % (p.n : Int) = (x - (st : Int)) % (p.n : Int) := by rw [Int.sub_emod, Int.emod_emod, ← Int.sub_emod]
  unfold rdL
  rw [e]
theorem law_fronts_ok {p : Pl} (P : OkP p) {row : List Int} (hr : row ≠ []) (hr2 : row.length ≤ 10) (v : Int) (st : Nat) (hs : st ≤ 20) (i : Nat) (B : Bs) :
    f__law_fronts [plD p, wD row, .int (v % (p.n : Int)), .int st, .bool (decide (0 < i))] B = .ok (.lst ((itL i (rdL p v st)).map fun d => wD (frD i row d))) B := by
  by_cases h : i = 0
  · subst h
    exact law_fronts_no p row _ _ B
  · have e : decide (0 < i) = true := by simp; omega
    rw [e, law_fronts_yes P hr hr2 _ _ hs, rd_mod, itL, if_neg h, List.map_map]
    have e2 : ((fun d => wD (frD i row d)) ∘ D.int) = fun x => wD (x :: row.dropLast) := by
      funext x
      simp [frD, h]
    rw [e2]
theorem gt0 (i : Nat) (B : Bs) : fGt (.int (i : Int)) (.int 0) B = .ok (.bool (decide (0 < i))) B := by
  have : decide ((0 : Int) < (i : Int)) = decide (0 < i) := decide_eq_decide.mpr (by omega)
  rw [z_fGt, this]
theorem law_loop (a4 a5 : Int) (m1 m2 : List Int) (v0 v1 v2 v3 v6 v7 : Option (Bool × D)) (gs : List (List Int)) (v8 : Option (Bool × D)) (hg : gs.length ≤ 100) (B : Bs) : (ls : List (List Int)) → (acc : List D) → (o q : Option (Bool × D)) → acc.length + ls.length * gs.length ≤ 10000 →
    ∃ o', forL (gN 12) (mExt 10 (mLc [13] (gN 13) (mItems (mVar 9)) mYes (mBin fAdd (mTup (mCons (mVar 4) (mCons (mVar 5) (mCons (mVar 12) (mCons (mVar 13) mNil))))) (mVar 11)))) (ls.map wD)
      [v0, v1, v2, v3, some (false, .int a4), some (false, .int a5), v6, v7, v8, some (false, .lst (gs.map wD)), some (true, .lst acc), some (false, .tup [wD m1, wD m2]), o, q] B =
      .next [v0, v1, v2, v3, some (false, .int a4), some (false, .int a5), v6, v7, v8, some (false, .lst (gs.map wD)), some (true, .lst (acc ++ ls.flatMap fun l => gs.map fun g => D.tup [.int a4, .int a5, wD l, wD g, wD m1, wD m2])), some (false, .tup [wD m1, wD m2]), o', q] B
  | [], acc, o, q, _ => ⟨o, by simp [forL]⟩
  | l :: ls, acc, o, q, h => by
    have e0 : acc.length + gs.length + ls.length * gs.length ≤ 10000 := by
      rw [List.length_cons, Nat.add_mul, Nat.one_mul] at h; omega
    obtain ⟨o', ih⟩ := law_loop a4 a5 m1 m2 v0 v1 v2 v3 v6 v7 gs v8 hg B ls (acc ++ gs.map fun g => D.tup [.int a4, .int a5, wD l, wD g, wD m1, wD m2]) (some (false, wD l)) q (by simp; omega)
    refine ⟨o', ?_⟩
    have b := mLc_map (vs := [13]) (i := 13) (mi := mItems (mVar 9)) (me := mBin fAdd (mTup (mCons (mVar 4) (mCons (mVar 5) (mCons (mVar 12) (mCons (mVar 13) mNil))))) (mVar 11))
      (σ := [v0, v1, v2, v3, some (false, .int a4), some (false, .int a5), v6, v7, v8, some (false, .lst (gs.map wD)), some (true, .lst acc), some (false, .tup [wD m1, wD m2]), some (false, wD l), q]) (B := B) (ds := gs.map wD) wD (fun g => D.tup [.int a4, .int a5, wD l, wD g, wD m1, wD m2]) gs
      (by simp) rfl (Nat.le_trans (show _ ≤ 1000000 by omega) size_big) (fun g _ => by
        have y := add_tup (a := [D.int a4, D.int a5, wD l, wD g]) (b := [wD m1, wD m2]) (by simp) B
        have z : szL [D.int a4, D.int a5, wD l, wD g] = true := decide_eq_true (show 4 ≤ sizeLine by decide)
        simp only [wipeI, z_mBin, z_mTup, z_mCons, z_mNil, z_mVar, List.set_cons_succ, List.set_cons_zero, List.getElem?_cons_succ, List.getElem?_cons_zero, z_bind_ok, z, if_true, y]
        rfl)
    have hz : acc.length + (gs.map fun g => D.tup [.int a4, .int a5, wD l, wD g, wD m1, wD m2]).length ≤ sizeLine := Nat.le_trans (show _ ≤ 1000000 by simp; omega) size_big
    generalize hR : (gs.map fun g => D.tup [.int a4, .int a5, wD l, wD g, wD m1, wD m2]) = R at *
    rw [List.map_cons, forL]
    simp only [z_gN, List.set_cons_succ, List.set_cons_zero]
    have e3 : mExt 10 (mLc [13] (gN 13) (mItems (mVar 9)) mYes (mBin fAdd (mTup (mCons (mVar 4) (mCons (mVar 5) (mCons (mVar 12) (mCons (mVar 13) mNil))))) (mVar 11))) [v0, v1, v2, v3, some (false, .int a4), some (false, .int a5), v6, v7, v8, some (false, .lst (gs.map wD)), some (true, .lst acc), some (false, .tup [wD m1, wD m2]), some (false, wD l), q] B
        = .next [v0, v1, v2, v3, some (false, .int a4), some (false, .int a5), v6, v7, v8, some (false, .lst (gs.map wD)), some (true, .lst (acc ++ R)), some (false, .tup [wD m1, wD m2]), some (false, wD l), q] B := by
      simp only [mExt, List.getElem?_cons_succ, List.getElem?_cons_zero, b, z_st_ok]
      simp only [upO, List.getElem?_cons_succ, List.getElem?_cons_zero, seqOf, hz]
      simp [hz]
    simp only [e3, z_seq_next]
    rw [ih]
    simp [hR]
theorem law_next_ok {p : Pl} (P : OkP p) {s : St} (S : OkS p s) (i j : Nat) (B : Bs) : f__law_next [plD p, stD s, btD i j] B = .ok (ansD p s i j) B := by
  have m0 := law_moves_ok P S i j B
  have hm : f__law_next [plD p, stD s, btD i j] B = (m__law_next [some (false, plD p), some (false, stD s), some (false, btD i j), none, none, none, none, none, none, none, none, none, none, none] B).fin := by simp [f__law_next]
  rw [hm, m__law_next]
  cases hv : mvP p s i j with
  | full => simp [m0, hv, lvD, mvD, ansD]
  | empty => simp [m0, hv, lvD, mvD, ansD]
  | go a b =>
    rw [hv] at m0
    have n0 := P.n0
    have s1 := P.s1; have s3 := P.s3
    have l3 := S.pl; have l4 := S.tl
    have q0 := z_fMod ((s.put : Int) + b2i a) (p.n : Int) B n0
    have q1 := z_fMod ((s.taken : Int) + b2i b) (p.n : Int) B n0
    obtain ⟨c1, c2⟩ := st_le P S.pl S.pv a
    obtain ⟨c3, c4⟩ := st_le P S.tl S.tv b
    have u1 := fSumT_w (b2i a :: s.pu) B
    have u2 := fSumT_w (b2i b :: s.ta) B
    rw [List.sum_cons, ← c2] at u1
    rw [List.sum_cons, ← c4] at u2
    have f1 := law_fronts_ok P (S.lo_ne P) (by have := S.ll; have := P.a3; omega) ((s.taken : Int) + b2i b) (b2i b + s.ta.sum).toNat (by omega) i B
    have f2 := law_fronts_ok P (S.gl_ne P) (by have := S.gg; have := P.b3; omega) ((s.put : Int) + b2i a) (b2i a + s.pu.sum).toNat (by omega) j B
    have y1 := add_tup (a := [D.int (b2i a)]) (b := s.pu.map D.int) (by simp; omega) B
    have y2 := add_tup (a := [D.int (b2i b)]) (b := s.ta.map D.int) (by simp; omega) B
    have w1 : ∀ x : D, szL [x] = true := fun _ => decide_eq_true (show 1 ≤ sizeLine by decide)
    have w2 : ∀ q0 q1 : D, szL [q0, q1] = true := fun _ _ => decide_eq_true (show 2 ≤ sizeLine by decide)
    have z00 : szL [] = true := rfl
    have e3 : (p.sl : Int) - 1 = ((p.sl - 1 : Nat) : Int) := by omega
    have k3 : cut ((b2i a :: s.pu).map D.int) none (some ((p.sl - 1 : Nat) : Int)) = ((b2i a :: s.pu).take (p.sl - 1)).map D.int := by rw [cut_hi, List.map_take]
    have k4 : cut ((b2i b :: s.ta).map D.int) none (some ((p.sl - 1 : Nat) : Int)) = ((b2i b :: s.ta).take (p.sl - 1)).map D.int := by rw [cut_hi, List.map_take]
    have x0 : fIx (lvD (.go a b)) (.int 0) B = .ok (.int (b2i a)) B := rfl
    have x1 : fIx (lvD (.go a b)) (.int 1) B = .ok (.int (b2i b)) B := rfl
    have hL := itL_len (i := i) (rd_len P ((s.taken : Int) + b2i b) (b2i b + s.ta.sum).toNat)
    have hG := itL_len (i := j) (rd_len P ((s.put : Int) + b2i a) (b2i a + s.pu.sum).toNat)
    have d1 : (itL i (rdL p ((s.taken : Int) + b2i b) (b2i b + s.ta.sum).toNat)).map (fun d => wD (frD i s.lo d)) = ((itL i (lkL p s b)).map (frD i s.lo)).map wD := by rw [List.map_map]; rfl
    have d2 : (itL j (rdL p ((s.put : Int) + b2i a) (b2i a + s.pu.sum).toNat)).map (fun d => wD (frD j s.gl d)) = ((itL j (gkL p s a)).map (frD j s.gl)).map wD := by rw [List.map_map]; rfl
    rw [d1] at f1; rw [d2] at f2
    have hL' : (itL i (lkL p s b)).length ≤ 32 := hL
    have hG' : (itL j (gkL p s a)).length ≤ 32 := hG
    have so := nx_srt P S i j a b
    have g0 := Int.emod_nonneg ((s.put : Int) + b2i a) (show (p.n : Int) ≠ 0 by omega)
    have g1 := Int.emod_nonneg ((s.taken : Int) + b2i b) (show (p.n : Int) ≠ 0 by omega)
    have zf : (((itL i (lkL p s b)).map (frD i s.lo)).flatMap fun l => ((itL j (gkL p s a)).map (frD j s.gl)).map fun g => D.tup [.int (((s.put : Int) + b2i a) % (p.n : Int)), .int (((s.taken : Int) + b2i b) % (p.n : Int)), wD l, wD g, wD ((b2i a :: s.pu).take (p.sl - 1)), wD ((b2i b :: s.ta).take (p.sl - 1))]) = (nxL p s i j a b).map stD := by
      unfold nxL
      rw [List.map_flatMap, List.flatMap_map]
      congr 1
      funext dl
      rw [List.map_map, List.map_map]
      congr 1
      funext dg
      simp only [Function.comp, stD, nxS, Int.toNat_of_nonneg g0, Int.toNat_of_nonneg g1]
    have lg := fun v0 v1 v2 v3 v6 v7 v8 => law_loop (((s.put : Int) + b2i a) % (p.n : Int)) (((s.taken : Int) + b2i b) % (p.n : Int)) ((b2i a :: s.pu).take (p.sl - 1)) ((b2i b :: s.ta).take (p.sl - 1)) v0 v1 v2 v3 v6 v7 ((itL j (gkL p s a)).map (frD j s.gl)) v8 (by simp; omega) B ((itL i (lkL p s b)).map (frD i s.lo)) [] none none (by
      simp only [List.length_map, List.length_nil, Nat.zero_add]
      exact Nat.le_trans (Nat.mul_le_mul hL' hG') (by decide))
    simp only [zf, List.nil_append] at lg
    generalize ((s.put : Int) + b2i a) % (p.n : Int) = r0 at *
    generalize ((s.taken : Int) + b2i b) % (p.n : Int) = r1 at *
    generalize ((itL i (lkL p s b)).map (frD i s.lo)) = L at *
    generalize ((itL j (gkL p s a)).map (frD j s.gl)) = G at *
    generalize hA : (b2i a :: s.pu).take (p.sl - 1) = Ta at *
    generalize hB : (b2i b :: s.ta).take (p.sl - 1) = Tb at *
    generalize hN : (nxL p s i j a b).map stD = N at *
    have t0 : ∀ r : Sl, mT (mIsB .str (mVar 3)) (some (false, plD p) :: some (false, stD s) :: some (false, btD i j) :: some (false, lvD (.go a b)) :: r) B = .ok false B := fun r => rfl
    have y1' : fAdd (.tup [.int (b2i a)]) (wD s.pu) B = .ok (wD (b2i a :: s.pu)) B := y1
    have y2' : fAdd (.tup [.int (b2i b)]) (wD s.ta) B = .ok (wD (b2i b :: s.ta)) B := y2
    have k3' : fSl (wD (b2i a :: s.pu)) none (some ((p.sl - 1 : Nat) : Int)) B = .ok (wD Ta) B := by rw [fSl, k3]
    have k4' : fSl (wD (b2i b :: s.ta)) none (some ((p.sl - 1 : Nat) : Int)) B = .ok (wD Tb) B := by rw [fSl, k4]
    have so' : fSrtG (.lst N) B = .ok (.lst N) B := by rw [fSrtG, if_pos so]
    obtain ⟨o', lg⟩ := lg (some (false, plD p)) (some (false, stD s)) (some (false, btD i j)) (some (false, lvD (.go a b))) (some (false, wD (b2i a :: s.pu))) (some (false, wD (b2i b :: s.ta))) (some (false, .lst (L.map wD)))
    have an : ansD p s i j = .tup N := by rw [ansD, hv, ← hN]
    rw [an]
    have q0' : fMod (.int ((s.put : Int) + b2i a)) (.int (p.n : Int)) B = .ok (.int r0) B := q0
    have q1' : fMod (.int ((s.taken : Int) + b2i b)) (.int (p.n : Int)) B = .ok (.int r1) B := q1
    simp only [z_mSeq, z_mSet, z_mCall, z_mCons, z_mNil, z_mVar, List.getElem?_cons_succ, List.getElem?_cons_zero, z_bind_ok, List.append_nil, m0, z_st_ok, List.set_cons_succ, List.set_cons_zero, z_seq_next, z_mIf, t0, Bool.false_eq_true, if_false, z_mSkip,
      z_mBin, st0, st1, st2, st3, st4, st5, z_mC, x0, x1, z_fAddI, z_m1, pl0, wsL, q0', q1', z_mAsg, z_mTup, w1, if_true, y1', y2', w2, z_gT, z_gsC, z_gN, z_gs0, Option.bind_some, u1, u2, bt0, bt1, gt0, f1, f2, mPar2F, z_mLst, z00,
      z_mSl01, pl4, z_fSub, e3, z_asI, k3', k4', mFor, z_mItems, z_it_l, lg, z_mRet, z_mBor, so', z_tupL, z_fin_ret]
end Hk

set_option Elab.async false
set_option linter.all false
set_option maxRecDepth 100000
namespace Hk
open PySem PySem.Spec PyProof.Rows L2 Hf

/-! ### bridges made of plans, states drawn -/
theorem coded_ok {m : Nat} {ws : List (List Int)} (W : OkW m ws) (B : Bs) : f__law_coded [wsD ws] B = .ok (codeD ws) B := by
  have hs : ws.length ≤ sizeLine := Nat.le_trans (Nat.le_trans W.n16 (by decide)) size_big
  have a1 := mLc_map (vs := [2]) (i := 2) (mi := mItems (mVar 0)) (me := (mBin fAdd (mMeth fJoin (mC (.str (Str.ofString ""))) (mLc [3] (gN 3) (mItems (mVar 2)) mYes (m1 fStrI (mVar 3)))) (mC (.str (Str.ofString "\n"))))) (σ := [some (false, wsD ws), none, none, none]) (B := B)
    (ds := ws.map wD) wD (fun w => D.str (mkS (cW w ++ [10]))) ws (by simp) rfl hs (fun w h => by
      have hw := wl_ok W h
      have b1 := mLc_map (vs := [3]) (i := 3) (mi := mItems (mVar 2)) (me := m1 fStrI (mVar 3)) (σ := [some (false, wsD ws), none, some (false, wD w), none]) (B := B) (ds := w.map D.int) D.int (fun b => D.str (mkS [(48 + b).toNat])) w (by simp) rfl (Nat.le_trans (Nat.le_trans hw (by decide)) size_big)
        (fun b hb => by simp [wipeI, strI_bit (W.bits w h b hb)])
      have b2 := join_nil_ok (fun b : Int => [(48 + b).toNat]) w (by rw [flat_one]; simp; omega) B
      have b3 : (w.map fun b : Int => [(48 + b).toNat]).flatten = cW w := flat_one _ w
      rw [b3] at b2
      simp [wipeI, b1, b2, ofS_nl]
      exact add_str (by simp; omega) B)
  simp [f__law_coded, m__law_coded, a1, lines_join W, read_ok W]
theorem built_ok {p : Pl} (P : OkP p) (B : Bs) : f__law_built [plD p] B = .ok (brD p) B := by
  have a := coded_ok P.W B
  have b := bridge_init_ok P B
  generalize codeD p.ws = cd at *
  simp [f__law_built, m__law_built, pl0, pl1, pl2, pl3, pl4, a, b]
theorem inc_len {b : Int} : (l : List Int) → (a : Int) → l.Pairwise (· < ·) → (∀ x ∈ l, a ≤ x ∧ x < b) → l.length ≤ (b - a).toNat
  | [], _, _, _ => by simp
  | x :: l, a, h, hb => by
    rw [List.pairwise_cons] at h
    have := inc_len l (x + 1) h.2 fun y hy => ⟨h.1 y hy, (hb y (List.mem_cons_of_mem _ hy)).2⟩
    have := hb x (List.mem_cons_self ..)
    simp
    omega
theorem rd_n {p : Pl} (P : OkP p) (v : Int) (st : Nat) : (rdL p v st).length ≤ 17 := by
  have h1 : (rdL p v st).Pairwise (· < ·) := sn_inc _ _ _ _
  have h2 : ∀ x ∈ rdL p v st, -1 ≤ x ∧ x < (p.ws.length : Int) := sn_bd
  have := inc_len _ (-1) h1 h2
  have := P.W.n16
  omega
theorem rd_bd {p : Pl} (v : Int) (st : Nat) : ∀ x ∈ rdL p v st, -1 ≤ x ∧ x < (p.n : Int) := sn_bd
theorem sm_ints {l : List Int} (h : ∀ x ∈ l, -20 ≤ x ∧ x ≤ 600) {k : Nat} (hl : l.length ≤ k) : Sm 1 (k * 11) (wD l) :=
  (sm_tup (k := 0) (n := 10) (ds := l.map D.int) (by
    intro d hd
    obtain ⟨x, hx, rfl⟩ := List.mem_map.mp hd
    exact sm_int (h x hx).1 (h x hx).2)).mono (Nat.le_refl _) (by simpa using Nat.mul_le_mul_right 11 hl)
theorem sm_lints {l : List Int} (h : ∀ x ∈ l, -20 ≤ x ∧ x ≤ 600) {k : Nat} (hl : l.length ≤ k) : Sm 1 (k * 11) (.lst (l.map D.int)) :=
  (sm_lst (k := 0) (n := 10) (ds := l.map D.int) (by
    intro d hd
    obtain ⟨x, hx, rfl⟩ := List.mem_map.mp hd
    exact sm_int (h x hx).1 (h x hx).2)).mono (Nat.le_refl _) (by simpa using Nat.mul_le_mul_right 11 hl)
/-- states whose texts are short -/
structure SmS (s : St) : Prop where
  p : s.put ≤ 600
  t : s.taken ≤ 600
  l : s.lo.length ≤ 4 ∧ ∀ x ∈ s.lo, -20 ≤ x ∧ x ≤ 600
  g : s.gl.length ≤ 4 ∧ ∀ x ∈ s.gl, -20 ≤ x ∧ x ≤ 600
  u : s.pu.length ≤ 4 ∧ ∀ x ∈ s.pu, -20 ≤ x ∧ x ≤ 600
  v : s.ta.length ≤ 4 ∧ ∀ x ∈ s.ta, -20 ≤ x ∧ x ≤ 600
theorem SmS.sm {s : St} (h : SmS s) : Sm 2 270 (stD s) :=
  sm_tup (k := 1) (n := 44) (ds := [.int s.put, .int s.taken, wD s.lo, wD s.gl, wD s.pu, wD s.ta]) (by
    intro d hd
    simp only [List.mem_cons, List.not_mem_nil, or_false] at hd
    rcases hd with rfl | rfl | rfl | rfl | rfl | rfl
    · exact (sm_nat h.p).mono (by decide) (by decide)
    · exact (sm_nat h.t).mono (by decide) (by decide)
    · exact sm_ints h.l.2 h.l.1
    · exact sm_ints h.g.2 h.g.1
    · exact sm_ints h.u.2 h.u.1
    · exact sm_ints h.v.2 h.v.1)
theorem OkS.sms {p : Pl} (P : OkP p) {s : St} (S : OkS p s) : SmS s := by
  have h16 : p.n ≤ 16 := P.W.n16
  have a3 := P.a3; have b3 := P.b3; have s3 := P.s3
  have h1 := S.p1; have h2 := S.t1; have h3 := S.ll; have h4 := S.gg; have h5 := S.pl; have h6 := S.tl
  exact ⟨by omega, by omega, ⟨by omega, fun x hx => by have := S.lv x hx; omega⟩, ⟨by omega, fun x hx => by have := S.gv x hx; omega⟩,
    ⟨by omega, fun x hx => by have := S.pv x hx; omega⟩, ⟨by omega, fun x hx => by have := S.tv x hx; omega⟩⟩
theorem fr_ok {p : Pl} {i : Nat} {row l : List Int} (hr : row ≠ []) (hv : ∀ x ∈ row, -1 ≤ x ∧ x < (p.n : Int)) (hl : ∀ x ∈ l, -1 ≤ x ∧ x < (p.n : Int)) {d : D} (hd : d ∈ itL i l) : (frD i row d).length = row.length ∧ ∀ x ∈ frD i row d, -1 ≤ x ∧ x < (p.n : Int) := by
  refine ⟨fr_len hr hd, fun x hx => ?_⟩
  by_cases hi : i = 0
  · have : frD i row d = row := by cases d <;> simp [frD, hi]
    rw [this] at hx
    exact hv x hx
  · obtain ⟨y, rfl, hy⟩ := itL_int hd hi
    simp only [frD, if_neg hi, List.mem_cons] at hx
    rcases hx with rfl | hx
    · exact hl _ hy
    · exact hv x (List.dropLast_subset _ hx)
/-- what comes behind a state is a state -/
theorem nx_ok {p : Pl} (P : OkP p) {s : St} (S : OkS p s) (i j : Nat) (a b : Bool) : ∀ t ∈ nxL p s i j a b, OkS p t := by
  intro t ht
  simp only [nxL, List.mem_flatMap, List.mem_map] at ht
  obtain ⟨dl, h1, dg, h2, rfl⟩ := ht
  have n0 := P.n0
  have e1 := Int.emod_lt_of_pos ((s.put : Int) + b2i a) n0
  have e2 := Int.emod_lt_of_pos ((s.taken : Int) + b2i b) n0
  obtain ⟨f1, f2⟩ := fr_ok (S.lo_ne P) S.lv (rd_bd _ _) h1
  obtain ⟨g1, g2⟩ := fr_ok (S.gl_ne P) S.gv (rd_bd _ _) h2
  have s1 := P.s1
  have tk : ∀ (c : Bool) (l : List Int), l.length = p.sl - 1 → (∀ x ∈ l, x = 0 ∨ x = 1) → ((b2i c :: l).take (p.sl - 1)).length = p.sl - 1 ∧ ∀ x ∈ (b2i c :: l).take (p.sl - 1), x = 0 ∨ x = 1 := fun c l hl hv => by
    refine ⟨by simp; omega, fun x hx => ?_⟩
    rcases List.mem_cons.mp (List.mem_of_mem_take hx) with rfl | hx
    · cases c <;> simp [b2i]
    · exact hv x hx
  obtain ⟨p1, p2⟩ := tk a s.pu S.pl S.pv
  obtain ⟨p3, p4⟩ := tk b s.ta S.tl S.tv
  exact ⟨by simp only [nxS]; omega, by simp only [nxS]; omega, f1.trans S.ll, f2, g1.trans S.gg, g2, p1, p2, p3, p4⟩
theorem nx_n {p : Pl} (P : OkP p) (s : St) (i j : Nat) (a b : Bool) : (nxL p s i j a b).length ≤ 289 := by
  have l17 : ∀ (i : Nat) (l : List Int), l.length ≤ 17 → (itL i l).length ≤ 17 := fun i l h => by
    unfold itL
    split <;> simp
    exact h
  have hL : (itL i (lkL p s b)).length ≤ 17 := l17 _ _ (rd_n P _ _)
  have hG : (itL j (gkL p s a)).length ≤ 17 := l17 _ _ (rd_n P _ _)
  unfold nxL
  generalize itL i (lkL p s b) = L at *
  generalize itL j (gkL p s a) = G at *
  have : ∀ L : List D, (L.flatMap fun dl => G.map fun dg => nxS p s i j a b dl dg).length ≤ L.length * 17 := by
    intro L
    induction L with
    | nil => simp
    | cons x L ih => simp only [List.flatMap_cons, List.length_append, List.length_map, List.length_cons]; omega
  have := this L
  omega
theorem nx_sm {p : Pl} (P : OkP p) {s : St} (S : OkS p s) (i j : Nat) (a b : Bool) : Sm 3 80000 (.tup ((nxL p s i j a b).map stD)) :=
  (sm_tup (k := 2) (n := 270) (by
    intro d hd
    obtain ⟨t, ht, rfl⟩ := List.mem_map.mp hd
    exact ((nx_ok P S i j a b t ht).sms P).sm)).mono (Nat.le_refl _) (by
    have := nx_n P s i j a b
    simp
    omega)
end Hk

set_option Elab.async false
set_option linter.all false
set_option maxRecDepth 100000
namespace Hk
open PySem PySem.Spec PyProof.Rows L2 Hf

/-! ### drawn states -/
theorem draws_g {n : Nat} {vs : List Nat} {σ : Sl} {i : Nat} {mi : Ei} {me : Ev} {len : Nat} {B : Bs} {ds : List D} (hi : mi σ B = .ok ds B) (hd : ds.length = len) (hl : len ≤ 1000) (P : PenOk B n) (Q : Int → Prop)
    (h : ∀ B d, PenOk B n → ∃ v B', me ((wipeI σ vs).set i (some (false, d))) B = .ok (.int v) B' ∧ Q v ∧ PenOk B' n) :
    ∃ (l : List Int) (B' : Bs), mLc vs (gN i) mi mYes me σ B = .ok (.lst (l.map D.int)) B' ∧ l.length = len ∧ (∀ x ∈ l, Q x) ∧ PenOk B' n := by
  obtain ⟨es, B', h1, ⟨h2, l, h3, h4⟩, h5⟩ := mLc_inv (vs := vs) (i := i) (mi := mi) (me := me) (σ := σ) (B := B) (ds := ds) (fun B acc => PenOk B n ∧ ∃ l : List Int, acc = l.map D.int ∧ ∀ x ∈ l, Q x)
    hi (Nat.le_trans (show _ ≤ 1000000 by omega) size_big) ⟨P, [], rfl, by simp⟩ (by
      rintro d _ B acc _ ⟨P, l, rfl, hl⟩
      obtain ⟨v, B', e, q, P'⟩ := h B d P
      exact ⟨.int v, B', e, P', l ++ [v], by simp, fun x hx => by
        rcases List.mem_append.mp hx with hx | hx
        · exact hl x hx
        · rw [List.mem_singleton.mp hx]; exact q⟩)
  subst h3
  exact ⟨l, B', h1, by simpa [hd] using h5, h4, h2⟩
theorem rngN (n : Nat) (h : n ≤ 1000) : rngB (n : Int) = true := rngB_nat (by omega)
theorem law_formed_ok {p : Pl} (Pp : OkP p) {n : Nat} {B : Bs} (P : PenOk B n) : ∃ s B', f__law_formed [.box n, plD p] B = .ok (stD s) B' ∧ OkS p s ∧ PenOk B' n := by
  have h16 : p.n ≤ 16 := Pp.W.n16
  have n0 := Pp.n0
  have a3 := Pp.a3; have b3 := Pp.b3; have s1 := Pp.s1; have s3 := Pp.s3
  have e3 : (p.sl : Int) - 1 = ((p.sl - 1 : Nat) : Int) := by omega
  have w2 : ∀ q0 q1 : D, szL [q0, q1] = true := fun _ _ => decide_eq_true (show 2 ≤ sizeLine by decide)
  have w6 : ∀ q0 q1 q2 q3 q4 q5 : D, szL [q0, q1, q2, q3, q4, q5] = true := fun _ _ _ _ _ _ => decide_eq_true (show 6 ≤ sizeLine by decide)
  have r1 := rngN p.ah (by omega)
  have r2 := rngN p.be (by omega)
  have r3 := rngN (p.sl - 1) (by omega)
  have body1 : ∀ (B : Bs) (v5 v6 v7 v8 d : Option (Bool × D)) (x4 : Option (Bool × D)), PenOk B n → ∃ v B', mBin fSub (mCall f__law_draw [] (mCons (mVar 0) (mCons (mBin fAdd (mVar 2) (mC (.int 1))) mNil))) (mC (.int 1)) [some (false, .box n), some (false, plD p), some (false, .int (p.n : Int)), some (false, .int ((p.sl - 1 : Nat) : Int)), x4, v5, v6, v7, v8] B = .ok (.int v) B' ∧ (-1 ≤ v ∧ v < (p.n : Int)) ∧ PenOk B' n := fun B v5 v6 v7 v8 d x4 P => by
    obtain ⟨v, B', e, h0, h1, S⟩ := law_draw_ok (k := (p.n : Int) + 1) P (by omega) (by omega)
    exact ⟨v - 1, B', by simp [e], by omega, S.ok⟩
  obtain ⟨l1, B1, c1, c2, c3, P1⟩ := draws_g (vs := [5]) (i := 5) (σ := [some (false, .box n), some (false, plD p), some (false, .int (p.n : Int)), some (false, .int ((p.sl - 1 : Nat) : Int)), none, none, none, none, none]) (mi := mRng1 (mBin fIx (mVar 1) (mC (.int 2))))
    (me := mBin fSub (mCall f__law_draw [] (mCons (mVar 0) (mCons (mBin fAdd (mVar 2) (mC (.int 1))) mNil))) (mC (.int 1))) (len := p.ah) (B := B) (ds := rngD 0 p.ah) (by simp [pl2, r1]) (rngD_len _ _) (by omega) P (fun x => -1 ≤ x ∧ x < (p.n : Int)) (fun B d P => by
      obtain ⟨v, B', e, q⟩ := body1 B (some (false, d)) none none none none none P
      exact ⟨v, B', by simpa [wipeI] using e, q⟩)
  obtain ⟨l2, B2, d1, d2, d3, P2⟩ := draws_g (vs := [5]) (i := 5) (σ := [some (false, .box n), some (false, plD p), some (false, .int (p.n : Int)), some (false, .int ((p.sl - 1 : Nat) : Int)), some (false, wD l1), none, none, none, none]) (mi := mRng1 (mBin fIx (mVar 1) (mC (.int 3))))
    (me := mBin fSub (mCall f__law_draw [] (mCons (mVar 0) (mCons (mBin fAdd (mVar 2) (mC (.int 1))) mNil))) (mC (.int 1))) (len := p.be) (B := B1) (ds := rngD 0 p.be) (by simp [pl3, r2]) (rngD_len _ _) (by omega) P1 (fun x => -1 ≤ x ∧ x < (p.n : Int)) (fun B d P => by
      obtain ⟨v, B', e, q⟩ := body1 B (some (false, d)) none none none none (some (false, wD l1)) P
      exact ⟨v, B', by simpa [wipeI] using e, q⟩)
  obtain ⟨es, B3, f1, ⟨P3, ls, f3, f4⟩, f5⟩ := mLc_inv (vs := [8]) (i := 8) (mi := mItems (mTup (mCons (mC (.int 0)) (mCons (mC (.int 1)) mNil)))) (me := m1 fTupO (mLc [5] (gN 5) (mRng1 (mVar 3)) mYes (mCall f__law_draw [] (mCons (mVar 0) (mCons (mC (.int 2)) mNil)))))
    (σ := [some (false, .box n), some (false, plD p), some (false, .int (p.n : Int)), some (false, .int ((p.sl - 1 : Nat) : Int)), some (false, wD l1), none, some (false, wD l2), none, none]) (B := B2) (ds := [D.int 0, D.int 1]) (fun B acc => PenOk B n ∧ ∃ ls : List (List Int), acc = ls.map wD ∧ ∀ l ∈ ls, l.length = p.sl - 1 ∧ ∀ x ∈ l, x = 0 ∨ x = 1)
    (by simp [w2]) (by decide) ⟨P2, [], rfl, by simp⟩ (by
      rintro d _ B acc _ ⟨P, ls, rfl, hl⟩
      obtain ⟨l, B', q1, q2, q3, q4⟩ := draws_g (vs := [5]) (i := 5) (σ := [some (false, .box n), some (false, plD p), some (false, .int (p.n : Int)), some (false, .int ((p.sl - 1 : Nat) : Int)), some (false, wD l1), none, some (false, wD l2), none, some (false, d)]) (mi := mRng1 (mVar 3))
        (me := mCall f__law_draw [] (mCons (mVar 0) (mCons (mC (.int 2)) mNil))) (len := p.sl - 1) (B := B) (ds := rngD 0 (p.sl - 1)) (by simp [r3]) (rngD_len _ _) (by omega) P (fun x => x = 0 ∨ x = 1) (fun B d P => by
          obtain ⟨v, B', e, h0, h1, S⟩ := law_draw_ok (k := 2) P (by omega) (by omega)
          exact ⟨v, B', by simpa [wipeI] using e, by omega, S.ok⟩)
      refine ⟨wD l, B', by simp [wipeI, q1], q4, ls ++ [l], by simp, fun u hu => ?_⟩
      rcases List.mem_append.mp hu with hu | hu
      · exact hl u hu
      · rw [List.mem_singleton.mp hu]; exact ⟨q2, q3⟩)
  subst f3
  obtain ⟨u, v, rfl⟩ : ∃ u v, ls = [u, v] := by
    have : ls.length = 2 := by simpa using f5
    match ls, this with
    | [u, v], _ => exact ⟨u, v, rfl⟩
  obtain ⟨x, B4, g1, g2, g3, S4⟩ := law_draw_ok (k := (p.n : Int)) P3 (by omega) (by omega)
  obtain ⟨y, B5, g4, g5, g6, S5⟩ := law_draw_ok (k := (p.n : Int)) S4.ok (by omega) (by omega)
  have hu := f4 u (by simp)
  have hv := f4 v (by simp)
  have ex : x = ((x.toNat : Nat) : Int) := by omega
  have ey : y = ((y.toNat : Nat) : Int) := by omega
  refine ⟨⟨x.toNat, y.toNat, l1, l2, u, v⟩, B5, ?_, ⟨by show x.toNat < _; omega, by show y.toNat < _; omega, c2, c3, d2, d3, hu.1, hu.2, hv.1, hv.2⟩, S5.ok⟩
  have hm : f__law_formed [.box n, plD p] B = (m__law_formed [some (false, .box n), some (false, plD p), none, none, none, none, none, none, none] B).fin := by simp [f__law_formed]
  have i0 : ∀ B, fIx (.lst [wD u, wD v]) (.int 0) B = .ok (wD u) B := fun B => rfl
  have i1 : ∀ B, fIx (.lst [wD u, wD v]) (.int 1) B = .ok (wD v) B := fun B => rfl
  have zf : stD ⟨x.toNat, y.toNat, l1, l2, u, v⟩ = .tup [.int x, .int y, wD l1, wD l2, wD u, wD v] := by
    simp only [stD, ← ex, ← ey]
  rw [hm, m__law_formed, zf]
  have f1' : mLc [8] (gN 8) (mItems (mTup (mCons (mC (.int 0)) (mCons (mC (.int 1)) mNil)))) mYes (m1 fTupO (mLc [5] (gN 5) (mRng1 (mVar 3)) mYes (mCall f__law_draw [] (mCons (mVar 0) (mCons (mC (.int 2)) mNil)))))
    [some (false, .box n), some (false, plD p), some (false, .int (p.n : Int)), some (false, .int ((p.sl - 1 : Nat) : Int)), some (false, wD l1), none, some (false, wD l2), none, none] B2 = .ok (.lst [wD u, wD v]) B3 := f1
  simp only [z_mSeq, z_mAsg, z_mTup, z_mCons, z_mNil, z_m1, z_mBin, z_mVar, z_mC, List.getElem?_cons_succ, List.getElem?_cons_zero, z_bind_ok, pl0, wsL, pl4, z_fSub, e3, w2, if_true, z_st_ok, z_gT, z_gsC, z_gN, z_gs0, Option.bind_some, List.set_cons_succ, List.set_cons_zero, z_seq_next,
    z_mSet, c1, z_tupL, d1, f1', z_mRet, z_mCall, List.append_nil, g1, g4, i0, i1, w6, z_fin_ret]
theorem sparse_ok {n : Nat} {B : Bs} (P : PenOk B n) : ∃ ws B', f__law_sparse [.box n] B = .ok (wsD ws) B' ∧ OkW 3 ws ∧ 3 ≤ ws.length ∧ ws.length ≤ 6 ∧ PenOk B' n := by
  obtain ⟨e, A, l⟩ := all_words_ok (m := 3) (by decide) (by decide) B
  have hsh : ∀ us : List D, (∀ d ∈ us, d ∈ (alW 3).map wD) → shp (.lst us) = true := fun us h =>
    (sm_lst (k := 1) (n := 55) (fun d hd => by
      obtain ⟨w, hw, rfl⟩ := List.mem_map.mp (h d hd)
      exact sm_w (A.bits w hw) (by have := A.wid w hw; omega))).shp (by decide)
  obtain ⟨es, B1, e1, p, P1⟩ := law_mixed_ok (ds := (alW 3).map wD) P (by simp [l]) hsh
  obtain ⟨us, rfl, q⟩ := perm_map_inv wD p.symm rfl
  obtain ⟨k, B2, e2, k0, k1, S⟩ := law_draw_ok (k := 4) P1 (by omega) (by omega)
  have ul : us.length = 8 := by rw [q.length_eq, l]
  have ek : (3 : Int) + k = ((3 + k.toNat : Nat) : Int) := by omega
  have c := cut_hi (us.map wD) (3 + k.toNat)
  rw [← ek] at c
  refine ⟨us.take (3 + k.toNat), B2, ?_, A.some (by decide) (by decide) q (by omega) (by omega) (by omega), by simp; omega, by simp; omega, S.ok⟩
  have e' : f__law_all_words [D.int 3] B = .ok (.lst ((alW 3).map wD)) B := e
  simp [f__law_sparse, m__law_sparse, e', e1, e2]
  simp only [fSl, c]
  simp
end Hk

set_option Elab.async false
set_option linter.all false
set_option maxRecDepth 100000
namespace Hk
open PySem PySem.Spec PyProof.Rows L2 Hf

/-! ### law_k56 -/
theorem fMul_rep (d : D) (k : Nat) (h : k < 1000) (B : Bs) : fMul (.tup [d]) (.int (k : Int)) B = .ok (.tup (List.replicate k d)) B := by
  have h1 : decide ((k : Int) < 1000) = true := by simp; omega
  have h2 : decide ((-1000 : Int) < (k : Int)) = true := by simp; omega
  have h3 : decide (([d] : List D).length ≤ 1000) = true := by simp
  have e : (List.replicate k [d]).flatten = List.replicate k d := by
    induction k with
    | zero => rfl
    | succ k ih => rw [List.replicate_succ, List.flatten_cons, ih (by omega) (by simp; omega) (by simp; omega)]; rfl
  rw [fMul, h1, h2, h3]
  simp [e]
theorem repW (x : Int) (k : Nat) : D.tup (List.replicate k (.int x)) = wD (List.replicate k x) := by simp
/-- a window of one value shows it alone -/
theorem prd_one {w : List Int} {m : Nat} (hw : w.length = m) (hb : ∀ b ∈ w, b = 0 ∨ b = 1) : (k : Nat) → k ≤ m → prdW [w] k = [w.take k]
  | 0, _ => by simp [prdW]
  | k + 1, h => by
    have ih := prd_one hw hb k (by omega)
    have hk : k < w.length := by omega
    have hc : cbit [w] k = [w[k]] := by
      have h1 := hb w[k] (List.getElem_mem hk)
      simp only [cbit, col, List.map_cons, List.map_nil, getElem!_pos w k hk]
      rcases h1 with h1 | h1 <;> rw [h1] <;> rfl
    rw [prdW, ih, List.flatMap_cons, hc]
    simp [List.take_append_getElem hk]
theorem sn_zero {m : Nat} {ws : List (List Int)} (W : OkW m ws) {v : Nat} (hv : v < ws.length) : snW ws m v 0 = [(v : Int)] := by
  have e : wiW ws v 0 = [ws[v]] := by
    have : (v + 0) % ws.length = v := Nat.mod_eq_of_lt hv
    simp only [wiW, wiN, List.range_succ, List.range_zero, List.nil_append, List.map_cons, List.map_nil, this, getElem!_pos ws v hv]
  have hw := W.wid ws[v] (List.getElem_mem hv)
  have p := prd_one hw (W.bits _ (List.getElem_mem hv)) m (Nat.le_refl _)
  rw [List.take_of_length_le (by omega)] at p
  have f : fdW ws ws[v] = (v : Int) := by
    unfold fdW
    rw [if_pos (List.getElem_mem hv)]
    have := W.nd.idxOf_getElem v hv
    omega
  unfold snW
  rw [e, p, List.map_cons, f]
  rfl
def stand (p : Pl) (v : Nat) : St := ⟨v, v, List.replicate p.ah (v : Int), List.replicate p.be (v : Int), List.replicate (p.sl - 1) 0, List.replicate (p.sl - 1) 0⟩
theorem stand_ok {p : Pl} {v : Nat} (h : v < p.n) : OkS p (stand p v) :=
  ⟨h, h, by simp [stand], fun x hx => by rw [(List.mem_replicate.mp hx).2]; omega, by simp [stand], fun x hx => by rw [(List.mem_replicate.mp hx).2]; omega, by simp [stand], fun x hx => .inl (List.mem_replicate.mp hx).2, by simp [stand], fun x hx => .inl (List.mem_replicate.mp hx).2⟩
theorem sum0 (k : Nat) : (List.replicate k (0 : Int)).sum = 0 := by induction k with
  | zero => rfl
  | succ k ih => rw [List.replicate_succ, List.sum_cons, ih]; rfl
theorem stand_mv {p : Pl} (P : OkP p) {v : Nat} (h : v < p.n) : mvP p (stand p v) 2 1 = .go true false := by
  have l1 : lastI (stand p v).lo = (v : Int) := (List.mem_replicate.mp (lastI_mem ((stand_ok h).lo_ne P))).2
  have d1 := P.d1
  have d0 : (0 : Int) < (p.dp : Int) := by omega
  have d2 : ¬ (p.dp : Int) ≤ 0 := by omega
  have e : putsB p (stand p v) 2 = true := by
    rw [putsB, l1]
    have : ((v : Int) ≠ -1) := by omega
    simp [stand, this]
    omega
  have f : takesB p (stand p v) 1 = false := by simp [takesB]
  rw [mvP, e, f]
  simp [stand]
  omega
theorem stand_nx {p : Pl} (P : OkP p) {v : Nat} (h : v < p.n) : ∃ xs : List St, nxL p (stand p v) 2 1 true false = xs ∧ xs.map (fun t => t.gl.head?.getD 0) = snW p.ws p.m v 1 ∧ ∀ t ∈ xs, t.gl ≠ [] := by
  refine ⟨_, rfl, ?_, fun t ht => (nx_ok P (stand_ok h) 2 1 true false t ht).gl_ne P⟩
  have n0 := P.n0
  have e1 : lkL p (stand p v) false = [(v : Int)] := by
    have e0 : ((((v : Int) + 0) - ((0 : Nat) : Int)) % (p.n : Int)).toNat = v := by
      have : (v : Int) % (p.n : Int) = v := Int.emod_eq_of_lt (by omega) (by omega)
      simp [this]
    have z : (b2i false + (stand p v).ta.sum).toNat = 0 := by simp [stand, sum0, b2i]
    rw [lkL, z, rdL]
    show snW p.ws p.m ((((v : Int) + 0) - ((0 : Nat) : Int)) % (p.n : Int)).toNat 0 = _
    rw [e0]
    exact sn_zero P.W h
  have e2 : gkL p (stand p v) true = snW p.ws p.m v 1 := by
    have e0 : ((((v : Int) + 1) - ((1 : Nat) : Int)) % (p.n : Int)).toNat = v := by
      have : (v : Int) % (p.n : Int) = v := Int.emod_eq_of_lt (by omega) (by omega)
      have e : ((v : Int) + 1) - ((1 : Nat) : Int) = v := by omega
      rw [e, this]; omega
    have z : (b2i true + (stand p v).pu.sum).toNat = 1 := by simp [stand, sum0, b2i]
    rw [gkL, z, rdL]
    show snW p.ws p.m ((((v : Int) + 1) - ((1 : Nat) : Int)) % (p.n : Int)).toNat 1 = _
    rw [e0]
  unfold nxL
  rw [e1, e2]
  simp [itL, nxS, frD, Function.comp_def]
theorem law_steps_ok {p : Pl} (P : OkP p) (B : Bs) : f__law_steps_right [brD p, plD p] B = .ok (.bool true) B := by
  have h16 : p.n ≤ 16 := P.W.n16
  have a3 := P.a3; have b3 := P.b3; have s3 := P.s3; have s1 := P.s1
  have e3 : (p.sl : Int) - 1 = ((p.sl - 1 : Nat) : Int) := by omega
  have r1 := rngN p.n (by omega)
  have w1 : ∀ x : D, szL [x] = true := fun _ => decide_eq_true (show 1 ≤ sizeLine by decide)
  have w2 : ∀ q0 q1 : D, szL [q0, q1] = true := fun _ _ => decide_eq_true (show 2 ≤ sizeLine by decide)
  have w6 : ∀ q0 q1 q2 q3 q4 q5 : D, szL [q0, q1, q2, q3, q4, q5] = true := fun _ _ _ _ _ _ => decide_eq_true (show 6 ≤ sizeLine by decide)
  obtain ⟨σ', B', e1, rfl, a4, a5, a6, a7, rfl⟩ := forL_inv (t := gN 3) (b := (mSeq (mSet 4 (mTup (mCons (mVar 3) (mCons (mVar 3) (mCons (mBin fMul (mTup (mCons (mVar 3) mNil)) (mBin fIx (mVar 1) (mC (.int 2)))) (mCons (mBin fMul (mTup (mCons (mVar 3) mNil)) (mBin fIx (mVar 1) (mC (.int 3)))) (mCons (mBin fMul (mTup (mCons (mC (.int 0)) mNil)) (mBin fSub (mBin fIx (mVar 1) (mC (.int 4))) (mC (.int 1)))) (mCons (mBin fMul (mTup (mCons (mC (.int 0)) mNil)) (mBin fSub (mBin fIx (mVar 1) (mC (.int 4))) (mC (.int 1)))) mNil))))))))
      (mSeq (mSet 5 (mCallO 1 f_BridgeX_callX (mVar 0) (mCons (mVar 4) (mCons (mTup (mCons (mC (.int 2)) (mCons (mC (.int 1)) mNil))) mNil))))
      (mSeq (mIf (mNotT (mT (mIsB .tuple (mVar 5)))) (mRet (mC (.bool false))) mSkip)
      (mIf (mNotT (mT (mCall f__law_same [] (mCons (mLc [6] (gN 6) (mItems (mVar 5)) mYes (mBin fIx (mBin fIx (mVar 6) (mC (.int 3))) (mC (.int 0)))) (mCons (mCall f__law_seen [] (mCons (mVar 2) (mCons (mVar 3) (mCons (mC (.int 1)) mNil)))) mNil))))) (mRet (mC (.bool false))) mSkip)))))
    (fun _ σ B' => B' = B ∧ ∃ a4 a5 a6 a7, σ = [some (false, brD p), some (false, plD p), some (false, wsD p.ws), a4, a5, a6, a7]) (rngD 0 p.n) 0 [some (false, brD p), some (false, plD p), some (false, wsD p.ws), none, none, none, none] B (by
      rintro k d σ B' hd ⟨rfl, a4, a5, a6, a7, rfl⟩
      obtain ⟨rfl, hk⟩ := rngD_get hd
      simp only [Int.zero_add]
      obtain ⟨xs, hx, hm, hne⟩ := stand_nx P hk
      have hz : stD (stand p k) = .tup [.int k, .int k, .tup (List.replicate p.ah (.int k)), .tup (List.replicate p.be (.int k)), .tup (List.replicate (p.sl - 1) (.int 0)), .tup (List.replicate (p.sl - 1) (.int 0))] := by simp [stD, stand]
      have c := call_ok P (stand_ok hk) (i := 2) (j := 1) ⟨by decide, by decide, by decide⟩ B'
      have hA : ansD p (stand p k) 2 1 = .tup (xs.map stD) := by rw [ansD, stand_mv P hk, ← hx]
      rw [hA] at c
      have m1 := fMul_rep (.int k) p.ah (by omega) B'
      have m2 := fMul_rep (.int k) p.be (by omega) B'
      have m3 := fMul_rep (.int 0) (p.sl - 1) (by omega) B'
      have hs : f__law_seen [wsD p.ws, .int k, .int 1] B' = .ok (.lst ((snW p.ws p.m k 1).map D.int)) B' := law_seen_ok P.W k 1 (by decide) B'
      have xl : xs.length ≤ 289 := by rw [← hx]; exact nx_n P _ _ _ _ _
      have l1 := mLc_map (vs := [6]) (i := 6) (mi := mItems (mVar 5)) (me := mBin fIx (mBin fIx (mVar 6) (mC (.int 3))) (mC (.int 0))) (σ := [some (false, brD p), some (false, plD p), some (false, wsD p.ws), some (false, .int k), some (false, stD (stand p k)), some (false, .tup (xs.map stD)), a7]) (B := B')
        (ds := xs.map stD) stD (fun t => D.int (t.gl.head?.getD 0)) xs (by simp) rfl (Nat.le_trans (show _ ≤ 1000000 by omega) size_big) (fun t ht => by
          have y : fIx (wD t.gl) (.int 0) B' = .ok (.int (t.gl.head?.getD 0)) B' := by
            cases hg : t.gl with
            | nil => exact absurd hg (hne t ht)
            | cons x l => simp [fIx, atI, ixN]
          simp [wipeI, st3]
          simpa using y)
      have l2 : xs.map (fun t => D.int (t.gl.head?.getD 0)) = (snW p.ws p.m k 1).map D.int := by rw [← hm, List.map_map]; rfl
      rw [l2] at l1
      have sm : Sm 1 (40 * 11) (.lst ((snW p.ws p.m k 1).map D.int)) := sm_lints (fun x hx => by have := sn_bd x hx; have : p.ws.length ≤ 16 := h16; omega) (Nat.le_trans (sn_len P.W.m5 _ _ _) (by decide))
      have ss := sm.same rfl (by decide) (by decide) B'
      refine ⟨_, rfl, _, B', ?_, rfl, some (false, .int k), some (false, stD (stand p k)), some (false, .tup (xs.map stD)), a7, rfl⟩
      have bd : D.tup [.int 2, .int 1] = btD 2 1 := rfl
      have s2 : mSet 4 (mTup (mCons (mVar 3) (mCons (mVar 3) (mCons (mBin fMul (mTup (mCons (mVar 3) mNil)) (mBin fIx (mVar 1) (mC (.int 2)))) (mCons (mBin fMul (mTup (mCons (mVar 3) mNil)) (mBin fIx (mVar 1) (mC (.int 3)))) (mCons (mBin fMul (mTup (mCons (mC (.int 0)) mNil)) (mBin fSub (mBin fIx (mVar 1) (mC (.int 4))) (mC (.int 1)))) (mCons (mBin fMul (mTup (mCons (mC (.int 0)) mNil)) (mBin fSub (mBin fIx (mVar 1) (mC (.int 4))) (mC (.int 1)))) mNil)))))))
          [some (false, brD p), some (false, plD p), some (false, wsD p.ws), some (false, .int k), a5, a6, a7] B' = .next [some (false, brD p), some (false, plD p), some (false, wsD p.ws), some (false, .int k), some (false, stD (stand p k)), a6, a7] B' := by
        rw [hz]
        simp only [z_mSet, z_mTup, z_mCons, z_mNil, z_mVar, z_mC, z_mBin, List.getElem?_cons_succ, List.getElem?_cons_zero, z_bind_ok, w1, if_true, pl2, pl3, pl4, z_fSub, e3, m1, m2, m3, w6, z_st_ok, List.set_cons_succ, List.set_cons_zero]
      have br : brD p = .inst 1 [ownD p, tabD p] := rfl
      have s3 : mSet 5 (mCallO 1 f_BridgeX_callX (mVar 0) (mCons (mVar 4) (mCons (mTup (mCons (mC (.int 2)) (mCons (mC (.int 1)) mNil))) mNil)))
          [some (false, brD p), some (false, plD p), some (false, wsD p.ws), some (false, .int k), some (false, stD (stand p k)), a6, a7] B' = .next [some (false, brD p), some (false, plD p), some (false, wsD p.ws), some (false, .int k), some (false, stD (stand p k)), some (false, .tup (xs.map stD)), a7] B' := by
        rw [br] at c ⊢
        simp only [z_mSet, mCallO, z_mVar, z_mCons, z_mNil, z_mTup, z_mC, List.getElem?_cons_succ, List.getElem?_cons_zero, z_bind_ok, w2, if_true, bd, c, z_st_ok, List.set_cons_succ, List.set_cons_zero]
      simp only [z_gN, z_mSeq, List.set_cons_succ, List.set_cons_zero, s2, z_seq_next, s3, z_mIf, z_mNotT, z_mT, z_mIsB, z_mVar, List.getElem?_cons_succ, List.getElem?_cons_zero, z_bind_ok, z_isTt, z_tru_b, Bool.not_true, z_st_ok, Bool.false_eq_true, if_false, z_mSkip, z_mCall, z_mCons, z_mNil, z_mC, l1, hs, List.append_nil, ss]) ⟨rfl, none, none, none, none, rfl⟩
  have hm : f__law_steps_right [brD p, plD p] B' = (m__law_steps_right [some (false, brD p), some (false, plD p), none, none, none, none, none] B').fin := by simp [f__law_steps_right]
  rw [hm, m__law_steps_right]
  simp only [z_mSeq, z_mSet, z_mBin, z_mVar, z_mC, List.getElem?_cons_succ, List.getElem?_cons_zero, z_bind_ok, pl0, z_st_ok, List.set_cons_succ, List.set_cons_zero, z_seq_next, mFor, z_mRng1, z_m1, wsL, z_asI, r1, if_true, Int.toNat_natCast, e1, z_mRet, z_fin_ret]
end Hk

set_option Elab.async false
set_option linter.all false
set_option maxRecDepth 100000
namespace Hk
open PySem PySem.Spec PyProof.Rows L2 Hf

def idleS (s : St) : St := { s with lo := s.lo.dropLast ++ [-1], gl := s.gl.dropLast ++ [-1] }
theorem idle_okS {p : Pl} (P : OkP p) {s : St} (S : OkS p s) : OkS p (idleS s) := by
  have h1 := S.ll; have h2 := S.gg; have a1 := P.a1; have b1 := P.b1; have n0 := P.n0
  refine ⟨S.p1, S.t1, by simp [idleS]; omega, fun x hx => ?_, by simp [idleS]; omega, fun x hx => ?_, S.pl, S.pv, S.tl, S.tv⟩
  · simp only [idleS, List.mem_append, List.mem_singleton] at hx
    rcases hx with hx | rfl
    · exact S.lv x (List.dropLast_subset _ hx)
    · omega
  · simp only [idleS, List.mem_append, List.mem_singleton] at hx
    rcases hx with hx | rfl
    · exact S.gv x (List.dropLast_subset _ hx)
    · omega
theorem idle_mv {p : Pl} (s : St) (i j : Nat) : mvP p (idleS s) i j = .go false false := by
  have e : putsB p (idleS s) i = false := by simp [putsB, idleS, lastI]
  have f : takesB p (idleS s) j = false := by simp [takesB, idleS, lastI]
  rw [mvP, e, f]
  simp
def pulL : List (Nat × Nat) := [(0, 1), (0, 2), (1, 0), (1, 1), (1, 2), (2, 0), (2, 1), (2, 2)]
theorem pulses_ok (B : Bs) : f__law_pulses [] B = .ok (.lst (pulL.map fun x => btD x.1 x.2)) B := rfl
theorem pul_ok : ∀ x ∈ pulL, OkB x.1 x.2 := by
  intro x hx
  simp only [pulL, List.mem_cons, List.not_mem_nil, or_false] at hx
  rcases hx with rfl | rfl | rfl | rfl | rfl | rfl | rfl | rfl <;> exact ⟨by decide, by decide, by decide⟩
theorem head_b (l : List Int) (k : Nat) : (1 : Int) ∈ ((0 :: l).take k).take 1 → False := by
  intro h
  cases k with
  | zero => simp at h
  | succ k => simp at h
theorem idle_ok {p : Pl} (Pp : OkP p) {n : Nat} {B : Bs} (P : PenOk B n) : ∃ B', f__law_idle_right [.box n, brD p, plD p] B = .ok (.bool true) B' ∧ PenOk B' n := by
  obtain ⟨s, B1, e1, S, P1⟩ := law_formed_ok Pp P
  have T := idle_okS Pp S
  have ll := S.ll; have gg := S.gg; have pa := Pp.a3; have pb := Pp.b3; have ps := Pp.s3
  have w1 : ∀ x : D, szL [x] = true := fun _ => decide_eq_true (show 1 ≤ sizeLine by decide)
  have w2 : ∀ q0 q1 : D, szL [q0, q1] = true := fun _ _ => decide_eq_true (show 2 ≤ sizeLine by decide)
  have c1 := cut_dl (S.lo_ne Pp)
  have c2 := cut_dl (S.gl_ne Pp)
  have y1 := add_tup (a := s.lo.dropLast.map D.int) (b := [D.int (-1)]) (by simp; omega) B1
  have y2 := add_tup (a := s.gl.dropLast.map D.int) (b := [D.int (-1)]) (by simp; omega) B1
  have q1 : fSl (stD s) none (some 2) B1 = .ok (.tup [.int s.put, .int s.taken]) B1 := rfl
  have q2 : fSl (stD s) (some 4) none B1 = .ok (.tup [wD s.pu, wD s.ta]) B1 := rfl
  have q3 := add_tup (a := [D.int s.put, D.int s.taken]) (b := [D.tup (s.lo.dropLast.map D.int ++ [D.int (-1)]), D.tup (s.gl.dropLast.map D.int ++ [D.int (-1)])]) (by simp) B1
  have q4 := add_tup (a := [D.int s.put, D.int s.taken, D.tup (s.lo.dropLast.map D.int ++ [D.int (-1)]), D.tup (s.gl.dropLast.map D.int ++ [D.int (-1)])]) (b := [wD s.pu, wD s.ta]) (by simp) B1
  have zt : D.tup ([D.int s.put, D.int s.taken, D.tup (s.lo.dropLast.map D.int ++ [D.int (-1)]), D.tup (s.gl.dropLast.map D.int ++ [D.int (-1)])] ++ [wD s.pu, wD s.ta]) = stD (idleS s) := by simp [stD, idleS]
  rw [zt] at q4
  have hst : mSet 3 (mBin fAdd (mBin fAdd (mSl01 (mVar 3) (mC (.int 2))) (mTup (mCons (mBin fAdd (mSl01 (mBin fIx (mVar 3) (mC (.int 2))) (mNeg (mC (.int 1)))) (mTup (mCons (mNeg (mC (.int 1))) mNil))) (mCons (mBin fAdd (mSl01 (mBin fIx (mVar 3) (mC (.int 3))) (mNeg (mC (.int 1)))) (mTup (mCons (mNeg (mC (.int 1))) mNil))) mNil)))) (mSl10 (mVar 3) (mC (.int 4))))
      [some (false, .box n), some (false, brD p), some (false, plD p), some (false, stD s), none, none, none] B1 = .next [some (false, .box n), some (false, brD p), some (false, plD p), some (false, stD (idleS s)), none, none, none] B1 := by
    have f2 : fSl (wD s.lo) none (some (-1)) B1 = .ok (.tup (s.lo.dropLast.map D.int)) B1 := by rw [fSl, c1]
    have f3 : fSl (wD s.gl) none (some (-1)) B1 = .ok (.tup (s.gl.dropLast.map D.int)) B1 := by rw [fSl, c2]
    simp only [z_mSet, z_mBin, z_mSl01, z_mSl10, z_mVar, z_mC, z_mTup, z_mCons, z_mNil, z_mNeg, List.getElem?_cons_succ, List.getElem?_cons_zero, z_bind_ok, z_asI, q1, st2, st3, f2, f3, w1, w2, if_true, y1, y2, q3]
    have q4' : fAdd (.tup ([D.int s.put, D.int s.taken] ++ [D.tup (s.lo.dropLast.map D.int ++ [D.int (-1)]), D.tup (s.gl.dropLast.map D.int ++ [D.int (-1)])])) (.tup [wD s.pu, wD s.ta]) B1 = .ok (stD (idleS s)) B1 := q4
    simp only [q2, z_bind_ok, q4', z_st_ok, List.set_cons_succ, List.set_cons_zero]
  generalize ht : idleS s = t at *
  have mv : ∀ i j, mvP p t i j = .go false false := fun i j => by rw [← ht]; exact idle_mv s i j
  obtain ⟨σ', B', e2, ⟨rfl, a4, a5, a6, rfl⟩⟩ := forL_inv (t := gN 4) (b := (mSeq (mSet 5 (mCallO 1 f_BridgeX_callX (mVar 1) (mCons (mVar 3) (mCons (mVar 4) mNil))))
      (mSeq (mIf (mOrT (mNotT (mT (mCall f__law_same [] (mCons (mVar 5) (mCons (mCall f__law_next [] (mCons (mVar 2) (mCons (mVar 3) (mCons (mVar 4) mNil)))) mNil))))) (mT (mIsB .str (mVar 5)))) (mRet (mC (.bool false))) mSkip)
      (mIf (mCmpT fNe (mLc [6] (gN 6) (mItems (mVar 5)) (mOrT (mCmpT fNe (mSl01 (mVar 6) (mC (.int 2))) (mSl01 (mVar 3) (mC (.int 2)))) (mCmpT (fInD fun b => b) (mC (.int 1)) (mBin fAdd (mSl01 (mBin fIx (mVar 6) (mC (.int 4))) (mC (.int 1))) (mSl01 (mBin fIx (mVar 6) (mC (.int 5))) (mC (.int 1)))))) (mC (.int 1))) (mLst mNil)) (mRet (mC (.bool false))) mSkip))))
    (fun _ σ B' => B' = B1 ∧ ∃ a4 a5 a6, σ = [some (false, .box n), some (false, brD p), some (false, plD p), some (false, stD t), a4, a5, a6]) (pulL.map fun x => btD x.1 x.2) 0 [some (false, .box n), some (false, brD p), some (false, plD p), some (false, stD t), none, none, none] B1 (by
      rintro k d σ B' hd ⟨rfl, a4, a5, a6, rfl⟩
      obtain ⟨x, hx, rfl⟩ : ∃ x ∈ pulL, btD x.1 x.2 = d := by
        have := List.mem_of_getElem? hd
        simpa using this
      have hb := pul_ok x hx
      have c := call_ok Pp T hb B'
      have l := law_next_ok Pp T x.1 x.2 B'
      have hA : ansD p t x.1 x.2 = .tup ((nxL p t x.1 x.2 false false).map stD) := by rw [ansD, mv]
      rw [hA] at c l
      have sm := (nx_sm Pp T x.1 x.2 false false).same rfl (by decide) (by decide) B'
      have xl := nx_n Pp t x.1 x.2 false false
      have br : brD p = .inst 1 [ownD p, tabD p] := rfl
      have n0 := Pp.n0
      have hin : ∀ u ∈ nxL p t x.1 x.2 false false, u.put = t.put ∧ u.taken = t.taken ∧ (∃ l, u.pu = (0 :: l).take (p.sl - 1)) ∧ ∃ l, u.ta = (0 :: l).take (p.sl - 1) := fun u hu => by
        simp only [nxL, List.mem_flatMap, List.mem_map] at hu
        obtain ⟨dl, _, dg, _, rfl⟩ := hu
        have g1 : (((t.put : Int) + b2i false) % (p.n : Int)).toNat = t.put := by
          have := T.p1
          rw [show (t.put : Int) + b2i false = t.put by simp [b2i], Int.emod_eq_of_lt (by omega) (by omega)]; omega
        have g2 : (((t.taken : Int) + b2i false) % (p.n : Int)).toNat = t.taken := by
          have := T.t1
          rw [show (t.taken : Int) + b2i false = t.taken by simp [b2i], Int.emod_eq_of_lt (by omega) (by omega)]; omega
        exact ⟨g1, g2, ⟨_, rfl⟩, ⟨_, rfl⟩⟩
      have nxok := nx_ok Pp T x.1 x.2 false false
      generalize nxL p t x.1 x.2 false false = xs at *
      have lc := mLc_filterT (vs := [6]) (t := gN 6) (mi := mItems (mVar 5)) (mt := mOrT (mCmpT fNe (mSl01 (mVar 6) (mC (.int 2))) (mSl01 (mVar 3) (mC (.int 2)))) (mCmpT (fInD fun b => b) (mC (.int 1)) (mBin fAdd (mSl01 (mBin fIx (mVar 6) (mC (.int 4))) (mC (.int 1))) (mSl01 (mBin fIx (mVar 6) (mC (.int 5))) (mC (.int 1)))))) (me := mC (.int 1))
        (σ := [some (false, .box n), some (false, brD p), some (false, plD p), some (false, stD t), some (false, btD x.1 x.2), some (false, .tup (xs.map stD)), a6]) (B := B') (ds := xs.map stD) stD (fun _ => false) (fun _ => D.int 1) xs (by simp) rfl (Nat.le_trans (show _ ≤ 1000000 by omega) size_big) (fun u hu => by
          obtain ⟨h1, h2, ⟨l1, h3⟩, ⟨l2, h4⟩⟩ := hin u hu
          have hu := nxok u hu
          have z1 : ∀ v : St, fSl (stD v) none (some 2) B' = .ok (.tup [.int v.put, .int v.taken]) B' := fun v => rfl
          have z2 : fNe (.tup [.int u.put, .int u.taken]) (.tup [.int t.put, .int t.taken]) B' = .ok (.bool false) B' := by
            rw [h1, h2]
            have s0 : shp (.tup [D.int t.put, D.int t.taken]) = true := (sm_tup (k := 0) (n := 10) (ds := [D.int t.put, D.int t.taken]) (by
              intro d hd
              have := T.p1; have := T.t1; have : p.n ≤ 16 := Pp.W.n16
              simp only [List.mem_cons, List.not_mem_nil, or_false] at hd
              rcases hd with rfl | rfl
              · exact sm_nat (by omega)
              · exact sm_nat (by omega))).shp (by decide)
            have s1 : eqD (.tup [D.int t.put, D.int t.taken]) (.tup [D.int t.put, D.int t.taken]) = true := by simp [eqD, toPy, toPys, PyData.eqv, PyData.eqvAll]
            rw [fNe, s0, s1]; rfl
          have z3 : fSl (wD u.pu) none (some 1) B' = .ok (wD (u.pu.take 1)) B' := by rw [fSl]; have := cut_hi (u.pu.map D.int) 1; rw [show ((1 : Nat) : Int) = 1 from rfl] at this; rw [this, ← List.map_take]
          have z4 : fSl (wD u.ta) none (some 1) B' = .ok (wD (u.ta.take 1)) B' := by rw [fSl]; have := cut_hi (u.ta.map D.int) 1; rw [show ((1 : Nat) : Int) = 1 from rfl] at this; rw [this, ← List.map_take]
          have z5 : fAdd (wD (u.pu.take 1)) (wD (u.ta.take 1)) B' = .ok (wD (u.pu.take 1 ++ u.ta.take 1)) B' := by
            rw [add_tup (by simp; omega), ← List.map_append]
          have z6 : fInD (fun b => b) (.int 1) (wD (u.pu.take 1 ++ u.ta.take 1)) B' = .ok (.bool false) B' := by
            have hn : ¬ (1 : Int) ∈ u.pu.take 1 ++ u.ta.take 1 := fun h => by
              rcases List.mem_append.mp h with h | h
              · rw [h3] at h; exact head_b _ _ h
              · rw [h4] at h; exact head_b _ _ h
            have hv : ∀ x ∈ u.pu.take 1 ++ u.ta.take 1, x = 0 ∨ x = 1 := fun x hx => by
              rcases List.mem_append.mp hx with h | h
              · exact hu.pv x (List.mem_of_mem_take h)
              · exact hu.tv x (List.mem_of_mem_take h)
            have hl : (u.pu.take 1 ++ u.ta.take 1).length ≤ 5 := by simp; omega
            generalize u.pu.take 1 ++ u.ta.take 1 = l at *
            have s1 := (sm_w hv hl).shp (by decide)
            have s2 : shp (.int 1) = true := rfl
            have e : inD (.int 1) (l.map D.int) = false := by
              rw [inD, toPys_map, List.any_eq_false]
              intro z hz
              simp only [List.map_map, List.mem_map] at hz
              obtain ⟨x, hx, rfl⟩ := hz
              have : ¬ x = 1 := fun e => hn (e ▸ hx)
              simp [Function.comp, toPy, PyData.eqv, this]
            simp only [fInD, fInG, s1, s2, e]; rfl
          refine ⟨_, rfl, ?_, fun h => by cases h⟩
          simp only [wipeI, z_mOrT, z_mCmpT, z_mSl01, z_mVar, z_mC, z_mBin, List.set_cons_succ, List.set_cons_zero, List.getElem?_cons_succ, List.getElem?_cons_zero, z_bind_ok, z_asI, z1, z2, z_toB, Bool.false_eq_true, if_false, st4, st5, z3, z4, z5, z6])
      rw [List.filter_eq_nil_iff.mpr (by simp)] at lc
      have ne : fNe (.lst []) (.lst []) B' = .ok (.bool false) B' := rfl
      have z0 : szL [] = true := rfl
      refine ⟨_, rfl, _, B', ?_, rfl, some (false, btD x.1 x.2), some (false, .tup (xs.map stD)), a6, rfl⟩
      have s5 : mSet 5 (mCallO 1 f_BridgeX_callX (mVar 1) (mCons (mVar 3) (mCons (mVar 4) mNil))) [some (false, .box n), some (false, brD p), some (false, plD p), some (false, stD t), some (false, btD x.1 x.2), a5, a6] B' =
          .next [some (false, .box n), some (false, brD p), some (false, plD p), some (false, stD t), some (false, btD x.1 x.2), some (false, .tup (xs.map stD)), a6] B' := by
        rw [br] at c ⊢
        simp only [z_mSet, mCallO, z_mVar, z_mCons, z_mNil, List.getElem?_cons_succ, List.getElem?_cons_zero, z_bind_ok, c, if_true, z_st_ok, List.set_cons_succ, List.set_cons_zero]
      have hs : isB .str (.tup (xs.map stD)) = some false := rfl
      simp only [z_gN, z_mSeq, List.set_cons_succ, List.set_cons_zero, s5, z_seq_next, z_mIf, z_mOrT, z_mNotT, z_mT, z_mCall, z_mCons, z_mNil, z_mVar, List.getElem?_cons_succ, List.getElem?_cons_zero, z_bind_ok, List.append_nil, l, sm, z_tru_b, Bool.not_true, Bool.false_eq_true, if_false, z_mIsB, hs, z_st_ok, z_mSkip, z_mCmpT, lc, z_mLst, z0, if_true, List.map_nil, ne, z_toB]) ⟨rfl, none, none, none, rfl⟩
  refine ⟨B', ?_, P1⟩
  have hm : f__law_idle_right [.box n, brD p, plD p] B = (m__law_idle_right [some (false, .box n), some (false, brD p), some (false, plD p), none, none, none, none] B).fin := by simp [f__law_idle_right]
  rw [hm, m__law_idle_right]
  have s1 : mSet 3 (mCall f__law_formed [] (mCons (mVar 0) (mCons (mVar 2) mNil))) [some (false, .box n), some (false, brD p), some (false, plD p), none, none, none, none] B = .next [some (false, .box n), some (false, brD p), some (false, plD p), some (false, stD s), none, none, none] B' := by
    simp only [z_mSet, z_mCall, z_mCons, z_mNil, z_mVar, List.getElem?_cons_succ, List.getElem?_cons_zero, z_bind_ok, List.append_nil, e1, z_st_ok, List.set_cons_succ, List.set_cons_zero]
  have pu := pulses_ok B'
  simp only [z_mSeq, s1, z_seq_next, hst, mFor, z_mItems, z_mCall, z_mNil, z_bind_ok, List.append_nil, pu, z_it_l, z_st_ok, e2, z_mRet, z_mC, z_fin_ret]
theorem law_true (ns : List Int) (hl : ns.length ≤ 63) : ∃ B, f_law [.scr (ns.map D.int)] [] = .ok (.bool true) B := by
  have r4 : rngB 4 = true := by decide
  obtain ⟨B', e⟩ := law_outer (c := 3) (N := 5) (hc := by decide) (ns := ns) (inner := mFor (gN 3) (mItems (mTup (mCons (mC (.int 1)) (mCons (mC (.int 2)) (mCons (mC (.int 3)) mNil))))) (mSeq (mSet 4 (mCall f__law_sparse [] (mCons (mVar 2) mNil)))
  (mSeq (mSet 5 (mTup (mCons (mVar 4) (mCons (mBin fAdd (mC (.int 1)) (mCall f__law_draw [] (mCons (mVar 2) (mCons (mBin fSub (m1 fLen (mVar 4)) (mC (.int 1))) mNil)))) (mCons (mBin fAdd (mC (.int 1)) (mCall f__law_draw [] (mCons (mVar 2) (mCons (mC (.int 2)) mNil)))) (mCons (mBin fAdd (mC (.int 1)) (mCall f__law_draw [] (mCons (mVar 2) (mCons (mC (.int 2)) mNil)))) (mCons (mVar 3) mNil)))))))
  (mSeq (mSet 6 (mCall f__law_built [] (mCons (mVar 5) mNil)))
  (mSeq (mIf (mNotT (mT (mCall f__law_steps_right [] (mCons (mVar 6) (mCons (mVar 5) mNil))))) (mRet (mC (.bool false))) mSkip)
  (mFor (gN 7) (mRng1 (mC (.int 4))) (mIf (mNotT (mT (mCall f__law_idle_right [] (mCons (mVar 2) (mCons (mVar 6) (mCons (mVar 5) mNil)))))) (mRet (mC (.bool false))) mSkip)))))))
    (h := fun n k B r hr P => by
      match r, hr with
      | [t, a, b, c, d], _ =>
      have w3 : szL [D.int 1, D.int 2, D.int 3] = true := decide_eq_true (show 3 ≤ sizeLine by decide)
      have w5 : ∀ q0 q1 q2 q3 q4 : D, szL [q0, q1, q2, q3, q4] = true := fun _ _ _ _ _ => decide_eq_true (show 5 ≤ sizeLine by decide)
      obtain ⟨σ', B', e, P', t', a', b', c', d', rfl⟩ := forL_inv (t := gN 3) (b := (mSeq (mSet 4 (mCall f__law_sparse [] (mCons (mVar 2) mNil)))
  (mSeq (mSet 5 (mTup (mCons (mVar 4) (mCons (mBin fAdd (mC (.int 1)) (mCall f__law_draw [] (mCons (mVar 2) (mCons (mBin fSub (m1 fLen (mVar 4)) (mC (.int 1))) mNil)))) (mCons (mBin fAdd (mC (.int 1)) (mCall f__law_draw [] (mCons (mVar 2) (mCons (mC (.int 2)) mNil)))) (mCons (mBin fAdd (mC (.int 1)) (mCall f__law_draw [] (mCons (mVar 2) (mCons (mC (.int 2)) mNil)))) (mCons (mVar 3) mNil)))))))
  (mSeq (mSet 6 (mCall f__law_built [] (mCons (mVar 5) mNil)))
  (mSeq (mIf (mNotT (mT (mCall f__law_steps_right [] (mCons (mVar 6) (mCons (mVar 5) mNil))))) (mRet (mC (.bool false))) mSkip)
  (mFor (gN 7) (mRng1 (mC (.int 4))) (mIf (mNotT (mT (mCall f__law_idle_right [] (mCons (mVar 2) (mCons (mVar 6) (mCons (mVar 5) mNil)))))) (mRet (mC (.bool false))) mSkip)))))))
        (fun _ σ B => PenOk B n ∧ ∃ t a b c d, σ = [some (false, .scr (ns.map D.int)), some (false, .int k), some (false, .box n), t, a, b, c, d]) [D.int 1, D.int 2, D.int 3] 0 [some (false, .scr (ns.map D.int)), some (false, .int k), some (false, .box n), t, a, b, c, d] B (by
          rintro i x σ B hx ⟨P, t, a, b, c, d, rfl⟩
          obtain ⟨sl, rfl, s1, s3⟩ : ∃ sl : Nat, x = .int sl ∧ 1 ≤ sl ∧ sl ≤ 3 := by
            match i, hx with
            | 0, hx => cases hx; exact ⟨1, rfl, by decide, by decide⟩
            | 1, hx => cases hx; exact ⟨2, rfl, by decide, by decide⟩
            | 2, hx => cases hx; exact ⟨3, rfl, by decide, by decide⟩
          obtain ⟨ws, B1, e1, W, l3, l6, P1⟩ := sparse_ok P
          obtain ⟨u, B2, e2, u0, u1, S2⟩ := law_draw_ok (k := (ws.length : Int) - 1) P1 (by omega) (by omega)
          obtain ⟨v, B3, e3, v0, v1, S3⟩ := law_draw_ok (k := 2) S2.ok (by omega) (by omega)
          obtain ⟨z, B4, e4, z0, z1, S4⟩ := law_draw_ok (k := 2) S3.ok (by omega) (by omega)
          let p : Pl := ⟨ws, 3, (1 + u).toNat, (1 + v).toNat, (1 + z).toNat, sl⟩
          have Pp : OkP p := ⟨W, by show 1 ≤ (1 + u).toNat; omega, by show (1 + u).toNat < ws.length; omega, by show 1 ≤ (1 + v).toNat; omega, by show (1 + v).toNat ≤ 3; omega, by show 1 ≤ (1 + z).toNat; omega, by show (1 + z).toNat ≤ 3; omega, s1, s3⟩
          have hp : plD p = .tup [wsD ws, .int (1 + u), .int (1 + v), .int (1 + z), .int sl] := by
            show D.tup [wsD ws, .int ((1 + u).toNat : Int), .int ((1 + v).toNat : Int), .int ((1 + z).toNat : Int), .int sl] = _
            rw [Int.toNat_of_nonneg (by omega), Int.toNat_of_nonneg (by omega), Int.toNat_of_nonneg (by omega)]
          have e5 := built_ok Pp B4
          have e6 := law_steps_ok Pp B4
          obtain ⟨σ2, B5, e7, P5, d', rfl⟩ := forL_inv (t := gN 7) (b := mIf (mNotT (mT (mCall f__law_idle_right [] (mCons (mVar 2) (mCons (mVar 6) (mCons (mVar 5) mNil)))))) (mRet (mC (.bool false))) mSkip)
            (fun _ σ B => PenOk B n ∧ ∃ d, σ = [some (false, .scr (ns.map D.int)), some (false, .int k), some (false, .box n), some (false, .int sl), some (false, wsD ws), some (false, plD p), some (false, brD p), d]) (rngD 0 4) 0 [some (false, .scr (ns.map D.int)), some (false, .int k), some (false, .box n), some (false, .int sl), some (false, wsD ws), some (false, plD p), some (false, brD p), d] B4 (by
              rintro i x σ B hx ⟨P, d, rfl⟩
              obtain ⟨B', e, P'⟩ := idle_ok Pp P
              refine ⟨_, rfl, _, B', ?_, P', some (false, x), rfl⟩
              simp only [z_gN, List.set_cons_succ, List.set_cons_zero, z_mIf, z_mNotT, z_mT, z_mCall, z_mCons, z_mNil, z_mVar, List.getElem?_cons_succ, List.getElem?_cons_zero, z_bind_ok, List.append_nil, e, z_tru_b, Bool.not_true, z_st_ok, Bool.false_eq_true, if_false, z_mSkip]) ⟨S4.ok, d, rfl⟩
          refine ⟨_, rfl, _, B5, ?_, P5, some (false, .int sl), some (false, wsD ws), some (false, plD p), some (false, brD p), d', rfl⟩
          have lw : ∀ B, fLen (wsD ws) B = .ok (.int ws.length) B := fun B => by simp
          have i4 : (4 : Int).toNat = 4 := rfl
          simp only [z_gN, List.set_cons_succ, List.set_cons_zero, z_mSeq, z_mSet, z_mCall, z_mCons, z_mNil, z_mVar, List.getElem?_cons_succ, List.getElem?_cons_zero, z_bind_ok, List.append_nil, e1, z_st_ok, z_seq_next, z_mTup, z_mBin, z_mC, z_m1, lw, z_fSub, e2, e3, e4, z_fAddI, w5, if_true, ← hp, e5, e6, z_mIf, z_mNotT, z_mT, z_tru_b, Bool.not_true, Bool.false_eq_true, if_false, z_mSkip, mFor, z_mRng1, z_asI, r4, i4, e7]) ⟨P, t, a, b, c, d, rfl⟩
      refine ⟨[t', a', b', c', d'], B', rfl, ?_⟩
      simp only [mFor, z_mItems, z_mTup, z_mCons, z_mNil, z_mC, z_bind_ok, w3, if_true, z_it_t, z_st_ok]
      exact e) (r := [none, none, none, none, none]) (hr := rfl) (B := [])
  exact ⟨B', by
    have : f_law [.scr (ns.map D.int)] [] = (m_law [some (false, .scr (ns.map D.int)), none, none, none, none, none, none, none] []).fin := rfl
    rw [this, m_law]
    have e3 : ((3 : Nat) : Int) = 3 := rfl
    rw [e3] at e
    rw [e]; rfl⟩
end Hk

open PySem PySem.W PyProof.Rows
set_option maxRecDepth 100000 in
set_option maxHeartbeats 0 in
theorem PySem.Challenge.cw_halfread_k56_words_that_are_none_holds : PySem.Challenge.rw_halfread_k56_words_that_are_none.Holds := by
  w_on; o_law; k_head; (case hw => w_witness2)
  k_fill
  refine Hk.walk (l := PySem.Challenge.rw_halfread_k56_words_that_are_none) rfl rfl (fun w h Y => PySem.W.kIn_of Y) ?F Hk.law_true
  case F =>
    intro w mg fa h KX G hmg
    refine' Hk.all_mk KX G hmg ?aC0 ?pgC0 ?hdC0 ?poC0 ?saC0 ?mkC0 ?kcC0 ?n0C0 ?n1C0 ?dcC0 ?moC0 ?bintC0 ?bboolC0 ?btupleC0 ?bstrC0 ?blistC0 ?icC0 ?tyC0 ?aC1 ?pgC1 ?hdC1 ?poC1 ?saC1 ?mkC1 ?kcC1 ?n0C1 ?n1C1 ?dcC1 ?moC1 ?bintC1 ?bboolC1 ?btupleC1 ?bstrC1 ?blistC1 ?icC1 ?tyC1 ?mm00 ?mm01 ?mm10 ?mm11 ?hn ?htk ?zlen ?zrange ?zisinstance ?ztuple ?zlist ?zall ?zany ?zmax ?zmin ?zset ?zsorted ?zenumerate ?zzip ?zrepr ?zstr ?zint ?zsum ?zdict ?zbool ?v_SIGNS ?w_SIGNS ?vG_NO_WORD ?vG_FEWEST_VALUES ?vG_MOST_VALUES ?vG_MOST_BITS ?vG_MOST_LATE ?vG_MOST_SLOW ?vG_NO_BEAT ?vG_WISH ?vG_FULL ?vG_EMPTY ?a_law_pen ?l_law_pen ?c_law_pen ?k_law_pen ?a_law_cell_at ?l_law_cell_at ?c_law_cell_at ?k_law_cell_at ?a_law_draw ?l_law_draw ?c_law_draw ?k_law_draw ?a_law_mixed ?l_law_mixed ?c_law_mixed ?k_law_mixed ?a_law_all_words ?l_law_all_words ?c_law_all_words ?k_law_all_words ?a_law_sparse ?l_law_sparse ?c_law_sparse ?k_law_sparse ?aword_in ?lword_in ?cword_in ?kword_in ?ais_between ?lis_between ?cis_between ?kis_between ?aare_bits ?lare_bits ?care_bits ?kare_bits ?aare_words ?lare_words ?care_words ?kare_words ?aCodeX_initX ?iCodeX_initX ?lCodeX_initX ?cCodeX_initX ?kCodeX_initX ?rdCode_read ?gaCode_read ?aCode_read ?rCode_read ?iCode_read ?lCode_read ?cCode_read ?kCode_read ?a_law_coded ?l_law_coded ?c_law_coded ?k_law_coded ?aneed_code ?lneed_code ?cneed_code ?kneed_code ?aCodeX_lenX ?iCodeX_lenX ?lCodeX_lenX ?cCodeX_lenX ?kCodeX_lenX ?awindow_of ?lwindow_of ?cwindow_of ?kwindow_of ?aCode_words ?gCode_words ?tCode_words ?rCode_words ?lCode_words ?cCode_words ?kCode_words ?aCode_bits ?gCode_bits ?tCode_bits ?rCode_bits ?lCode_bits ?cCode_bits ?kCode_bits ?areadings_in ?lreadings_in ?creadings_in ?kreadings_in ?aCodeX_getitemX ?iCodeX_getitemX ?jCodeX_getitemX ?lCodeX_getitemX ?cCodeX_getitemX ?kCodeX_getitemX ?avalues_in ?lvalues_in ?cvalues_in ?kvalues_in ?aBridgeX_initX ?iBridgeX_initX ?lBridgeX_initX ?dtBridgeX_initX ?cBridgeX_initX ?kBridgeX_initX ?a_law_built ?l_law_built ?c_law_built ?k_law_built ?a_law_same ?l_law_same ?c_law_same ?k_law_same ?a_law_seen ?l_law_seen ?c_law_seen ?k_law_seen ?aare_numbers ?lare_numbers ?care_numbers ?kare_numbers ?aBridge_code ?gBridge_code ?tBridge_code ?rBridge_code ?lBridge_code ?cBridge_code ?kBridge_code ?aBridge_slow ?gBridge_slow ?tBridge_slow ?rBridge_slow ?lBridge_slow ?cBridge_slow ?kBridge_slow ?aBridge_ahead ?gBridge_ahead ?tBridge_ahead ?rBridge_ahead ?lBridge_ahead ?cBridge_ahead ?kBridge_ahead ?aBridge_behind ?gBridge_behind ?tBridge_behind ?rBridge_behind ?lBridge_behind ?cBridge_behind ?kBridge_behind ?ais_state_in ?lis_state_in ?cis_state_in ?kis_state_in ?aneed_state ?lneed_state ?cneed_state ?kneed_state ?ais_beat ?lis_beat ?cis_beat ?kis_beat ?aneed_beat ?lneed_beat ?cneed_beat ?kneed_beat ?aBridge_depth ?gBridge_depth ?tBridge_depth ?rBridge_depth ?lBridge_depth ?cBridge_depth ?kBridge_depth ?aputs_in ?lputs_in ?cputs_in ?kputs_in ?atakes_in ?ltakes_in ?ctakes_in ?ktakes_in ?amoves_in ?lmoves_in ?cmoves_in ?kmoves_in ?aread_of ?lread_of ?cread_of ?kread_of ?alooks_in ?llooks_in ?clooks_in ?klooks_in ?aglances_in ?lglances_in ?cglances_in ?kglances_in ?abehind_in ?lbehind_in ?cbehind_in ?kbehind_in ?anext_in ?lnext_in ?cnext_in ?knext_in ?aBridgeX_callX ?iBridgeX_callX ?jBridgeX_callX ?lBridgeX_callX ?cBridgeX_callX ?kBridgeX_callX ?a_law_steps_right ?l_law_steps_right ?c_law_steps_right ?k_law_steps_right ?a_law_formed ?l_law_formed ?c_law_formed ?k_law_formed ?a_law_pulses ?l_law_pulses ?c_law_pulses ?k_law_pulses ?a_law_moves ?l_law_moves ?c_law_moves ?k_law_moves ?a_law_fronts ?l_law_fronts ?c_law_fronts ?k_law_fronts ?a_law_next ?l_law_next ?c_law_next ?k_law_next ?a_law_idle_right ?l_law_idle_right ?c_law_idle_right ?k_law_idle_right ?alaw ?llaw ?claw ?klaw
    (case aC0 => k_is)
    (case pgC0 => k_is)
    (case hdC0 => k_is)
    (case poC0 => k_is)
    (case saC0 => k_is)
    (case mkC0 => k_is)
    (case kcC0 => k_is)
    (case n0C0 => k_is)
    (case n1C0 => k_is)
    (case dcC0 => k_is)
    (case moC0 => k_is)
    (case bintC0 => k_is)
    (case bboolC0 => k_is)
    (case btupleC0 => k_is)
    (case bstrC0 => k_is)
    (case blistC0 => k_is)
    (case icC0 => k_is)
    (case tyC0 => k_is)
    (case aC1 => k_is)
    (case pgC1 => k_is)
    (case hdC1 => k_is)
    (case poC1 => k_is)
    (case saC1 => k_is)
    (case mkC1 => k_is)
    (case kcC1 => k_is)
    (case n0C1 => k_is)
    (case n1C1 => k_is)
    (case dcC1 => k_is)
    (case moC1 => k_is)
    (case bintC1 => k_is)
    (case bboolC1 => k_is)
    (case btupleC1 => k_is)
    (case bstrC1 => k_is)
    (case blistC1 => k_is)
    (case icC1 => k_is)
    (case tyC1 => k_is)
    (case mm00 => k_is)
    (case mm01 => k_is)
    (case mm10 => k_is)
    (case mm11 => k_is)
    (case hn => k_is)
    (case htk => k_is)
    (case zlen => k_is)
    (case zrange => k_is)
    (case zisinstance => k_is)
    (case ztuple => k_is)
    (case zlist => k_is)
    (case zall => k_is)
    (case zany => k_is)
    (case zmax => k_is)
    (case zmin => k_is)
    (case zset => k_is)
    (case zsorted => k_is)
    (case zenumerate => k_is)
    (case zzip => k_is)
    (case zrepr => k_is)
    (case zstr => k_is)
    (case zint => k_is)
    (case zsum => k_is)
    (case zdict => k_is)
    (case zbool => k_is)
    (case v_SIGNS => k_is)
    (case w_SIGNS => k_is)
    (case vG_NO_WORD => k_is)
    (case vG_FEWEST_VALUES => k_is)
    (case vG_MOST_VALUES => k_is)
    (case vG_MOST_BITS => k_is)
    (case vG_MOST_LATE => k_is)
    (case vG_MOST_SLOW => k_is)
    (case vG_NO_BEAT => k_is)
    (case vG_WISH => k_is)
    (case vG_FULL => k_is)
    (case vG_EMPTY => k_is)
    (case a_law_pen => k_is)
    (case l_law_pen => k_is)
    (case c_law_pen => k_is)
    (case k_law_pen => k_is)
    (case a_law_cell_at => k_is)
    (case l_law_cell_at => k_is)
    (case c_law_cell_at => k_is)
    (case k_law_cell_at => k_is)
    (case a_law_draw => k_is)
    (case l_law_draw => k_is)
    (case c_law_draw => k_is)
    (case k_law_draw => k_is)
    (case a_law_mixed => k_is)
    (case l_law_mixed => k_is)
    (case c_law_mixed => k_is)
    (case k_law_mixed => k_is)
    (case a_law_all_words => k_is)
    (case l_law_all_words => k_is)
    (case c_law_all_words => k_is)
    (case k_law_all_words => k_is)
    (case a_law_sparse => k_is)
    (case l_law_sparse => k_is)
    (case c_law_sparse => k_is)
    (case k_law_sparse => k_is)
    (case aword_in => k_is)
    (case lword_in => k_is)
    (case cword_in => k_is)
    (case kword_in => k_is)
    (case ais_between => k_is)
    (case lis_between => k_is)
    (case cis_between => k_is)
    (case kis_between => k_is)
    (case aare_bits => k_is)
    (case lare_bits => k_is)
    (case care_bits => k_is)
    (case kare_bits => k_is)
    (case aare_words => k_is)
    (case lare_words => k_is)
    (case care_words => k_is)
    (case kare_words => k_is)
    (case aCodeX_initX => k_is)
    (case iCodeX_initX => k_is)
    (case lCodeX_initX => k_is)
    (case cCodeX_initX => k_is)
    (case kCodeX_initX => k_is)
    (case rdCode_read => k_is)
    (case gaCode_read => k_is)
    (case aCode_read => k_is)
    (case rCode_read => k_is)
    (case iCode_read => k_is)
    (case lCode_read => k_is)
    (case cCode_read => k_is)
    (case kCode_read => k_is)
    (case a_law_coded => k_is)
    (case l_law_coded => k_is)
    (case c_law_coded => k_is)
    (case k_law_coded => k_is)
    (case aneed_code => k_is)
    (case lneed_code => k_is)
    (case cneed_code => k_is)
    (case kneed_code => k_is)
    (case aCodeX_lenX => k_is)
    (case iCodeX_lenX => k_is)
    (case lCodeX_lenX => k_is)
    (case cCodeX_lenX => k_is)
    (case kCodeX_lenX => k_is)
    (case awindow_of => k_is)
    (case lwindow_of => k_is)
    (case cwindow_of => k_is)
    (case kwindow_of => k_is)
    (case aCode_words => k_is)
    (case gCode_words => k_is)
    (case tCode_words => k_is)
    (case rCode_words => k_is)
    (case lCode_words => k_is)
    (case cCode_words => k_is)
    (case kCode_words => k_is)
    (case aCode_bits => k_is)
    (case gCode_bits => k_is)
    (case tCode_bits => k_is)
    (case rCode_bits => k_is)
    (case lCode_bits => k_is)
    (case cCode_bits => k_is)
    (case kCode_bits => k_is)
    (case areadings_in => k_is)
    (case lreadings_in => k_is)
    (case creadings_in => k_is)
    (case kreadings_in => k_is)
    (case aCodeX_getitemX => k_is)
    (case iCodeX_getitemX => k_is)
    (case jCodeX_getitemX => k_is)
    (case lCodeX_getitemX => k_is)
    (case cCodeX_getitemX => k_is)
    (case kCodeX_getitemX => k_is)
    (case avalues_in => k_is)
    (case lvalues_in => k_is)
    (case cvalues_in => k_is)
    (case kvalues_in => k_is)
    (case aBridgeX_initX => k_is)
    (case iBridgeX_initX => k_is)
    (case lBridgeX_initX => k_is)
    (case dtBridgeX_initX => k_is)
    (case cBridgeX_initX => k_is)
    (case kBridgeX_initX => k_is)
    (case a_law_built => k_is)
    (case l_law_built => k_is)
    (case c_law_built => k_is)
    (case k_law_built => k_is)
    (case a_law_same => k_is)
    (case l_law_same => k_is)
    (case c_law_same => k_is)
    (case k_law_same => k_is)
    (case a_law_seen => k_is)
    (case l_law_seen => k_is)
    (case c_law_seen => k_is)
    (case k_law_seen => k_is)
    (case aare_numbers => k_is)
    (case lare_numbers => k_is)
    (case care_numbers => k_is)
    (case kare_numbers => k_is)
    (case aBridge_code => k_is)
    (case gBridge_code => k_is)
    (case tBridge_code => k_is)
    (case rBridge_code => k_is)
    (case lBridge_code => k_is)
    (case cBridge_code => k_is)
    (case kBridge_code => k_is)
    (case aBridge_slow => k_is)
    (case gBridge_slow => k_is)
    (case tBridge_slow => k_is)
    (case rBridge_slow => k_is)
    (case lBridge_slow => k_is)
    (case cBridge_slow => k_is)
    (case kBridge_slow => k_is)
    (case aBridge_ahead => k_is)
    (case gBridge_ahead => k_is)
    (case tBridge_ahead => k_is)
    (case rBridge_ahead => k_is)
    (case lBridge_ahead => k_is)
    (case cBridge_ahead => k_is)
    (case kBridge_ahead => k_is)
    (case aBridge_behind => k_is)
    (case gBridge_behind => k_is)
    (case tBridge_behind => k_is)
    (case rBridge_behind => k_is)
    (case lBridge_behind => k_is)
    (case cBridge_behind => k_is)
    (case kBridge_behind => k_is)
    (case ais_state_in => k_is)
    (case lis_state_in => k_is)
    (case cis_state_in => k_is)
    (case kis_state_in => k_is)
    (case aneed_state => k_is)
    (case lneed_state => k_is)
    (case cneed_state => k_is)
    (case kneed_state => k_is)
    (case ais_beat => k_is)
    (case lis_beat => k_is)
    (case cis_beat => k_is)
    (case kis_beat => k_is)
    (case aneed_beat => k_is)
    (case lneed_beat => k_is)
    (case cneed_beat => k_is)
    (case kneed_beat => k_is)
    (case aBridge_depth => k_is)
    (case gBridge_depth => k_is)
    (case tBridge_depth => k_is)
    (case rBridge_depth => k_is)
    (case lBridge_depth => k_is)
    (case cBridge_depth => k_is)
    (case kBridge_depth => k_is)
    (case aputs_in => k_is)
    (case lputs_in => k_is)
    (case cputs_in => k_is)
    (case kputs_in => k_is)
    (case atakes_in => k_is)
    (case ltakes_in => k_is)
    (case ctakes_in => k_is)
    (case ktakes_in => k_is)
    (case amoves_in => k_is)
    (case lmoves_in => k_is)
    (case cmoves_in => k_is)
    (case kmoves_in => k_is)
    (case aread_of => k_is)
    (case lread_of => k_is)
    (case cread_of => k_is)
    (case kread_of => k_is)
    (case alooks_in => k_is)
    (case llooks_in => k_is)
    (case clooks_in => k_is)
    (case klooks_in => k_is)
    (case aglances_in => k_is)
    (case lglances_in => k_is)
    (case cglances_in => k_is)
    (case kglances_in => k_is)
    (case abehind_in => k_is)
    (case lbehind_in => k_is)
    (case cbehind_in => k_is)
    (case kbehind_in => k_is)
    (case anext_in => k_is)
    (case lnext_in => k_is)
    (case cnext_in => k_is)
    (case knext_in => k_is)
    (case aBridgeX_callX => k_is)
    (case iBridgeX_callX => k_is)
    (case jBridgeX_callX => k_is)
    (case lBridgeX_callX => k_is)
    (case cBridgeX_callX => k_is)
    (case kBridgeX_callX => k_is)
    (case a_law_steps_right => k_is)
    (case l_law_steps_right => k_is)
    (case c_law_steps_right => k_is)
    (case k_law_steps_right => k_is)
    (case a_law_formed => k_is)
    (case l_law_formed => k_is)
    (case c_law_formed => k_is)
    (case k_law_formed => k_is)
    (case a_law_pulses => k_is)
    (case l_law_pulses => k_is)
    (case c_law_pulses => k_is)
    (case k_law_pulses => k_is)
    (case a_law_moves => k_is)
    (case l_law_moves => k_is)
    (case c_law_moves => k_is)
    (case k_law_moves => k_is)
    (case a_law_fronts => k_is)
    (case l_law_fronts => k_is)
    (case c_law_fronts => k_is)
    (case k_law_fronts => k_is)
    (case a_law_next => k_is)
    (case l_law_next => k_is)
    (case c_law_next => k_is)
    (case k_law_next => k_is)
    (case a_law_idle_right => k_is)
    (case l_law_idle_right => k_is)
    (case c_law_idle_right => k_is)
    (case k_law_idle_right => k_is)
    (case alaw => k_is)
    (case llaw => k_is)
    (case claw => k_is)
    (case klaw => k_is)

