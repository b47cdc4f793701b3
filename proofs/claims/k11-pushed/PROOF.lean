import PyProof.Rows.All
import Wide.All
import OpenK.AllK
import Wide.FinOn
import HandS.ForMost
import HandS.Exc
import HandS.ExcCtx
import HandS.ExcOwn
import HandS.TryOnly
import HandS.CallSlots
import HandS.Lambda
import KE.KDictKeyed
import HandS.NoneIn
import HandS.SetBool
import HandS.TupAny
import HandS.TupMul
import HandS.Deep
import HandS.IsInst
import HandS.Wide
import HandS.Flow
import HandS.WordsExc
import HandS.Conv
import HandS.Dict
import KE.KItem
import HandS.Hot
import HandS.HotCalls
import HandS.ExcIs
import PyProof.SumWalkG
import PyProof.Walks
import KE.KStateDown
import HandS.Defaults
import HandS.Head0
import HandS.Head1
import HandS.Head2
import HandS.HeadEnd
import HandS.HeadWalk
import HandS.HeadHook1
import HandS.HeadHook2
import HandS.HeadHook3
import HandS.HeadHook4
import HandS.EndTab
import HandS.SortInts
import HandS.More
import KE.KSortKeyAny
import PyProof.Rows.CallKwBuiltin
import HandS.Nested
import KE.LtSeq
import PySem.Challenge.RW_nullfilters_k11_whole_pushed
set_option Elab.async false
set_option linter.all false
set_option maxRecDepth 100000
set_option maxHeartbeats 0
/-! The pure layer: values as trees, predicate transformers over pure environments, lifted from the hand layer's rules. -/
namespace PL
open PySem PySem.Spec PyProof.Rows L2

/-- a value as a tree; raw: anything else -/
inductive PV where
  | non | bl (b : Bool) | int (i : Int) | str (x : Str) | tup (xs : List PV) | lst (xs : List PV) | scr (ns : List Int) | raw (v : V)

mutual
inductive Rep (K : PySem.W.Frag) (F : Hp) : V → PV → Prop
  | non : Rep K F .non .non
  | bl (b : Bool) : Rep K F (.bl b) (.bl b)
  | int (i : Int) : Rep K F (.int i) (.int i)
  | str (x : Str) : Rep K F (.str x) (.str x)
  | tup {a : Addr} {xs : List V} {ps : List PV} : SqT K F a xs → RepAll K F xs ps → Rep K F (.ref a) (.tup ps)
  | lst {a : Addr} {xs : List V} {ps : List PV} : F a = some (.lst xs) → RepAll K F xs ps → Rep K F (.ref a) (.lst ps)
  | scr {a : Addr} {ns : List Int} : SqL K F a (ns.map V.int) → Rep K F (.ref a) (.scr ns)
  | raw (v : V) : Rep K F v (.raw v)
inductive RepAll (K : PySem.W.Frag) (F : Hp) : List V → List PV → Prop
  | nil : RepAll K F [] []
  | cons {v : V} {vs : List V} {p : PV} {ps : List PV} : Rep K F v p → RepAll K F vs ps → RepAll K F (v :: vs) (p :: ps)
end

theorem same_t {K : PySem.W.Frag} {H H' : Hp} {a : Addr} {xs : List V} (e : Same H H') (h : SqT K H a xs) : SqT K H' a xs := by
  rcases h with (h | ⟨o, h⟩) | h
  · exact .inl (.inl (e _ _ h))
  · exact .inl (.inr ⟨o, e _ _ h⟩)
  · exact .inr h
mutual
theorem Rep.mono {K : PySem.W.Frag} {F F' : Hp} (e : Same F F') : ∀ {v : V} {p : PV}, Rep K F v p → Rep K F' v p
  | _, _, .non => .non
  | _, _, .bl b => .bl b
  | _, _, .int i => .int i
  | _, _, .str x => .str x
  | _, _, .tup h r => .tup (same_t e h) (RepAll.mono e r)
  | _, _, .lst h r => .lst (e _ _ h) (RepAll.mono e r)
  | _, _, .scr h => .scr (e.seq h)
  | _, _, .raw v => .raw v
theorem RepAll.mono {K : PySem.W.Frag} {F F' : Hp} (e : Same F F') : ∀ {vs : List V} {ps : List PV}, RepAll K F vs ps → RepAll K F' vs ps
  | _, _, .nil => .nil
  | _, _, .cons r t => .cons (Rep.mono e r) (RepAll.mono e t)
end
theorem RepAll.length {K : PySem.W.Frag} {F : Hp} : ∀ {vs : List V} {ps : List PV}, RepAll K F vs ps → vs.length = ps.length
  | _, _, .nil => rfl
  | _, _, .cons _ t => by simp [RepAll.length t]
theorem RepAll.get {K : PySem.W.Frag} {F : Hp} : ∀ {vs : List V} {ps : List PV} {i : Nat} {p : PV}, RepAll K F vs ps → ps[i]? = some p → ∃ v, vs[i]? = some v ∧ Rep K F v p
  | _, _, _, _, .nil, e => by simp at e
  | _, _, 0, p, .cons r _, e => by simp at e; subst e; exact ⟨_, rfl, r⟩
  | _, _, i + 1, p, .cons _ t, e => by
    obtain ⟨v, h1, h2⟩ := RepAll.get (i := i) (p := p) t (by simpa using e)
    exact ⟨v, by simpa using h1, h2⟩
theorem RepAll.get' {K : PySem.W.Frag} {F : Hp} : ∀ {vs : List V} {ps : List PV} {i : Nat} {v : V}, RepAll K F vs ps → vs[i]? = some v → ∃ p, ps[i]? = some p ∧ Rep K F v p
  | _, _, _, _, .nil, e => by simp at e
  | _, _, 0, p, .cons r _, e => by simp at e; subst e; exact ⟨_, rfl, r⟩
  | _, _, i + 1, p, .cons _ t, e => by
    obtain ⟨v, h1, h2⟩ := RepAll.get' (i := i) t (by simpa using e)
    exact ⟨v, by simpa using h1, h2⟩
theorem RepAll.append {K : PySem.W.Frag} {F : Hp} : ∀ {vs us : List V} {ps qs : List PV}, RepAll K F vs ps → RepAll K F us qs → RepAll K F (vs ++ us) (ps ++ qs)
  | _, _, _, _, .nil, h => h
  | _, _, _, _, .cons r t, h => .cons r (RepAll.append t h)
theorem RepAll.take {K : PySem.W.Frag} {F : Hp} : ∀ {vs : List V} {ps : List PV} (n : Nat), RepAll K F vs ps → RepAll K F (vs.take n) (ps.take n)
  | _, _, 0, _ => .nil
  | _, _, _ + 1, .nil => .nil
  | _, _, n + 1, .cons r t => .cons r (RepAll.take n t)
theorem RepAll.drop {K : PySem.W.Frag} {F : Hp} : ∀ {vs : List V} {ps : List PV} (n : Nat), RepAll K F vs ps → RepAll K F (vs.drop n) (ps.drop n)
  | _, _, 0, r => r
  | _, _, _ + 1, .nil => .nil
  | _, _, n + 1, .cons _ t => RepAll.drop n t

/-! ### keys, owned and shared objects -/
/-- True, False and None as keys -/
def bnIs : Option Bool → Value → Bool
  | none, .none => true
  | some k, .bool b => b == k
  | _, _ => false
def bnV : Option Bool → Value
  | none => .none
  | some b => .bool b
theorem bn_shape {k : Option Bool} {v : Value} (h : bnIs k v = true) : v = bnV k := by
  cases k with
  | none => cases v <;> first | rfl | exact absurd h Bool.false_ne_true
  | some k => cases v <;> first | (have := eq_of_beq (show (_ == k) = true from h); subst this; rfl) | exact absurd h Bool.false_ne_true
def bnKind (prog : Program) (w : World) : PySem.KeyKind prog w (Option Bool) where
  is := bnIs
  hash := fun k => match k with
    | none => reduceHash 0xFCA86420
    | some b => PpSet.hB b
  inj := fun v a b ha hb => by
    have e1 := bn_shape ha
    have e2 := bn_shape hb
    have e3 := e1.symm.trans e2
    cases a <;> cases b <;> simp_all [bnV]
  byValue := fun k v h => by rw [bn_shape h]; cases k <;> rfl
  pyHash := fun {A E s k v Q} hv h => by
    rw [bn_shape hv]
    cases k with
    | none => exact (noneKind prog w).pyHash (k := none) rfl h
    | some b => exact PpSet.pyHash_bool h
  eqBool := fun {A E s a b u v Q} hu hv h => by
    rw [bn_shape hu, bn_shape hv]
    cases a with
    | none =>
      cases b with
      | none => exact SeqAt.EqAt.same _ _ _ _ _ (by simpa using h)
      | some c => exact SeqAt.EqAt.none_bool c _ _ _ _ (by simpa using h)
    | some c =>
      cases b with
      | none => exact SeqAt.EqAt.bool_none c _ _ _ _ (by simpa using h)
      | some d => exact SeqAt.EqAt.bool_bool c d _ _ _ _ (by rw [PpSet.beq_dec]; simpa using h)
  «strs» := fun k x t v h => by cases k <;> exact absurd h Bool.false_ne_true

/-- what a local name holds alone: a list; a dict by None, ints and texts; by True, False, None; by tuples of None, ints, texts -/
inductive OO where
  | lst (xs : List PV)
  | dct (kvs : List (Option Key × PV))
  | dcb (kvs : List (Option Bool × PV))
  | dcT (kvs : List (List (Option Key) × PV))
/-- what may be held by several: a dice (two ints), an instance -/
inductive MO where
  | dice
  | ins (C : Addr) (fs : List (Str × PV))
  | lst (xs : List PV)
inductive SV where
  | val (p : PV)
  | own (o : OO)
abbrev PEnv := List (Option SV)
abbrev Mem := Addr → Option MO

def dictO (P : Program) (w : World) (a : Addr) (vs : List (Option Key × Value)) : HO := .ext fun h => h.DictOf (noneKind P w) a vs
def dictB (P : Program) (w : World) (a : Addr) (vs : List (Option Bool × Value)) : HO := .ext fun h => h.DictOf (bnKind P w) a vs
/-- a dict by tuples, its entries as they stand -/
def dictT (P : Program) (w : World) (a : Addr) (xs : List (List (Option Key) × Addr × Value)) : HO := .ext fun h =>
  ∃ o es ep, h.get? a = some o ∧ o.ExactDict ∧ o.data = .dict es ep ∧ es.toList = xs.map (entryOfKey (tupleKind (noneKind P w))) ∧ (xs.map (·.1)).Nodup
def DPair {κ : Type} (K : PySem.W.Frag) (F : Hp) : List (κ × PV) → List (κ × Value) → Prop := Paired fun p q => p.1 = q.1 ∧ ∃ v, RelV v q.2 ∧ Rep K F v p.2
def nkV : Option Key → V
  | none => .non
  | some k => kV k
def DPairT (K : PySem.W.Frag) (F : Hp) : List (List (Option Key) × PV) → List (List (Option Key) × Addr × Value) → Prop := Paired fun p q => p.1 = q.1 ∧ SqT K F q.2.1 (p.1.map nkV) ∧ ∃ v, RelV v q.2.2 ∧ Rep K F v p.2
def RepO (P : Program) (w : World) (K : PySem.W.Frag) (F H : Hp) (a : Addr) : OO → Prop
  | .lst xs => ∃ vs, H a = some (.lst vs) ∧ RepAll K F vs xs
  | .dct kvs => ∃ vs, H a = some (dictO P w a vs) ∧ (a == sysModules) = false ∧ kvs.length ≤ 1000000 ∧ DPair K F kvs vs
  | .dcb kvs => ∃ vs, H a = some (dictB P w a vs) ∧ (a == sysModules) = false ∧ kvs.length ≤ 1000000 ∧ DPair K F kvs vs
  | .dcT kvs => ∃ xs, H a = some (dictT P w a xs) ∧ (a == sysModules) = false ∧ kvs.length ≤ 1000000 ∧ DPairT K F kvs xs
def RepF (K : PySem.W.Frag) (F : Hp) : List (Str × V) → List (Str × PV) → Prop
  | [], [] => True
  | x :: xs, y :: ys => x.1 = y.1 ∧ Rep K F x.2 y.2 ∧ RepF K F xs ys
  | _, _ => False
def RepC (K : PySem.W.Frag) (F H : Hp) (a : Addr) : MO → Prop
  | .dice => ∃ i j : Int, H a = some (.lst [.int i, .int j])
  | .lst xs => ∃ vs, H a = some (.lst vs) ∧ RepAll K F vs xs
  | .ins C fs => ∃ dx fv, H a = some (.ins C dx fv) ∧ H dx = some (.own a) ∧ F dx = none ∧ RepF K F fv fs

/-- the base of a frame: what stood at its entry, and the tables of code objects -/
structure Bs where
  P : Program
  F : Hp
  H : Hp
  m : Mem
  T : List (Addr × Str)
abbrev noTbl (o : HO) : Prop := ∀ ps, o ≠ .tbl ps
/-- from one state to a later one -/
structure Ext (F H : Hp) (m : Mem) (F' H' : Hp) (m' : Mem) : Prop where
  fz : Same F F'
  kp : ∀ a o, H a = some o → noTbl o → m a = none → H' a = some o
  ff : ∀ a u, H a = some u → noTbl u → F a = none → F' a = none
  mf : ∀ a u, H a = some u → noTbl u → m a = none → m' a = none
  st : ∀ a u, H a = some u → noTbl u → ∃ u', H' a = some u' ∧ noTbl u'
/-- nothing but a table -/
abbrev NoB (H : Hp) (a : Addr) : Prop := ∀ u, H a = some u → ¬ noTbl u
theorem Ext.refl (F H : Hp) (m : Mem) : Ext F H m F H m := ⟨Same.refl F, fun _ _ h _ _ => h, fun _ _ _ _ h => h, fun _ _ _ _ h => h, fun _ u h n => ⟨u, h, n⟩⟩
theorem Ext.trans {F H F1 H1 F2 H2 : Hp} {m m1 m2 : Mem} (a : Ext F H m F1 H1 m1) (b : Ext F1 H1 m1 F2 H2 m2) : Ext F H m F2 H2 m2 :=
  ⟨a.fz.trans b.fz, fun x o h n e => b.kp x o (a.kp x o h n e) n (a.mf x o h n e), fun x u h n e => let ⟨u', h', n'⟩ := a.st x u h n; b.ff x u' h' n' (a.ff x u h n e), fun x u h n e => let ⟨u', h', n'⟩ := a.st x u h n; b.mf x u' h' n' (a.mf x u h n e),
    fun x u h n => let ⟨u', h', n'⟩ := a.st x u h n; b.st x u' h' n'⟩
theorem Ext.free {F H F1 H1 : Hp} {m m1 : Mem} (a : Ext F H m F1 H1 m1) {x : Addr} (h : H1 x = none) : NoB H x := fun u e n => by
  obtain ⟨u', h', _⟩ := a.st x u e n
  rw [h] at h'; cases h'

/-- the state, as pure things -/
structure PSt (w : World) (K : PySem.W.Frag) (B : Bs) (F : Hp) (σ : L2.St) (H : Hp) (ρ : PEnv) (m : Mem) : Prop where
  len : ρ.length = σ.length
  sub : Same F H
  nt : ∀ a o, F a = some o → noTbl o
  val : ∀ (i : Nat) (p : PV), ρ[i]? = some (some (.val p)) → ∃ v, σ[i]? = some (some v) ∧ Rep K F v p
  own : ∀ (i : Nat) (o : OO), ρ[i]? = some (some (.own o)) → ∃ a, σ[i]? = some (some (.ref a)) ∧ F a = none ∧ m a = none ∧ NoB B.H a ∧ RepO B.P w K F H a o
  apart : ∀ (i j : Nat) (o o' : OO) (a : Addr), i ≠ j → ρ[i]? = some (some (.own o)) → ρ[j]? = some (some (.own o')) → σ[i]? = some (some (.ref a)) → σ[j]? ≠ some (some (.ref a))
  mem : ∀ a c, m a = some c → F a = none ∧ RepC K F H a c
  ext : Ext B.F B.H B.m F H m
  tab : LamX.Tabs B.T H

theorem DPair.mono {κ : Type} {K : PySem.W.Frag} {F F' : Hp} (e : Same F F') {xs : List (κ × PV)} {ys : List (κ × Value)} (r : DPair K F xs ys) : DPair K F' xs ys := Paired.mapP r fun p q ⟨h1, v, h2, h3⟩ => ⟨h1, v, h2, h3.mono e⟩
theorem DPairT.mono {K : PySem.W.Frag} {F F' : Hp} (e : Same F F') {xs ys} (r : DPairT K F xs ys) : DPairT K F' xs ys := Paired.mapP r fun p q ⟨h1, h0, v, h2, h3⟩ => ⟨h1, same_t e h0, v, h2, h3.mono e⟩
theorem RepO.at {P : Program} {w : World} {K : PySem.W.Frag} {F H : Hp} {a : Addr} {o : OO} (x : RepO P w K F H a o) : ∃ u, H a = some u ∧ noTbl u ∧ ∀ b, u ≠ .own b := by
  cases o with
  | lst xs => obtain ⟨vs, h1, r⟩ := x; exact ⟨_, h1, (fun ps z => nomatch z), fun b z => nomatch z⟩
  | dct kvs => obtain ⟨vs, h1, r⟩ := x; exact ⟨_, h1, (fun ps z => by unfold dictO at z; cases z), fun b z => by unfold dictO at z; cases z⟩
  | dcb kvs => obtain ⟨vs, h1, r⟩ := x; exact ⟨_, h1, (fun ps z => by unfold dictB at z; cases z), fun b z => by unfold dictB at z; cases z⟩
  | dcT kvs => obtain ⟨vs, h1, r⟩ := x; exact ⟨_, h1, (fun ps z => by unfold dictT at z; cases z), fun b z => by unfold dictT at z; cases z⟩
theorem RepO.keep {P : Program} {w : World} {K : PySem.W.Frag} {F F' H H' : Hp} {a : Addr} {o : OO} (x : RepO P w K F H a o) (e : Same F F') (h : ∀ u, H a = some u → noTbl u → H' a = some u) : RepO P w K F' H' a o := by
  obtain ⟨u, hu, nt, _⟩ := x.at
  have hu' := h u hu nt
  cases o with
  | lst xs => obtain ⟨vs, h1, r⟩ := x; rw [hu] at h1; cases h1; exact ⟨vs, hu', r.mono e⟩
  | dct kvs => obtain ⟨vs, h1, h2, h3, r⟩ := x; rw [hu] at h1; cases h1; exact ⟨vs, hu', h2, h3, r.mono e⟩
  | dcb kvs => obtain ⟨vs, h1, h2, h3, r⟩ := x; rw [hu] at h1; cases h1; exact ⟨vs, hu', h2, h3, r.mono e⟩
  | dcT kvs => obtain ⟨vs, h1, h2, h3, r⟩ := x; rw [hu] at h1; cases h1; exact ⟨vs, hu', h2, h3, r.mono e⟩
theorem RepF.mono {K : PySem.W.Frag} {F F' : Hp} (e : Same F F') : ∀ {xs : List (Str × V)} {ys : List (Str × PV)}, RepF K F xs ys → RepF K F' xs ys
  | [], [], _ => trivial
  | _ :: _, _ :: _, ⟨h1, h2, h3⟩ => ⟨h1, h2.mono e, RepF.mono e h3⟩
  | [], _ :: _, h => h
  | _ :: _, [], h => h

/-! ### the judgements -/
abbrev KV' := PV → Mem → Prop
abbrev KX := Addr → Mem → Prop
abbrev DE := PEnv → Mem → KV' → KX → Prop
abbrev DT := PEnv → Mem → (Bool → Mem → Prop) → KX → Prop
abbrev DA := PEnv → Mem → (List PV → Mem → Prop) → KX → Prop
abbrev PX := PEnv → Addr → Mem → Prop
structure PEnds where
  nx : PEnv → Mem → Prop
  rt : KV'
  ex : PX
  bk : PEnv → Mem → Prop := fun _ _ => False
  ct : PEnv → Mem → Prop := fun _ _ => False
abbrev DS := PEnv → Mem → PEnds → Prop

/-- the wish of an exception, told by R -/
def WR (X : Cx) (B : Bs) (R : PX) : WX := fun cls d σ H => ∃ F ρ m C, cls = .ref C ∧ d = none ∧ PSt X.w X.K B F σ H ρ m ∧ R ρ C m

def EPP (X : Cx) (B : Bs) (pins : List (Addr × Obj)) (σ : L2.St) (ρ : PEnv) (F H : Hp) (m : Mem) (Q : KV') (u : Value) (s' : Shared) : Prop :=
  ∃ v p F' H' m', Inv X pins σ H' s' ∧ PSt X.w X.K B F' σ H' ρ m' ∧ Ext F H m F' H' m' ∧ RelV v u ∧ Rep X.K F' v p ∧ Q p m'
structure JE (X : Cx) (B : Bs) (e : Expr) (t : DE) : Prop where
  run : ∀ (R : PX), L2N.Takes X (WR X B R) → ∀ (pins : List (Addr × Obj)) (s : Shared) (σ : L2.St) (F H : Hp) (ρ : PEnv) (m : Mem) (Q : KV'), Inv X pins σ H s → PSt X.w X.K B F σ H ρ m → t ρ m Q (R ρ) →
    wpAny (model X.prog X.w) X.A (eval e X.env) (EPP X B pins σ ρ F H m Q) X.xe s
structure JT (X : Cx) (B : Bs) (e : Expr) (t : DT) : Prop where
  run : ∀ (R : PX), L2N.Takes X (WR X B R) → ∀ (pins : List (Addr × Obj)) (s : Shared) (σ : L2.St) (F H : Hp) (ρ : PEnv) (m : Mem) (Q : Bool → Mem → Prop), Inv X pins σ H s → PSt X.w X.K B F σ H ρ m → t ρ m Q (R ρ) →
    wpAny (model X.prog X.w) X.A (isTrue e X.env (eval e X.env)) (fun b s' => ∃ F' H' m', Inv X pins σ H' s' ∧ PSt X.w X.K B F' σ H' ρ m' ∧ Ext F H m F' H' m' ∧ Q b m') X.xe s

/-- as a reading of the hand layer -/
def tE (X : Cx) (B : Bs) (R : PX) (t : DE) : TE := fun σ H Q => ∃ F ρ m Qp, PSt X.w X.K B F σ H ρ m ∧ t ρ m Qp (R ρ) ∧
  ∀ v p F' H' m', PSt X.w X.K B F' σ H' ρ m' → Ext F H m F' H' m' → Rep X.K F' v p → Qp p m' → Q v H'
def tT (X : Cx) (B : Bs) (R : PX) (t : DT) : TT := fun σ H Q => ∃ F ρ m Qp, PSt X.w X.K B F σ H ρ m ∧ t ρ m Qp (R ρ) ∧
  ∀ b F' H' m', PSt X.w X.K B F' σ H' ρ m' → Ext F H m F' H' m' → Qp b m' → Q b H'
section
variable {X : Cx} {B : Bs} {e : Expr}
theorem JE.pe {t : DE} (h : JE X B e t) {R : PX} (tk : L2N.Takes X (WR X B R)) : PE X e (tE X B R t) := by
  refine ⟨fun pins s σ H Q I ⟨F, ρ, m, Qp, st, ht, k⟩ => ?_⟩
  exact thn (h.run R tk pins s σ F H ρ m Qp I st ht) fun u s' ⟨v, p, F', H', m', I', st', ex, r, rp, q⟩ => ⟨v, H', I', r, k v p F' H' m' st' ex rp q⟩
theorem JT.pt {t : DT} (h : JT X B e t) {R : PX} (tk : L2N.Takes X (WR X B R)) : PT X e (tT X B R t) := by
  refine ⟨fun pins s σ H Q I ⟨F, ρ, m, Qp, st, ht, k⟩ => ?_⟩
  exact thn (h.run R tk pins s σ F H ρ m Qp I st ht) fun b s' ⟨F', H', m', I', st', ex, q⟩ => ⟨H', I', k b F' H' m' st' ex q⟩
/-- from a hand layer's rule -/
theorem JE.of {t : DE} (h : ∀ R, L2N.Takes X (WR X B R) → ∃ te, PE X e te ∧ ∀ F σ H ρ m Q, PSt X.w X.K B F σ H ρ m → t ρ m Q (R ρ) →
    te σ H fun v H' => ∃ p F' m', PSt X.w X.K B F' σ H' ρ m' ∧ Ext F H m F' H' m' ∧ Rep X.K F' v p ∧ Q p m') : JE X B e t := by
  refine ⟨fun R tk pins s σ F H ρ m Q I st ht => ?_⟩
  obtain ⟨te, hp, hk⟩ := h R tk
  exact thn (hp.run pins s σ H _ I (hk F σ H ρ m Q st ht)) fun u s' ⟨v, H', I', r, p, F', m', st', ex, rp, q⟩ => ⟨v, p, F', H', m', I', st', ex, r, rp, q⟩
theorem JT.of {t : DT} (h : ∀ R, L2N.Takes X (WR X B R) → ∃ te, PT X e te ∧ ∀ F σ H ρ m Q, PSt X.w X.K B F σ H ρ m → t ρ m Q (R ρ) →
    te σ H fun b H' => ∃ F' m', PSt X.w X.K B F' σ H' ρ m' ∧ Ext F H m F' H' m' ∧ Q b m') : JT X B e t := by
  refine ⟨fun R tk pins s σ F H ρ m Q I st ht => ?_⟩
  obtain ⟨te, hp, hk⟩ := h R tk
  exact thn (hp.run pins s σ H _ I (hk F σ H ρ m Q st ht)) fun b s' ⟨H', I', F', m', st', ex, q⟩ => ⟨F', H', m', I', st', ex, q⟩
end
end PL


namespace PL
open PySem PySem.Spec PyProof.Rows L2

/-! ### slots -/
@[simp] def at' : PEnv → Nat → Option SV
  | [], _ => none
  | x :: _, 0 => x
  | _ :: r, n + 1 => at' r n
@[simp] def put : PEnv → Nat → Option SV → PEnv
  | [], _, _ => []
  | _ :: r, 0, v => v :: r
  | x :: r, n + 1, v => x :: put r n v
theorem at_get : ∀ {ρ : PEnv} {i : Nat} {v : SV}, at' ρ i = some v → ρ[i]? = some (some v)
  | [], _, _, h => nomatch h
  | x :: r, 0, v, h => by simp only [at'] at h; simp [h]
  | x :: r, n + 1, v, h => by simpa using at_get (ρ := r) (i := n) (v := v) h
theorem get_at : ∀ {ρ : PEnv} {i : Nat} {v : SV}, ρ[i]? = some (some v) → at' ρ i = some v
  | [], _, _, h => by simp at h
  | x :: r, 0, v, h => by simpa [at'] using h
  | x :: r, n + 1, v, h => by simpa [at'] using get_at (ρ := r) (i := n) (v := v) (by simpa using h)
theorem put_set : ∀ (ρ : PEnv) (i : Nat) (v : Option SV), put ρ i v = ρ.set i v
  | [], _, _ => rfl
  | _ :: _, 0, _ => rfl
  | _ :: r, n + 1, v => by simp [put, put_set r n v]
theorem put_len (ρ : PEnv) (i : Nat) (v : Option SV) : (put ρ i v).length = ρ.length := by rw [put_set, List.length_set]

section
variable {w : World} {K : PySem.W.Frag} {B : Bs} {F H : Hp} {σ : L2.St} {ρ : PEnv} {m : Mem}
theorem Ext.new {p : Addr} {o : HO} (hs : Same F H) (h : H p = none) : Ext F H m (upd F p o) (upd H p o) m := by
  have hF : F p = none := hs.free h
  exact ⟨fun a u e => by rw [upd_ne (ne_of_none e hF)]; exact e, fun a u e _ _ => by rw [upd_ne (ne_of_none e h)]; exact e, fun a u hu _ e => by rw [upd_ne (ne_of_none hu h)]; exact e, fun _ _ _ _ e => e, fun a u hu n => ⟨u, by rw [upd_ne (ne_of_none hu h)]; exact hu, n⟩⟩
/-- a tracked object that is not frozen -/
theorem Ext.newH {p : Addr} {o : HO} (hs : Same F H) (h : H p = none) : Ext F H m F (upd H p o) m := by
  exact ⟨Same.refl F, fun a u e _ _ => by rw [upd_ne (ne_of_none e h)]; exact e, fun _ _ _ _ e => e, fun _ _ _ _ e => e, fun a u hu n => ⟨u, by rw [upd_ne (ne_of_none hu h)]; exact hu, n⟩⟩
theorem RepC.keep {F' H' : Hp} {a : Addr} {c : MO} (x : RepC K F H a c) (e : Same F F') (h : ∀ b u, H b = some u → noTbl u → H' b = some u) (hf : ∀ b y, F b = none → H b = some (.own y) → F' b = none) : RepC K F' H' a c := by
  cases c with
  | dice => obtain ⟨i, j, e1⟩ := x; exact ⟨i, j, h _ _ e1 (fun ps z => nomatch z)⟩
  | lst xs => obtain ⟨vs, e1, r⟩ := x; exact ⟨vs, h _ _ e1 (fun ps z => nomatch z), r.mono e⟩
  | ins C fs =>
    obtain ⟨dx, fv, e1, e0, e2, e3⟩ := x
    exact ⟨dx, fv, h _ _ e1 (fun ps z => nomatch z), h _ _ e0 (fun ps z => nomatch z), hf _ _ e2 e0, e3.mono e⟩
/-- a step that leaves the frame's own things alone -/
theorem PSt.step {F' H' : Hp} {m' : Mem} (st : PSt w K B F σ H ρ m) (sub : Same F' H') (nt : ∀ a o, F' a = some o → noTbl o) (ex : Ext F H m F' H' m') (mem : ∀ a c, m' a = some c → F' a = none ∧ RepC K F' H' a c) (tab : LamX.Tabs B.T H') : PSt w K B F' σ H' ρ m' := by
  refine ⟨st.len, sub, nt, fun i p h => ?_, fun i o h => ?_, st.apart, mem, st.ext.trans ex, tab⟩
  · obtain ⟨v, h1, h2⟩ := st.val i p h
    exact ⟨v, h1, h2.mono ex.fz⟩
  · obtain ⟨a, h1, h2, h3, h4, h5⟩ := st.own i o h
    obtain ⟨u, hu, n, _⟩ := RepO.at h5
    exact ⟨a, h1, ex.ff a u hu n h2, ex.mf a u hu n h3, h4, h5.keep ex.fz fun u hu n => ex.kp a u hu n h3⟩
theorem mem_new {p : Addr} {o : HO} (st : PSt w K B F σ H ρ m) (h : H p = none) : ∀ a c, m a = some c → (upd F p o) a = none ∧ RepC K (upd F p o) (upd H p o) a c := fun a c e => by
  obtain ⟨h1, h2⟩ := st.mem a c e
  have hF : F p = none := st.sub.free h
  have ne : a ≠ p := by
    rintro rfl
    cases c with
    | dice => obtain ⟨i, j, e1⟩ := h2; rw [h] at e1; cases e1
    | lst xs => obtain ⟨vs, e1, _⟩ := h2; rw [h] at e1; cases e1
    | ins C fs => obtain ⟨dx, fv, e1, _⟩ := h2; rw [h] at e1; cases e1
  refine ⟨by rw [upd_ne ne]; exact h1, h2.keep (fun b u e => by rw [upd_ne (ne_of_none e hF)]; exact e) (fun b u hu _ => by rw [upd_ne (ne_of_none hu h)]; exact hu) (fun b y hb ho => ?_)⟩
  rw [upd_ne (ne_of_none ho h)]; exact hb
end
section
variable {X : Cx} {B : Bs} {F H : Hp} {σ : L2.St} {ρ : PEnv} {m : Mem}
/-- a new frozen object -/
theorem PSt.new {w : World} {K : PySem.W.Frag} {p : Addr} {o : HO} (st : PSt w K B F σ H ρ m) (h : H p = none) (nt : noTbl o) :
    PSt w K B (upd F p o) σ (upd H p o) ρ m ∧ Ext F H m (upd F p o) (upd H p o) m := by
  have ex : Ext F H m (upd F p o) (upd H p o) m := Ext.new st.sub h
  refine ⟨st.step ?_ ?_ ex (mem_new st h) (st.tab.ext fun a u e => by rw [upd_ne (ne_of_none e h)]; exact e), ex⟩
  · intro a u e
    by_cases q : a = p
    · subst q; rw [upd_same] at e; rw [upd_same]; exact e
    · rw [upd_ne q] at e; rw [upd_ne q]; exact st.sub a u e
  · intro a u e
    by_cases q : a = p
    · subst q; rw [upd_same] at e; cases e; exact nt
    · rw [upd_ne q] at e; exact st.nt a u e

/-! ### names, constants -/
@[simp] def wVar (i : Nat) : DE := fun ρ m Q _ => match at' ρ i with
  | some (.val p) => Q p m
  | _ => False
@[simp] def wC (p : PV) : DE := fun _ m Q _ => Q p m
theorem je_var {x : Str} {pos : Pos} (i : Nat) (hN : X.N[i]? = some x := by rfl) (hv : Vis X.env.scope x := by first | exact Or.inl rfl | exact Or.inr (Or.inl rfl) | exact Or.inr (Or.inr rfl)) (hd : (x == ("__debug__" : Str)) = false := by decide)
    (hcd : (x == ("__classdict__" : Str)) = false := by decide) : JE X B (.Name x pos) (wVar i) := .of fun R tk => ⟨_, pe_var (i := i) hN hv hd hcd, fun F σ H ρ m Q st h => by
  unfold wVar at h
  split at h
  · rename_i p e
    obtain ⟨v, h1, h2⟩ := st.val i p (at_get e)
    exact ⟨v, h1, p, F, m, st, Ext.refl _ _ _, h2, h⟩
  · exact h.elim⟩
theorem je_int {i : Int} {j pos} : JE X B (.Constant (.int i) j pos) (wC (.int i)) := .of fun R tk => ⟨_, pe_int, fun F σ H ρ m Q st h => ⟨_, F, m, st, Ext.refl _ _ _, .int i, h⟩⟩
theorem je_bl {b : Bool} {j pos} : JE X B (.Constant (.bool b) j pos) (wC (.bl b)) := .of fun R tk => ⟨_, pe_bl, fun F σ H ρ m Q st h => ⟨_, F, m, st, Ext.refl _ _ _, .bl b, h⟩⟩
theorem je_non {j pos} : JE X B (.Constant .none j pos) (wC .non) := .of fun R tk => ⟨_, pe_non, fun F σ H ρ m Q st h => ⟨_, F, m, st, Ext.refl _ _ _, .non, h⟩⟩
theorem je_str {x : Str} {j pos} : JE X B (.Constant (.str x) j pos) (wC (.str x)) := .of fun R tk => ⟨_, pe_str, fun F σ H ρ m Q st h => ⟨_, F, m, st, Ext.refl _ _ _, .str x, h⟩⟩
/-- a module's constant -/
theorem je_glob {x : Str} {v : V} {u : Value} {p : PV} {pos : Pos} (hm : X.mg x = some u) (r : RelV v u) (rp : ∀ F, Rep X.K F v p) (hg : Gl X x := by rfl) (hd : (x == ("__debug__" : Str)) = false := by decide) : JE X B (.Name x pos) (wC p) :=
  .of fun R tk => ⟨_, pe_glob hg hm r hd, fun F σ H ρ m Q st h => ⟨_, F, m, st, Ext.refl _ _ _, rp F, h⟩⟩
/-- a built-in's name as a value -/
theorem je_blt {x : Str} {v : V} {u : Value} {pos : Pos} (hm : X.mg x = none) (hv : bootBuiltins x = some u := by decide +kernel) (r : RelV v u := by rfl) (hg : Gl X x := by rfl) (hn : x ≠ "__name__" := by decide) (hd : (x == ("__debug__" : Str)) = false := by decide) : JE X B (.Name x pos) (wC (.raw v)) :=
  .of fun R tk => ⟨_, pe_bltn hg hm hv r hn hd, fun F σ H ρ m Q st h => ⟨_, F, m, st, Ext.refl _ _ _, .raw v, h⟩⟩

/-! ### operations on values -/
abbrev G1 := PV → (PV → Prop) → Prop
abbrev G2 := PV → PV → (PV → Prop) → Prop
def EPG (X : Cx) (B : Bs) (pins : List (Addr × Obj)) (σ : L2.St) (ρ : PEnv) (F H : Hp) (m : Mem) (Q : PV → Prop) (u : Value) (s' : Shared) : Prop :=
  ∃ v p F' H', Inv X pins σ H' s' ∧ PSt X.w X.K B F' σ H' ρ m ∧ Ext F H m F' H' m ∧ RelV v u ∧ Rep X.K F' v p ∧ Q p
def Op2 (X : Cx) (f : Value → Value → Sem Value) (g : G2) : Prop :=
  ∀ (B : Bs) (pins : List (Addr × Obj)) (s : Shared) (σ : L2.St) (F H : Hp) (ρ : PEnv) (m : Mem) (x y : V) (v u : Value) (p q : PV) (Q : PV → Prop), Inv X pins σ H s → PSt X.w X.K B F σ H ρ m → RelV x v → RelV y u → Rep X.K F x p → Rep X.K F y q → g p q Q →
    wpAny (model X.prog X.w) X.A (f v u) (EPG X B pins σ ρ F H m Q) X.xe s
theorem Op2.of {f : Value → Value → Sem Value} {r : R2} {g : G2} (h : OpR X f r)
    (k : ∀ (B : Bs) (F H : Hp) (σ : L2.St) (ρ : PEnv) (m : Mem) (x y : V) (p q : PV) (Q : PV → Prop), PSt X.w X.K B F σ H ρ m → Rep X.K F x p → Rep X.K F y q → g p q Q →
      r x y H fun v H' => ∃ p F', PSt X.w X.K B F' σ H' ρ m ∧ Ext F H m F' H' m ∧ Rep X.K F' v p ∧ Q p) : Op2 X f g := by
  intro B pins s σ F H ρ m x y v u p q Q I st rx ry rp rq hg
  exact thn (h pins s σ H x y v u _ I rx ry (k B F H σ ρ m x y p q Q st rp rq hg)) fun u s' ⟨v, H', I', r, p, F', st', ex, rp, q⟩ => ⟨v, p, F', H', I', st', ex, r, rp, q⟩
@[simp] def wOp (g : G2) (a b : DE) : DE := fun ρ m Q R => a ρ m (fun x m1 => b ρ m1 (fun y m2 => g x y fun z => Q z m2) R) R
variable {a b c : Expr} {ta tb tc : DE} {pos : Pos}
/-- two expressions in a row -/
theorem bin2 (ha : JE X B a ta) (hb : JE X B b tb) {R : PX} (tk : L2N.Takes X (WR X B R)) {pins : List (Addr × Obj)} {s : Shared} {G : PV → PV → Mem → Prop} (I : Inv X pins σ H s) (st : PSt X.w X.K B F σ H ρ m)
    (h : ta ρ m (fun x m1 => tb ρ m1 (fun y m2 => G x y m2) (R ρ)) (R ρ)) {α : Type} {Q : α → Shared → Prop} {f : Value → Value → Sem α}
    (hf : ∀ v u s2 x y p q F2 H2 m2, Inv X pins σ H2 s2 → PSt X.w X.K B F2 σ H2 ρ m2 → Ext F H m F2 H2 m2 → RelV x v → RelV y u → Rep X.K F2 x p → Rep X.K F2 y q → G p q m2 → wpAny (model X.prog X.w) X.A (f v u) Q X.xe s2) :
    wpAny (model X.prog X.w) X.A (eval a X.env) (fun v s₁ => wpAny (model X.prog X.w) X.A (eval b X.env) (fun u s₂ => wpAny (model X.prog X.w) X.A (f v u) Q X.xe s₂) X.xe s₁) X.xe s := by
  refine thn (ha.run R tk pins s σ F H ρ m _ I st h) fun v s1 ⟨x, p, F1, H1, m1, I1, st1, ex1, r1, rp1, q1⟩ => ?_
  refine thn (hb.run R tk pins s1 σ F1 H1 ρ m1 _ I1 st1 q1) fun u s2 ⟨y, q, F2, H2, m2, I2, st2, ex2, r2, rp2, q2⟩ => ?_
  exact hf v u s2 x y p q F2 H2 m2 I2 st2 (ex1.trans ex2) r1 r2 (rp1.mono ex2.fz) rp2 q2
theorem epg {pins : List (Addr × Obj)} {F0 H0 : Hp} {m0 : Mem} {Q : KV'} {u : Value} {s' : Shared} (ex : Ext F0 H0 m0 F H m) (h : EPG X B pins σ ρ F H m (fun z => Q z m) u s') : EPP X B pins σ ρ F0 H0 m0 Q u s' := by
  obtain ⟨v, p, F', H', I', st', ex', r, rp, q⟩ := h
  exact ⟨v, p, F', H', m, I', st', ex.trans ex', r, rp, q⟩
theorem je_op {op : Operator} {g : G2} (ho : Op2 X (binaryOp op) g) (ha : JE X B a ta) (hb : JE X B b tb) : JE X B (.BinOp a op b pos) (wOp g ta tb) := by
  refine ⟨fun R tk pins s σ F H ρ m Q I st h => ?_⟩
  exact wpAny_BinOp (bin2 ha hb tk I st h fun v u s2 x y p q F2 H2 m2 I2 st2 ex rx ry rp rq g2 => thn (ho B pins s2 σ F2 H2 ρ m2 x y v u p q _ I2 st2 rx ry rp rq g2) fun u s' h => epg ex h)
theorem je_cmp {op : CmpOp} {g : G2} (ho : Op2 X (compareOp op) g) (ha : JE X B a ta) (hb : JE X B b tb) (hm : behindInMarks op b = false := by first | exact nomark _ | rfl) : JE X B (.Compare a [op] [b] pos) (wOp g ta tb) := by
  refine ⟨fun R tk pins s σ F H ρ m Q I st h => ?_⟩
  exact wpAny_Compare1 (bin2 ha hb tk I st h fun v u s2 x y p q F2 H2 m2 I2 st2 ex rx ry rp rq g2 => thn (ho B pins s2 σ F2 H2 ρ m2 x y v u p q _ I2 st2 rx ry rp rq g2) fun u s' h => epg ex h) hm
/-- as a test -/
@[simp] def bTst (Q : Bool → Prop) : PV → Prop
  | .bl b => Q b
  | _ => False
@[simp] def wTst (t : DE) : DT := fun ρ m Q R => t ρ m (fun z m1 => bTst (fun b => Q b m1) z) R
theorem bTst_bl {Q : Bool → Prop} {z : PV} (h : bTst Q z) : ∃ b, z = .bl b ∧ Q b := by
  cases z <;> first | exact ⟨_, rfl, h⟩ | exact h.elim
theorem jt_cmp {op : CmpOp} {g : G2} (ho : Op2 X (compareOp op) g) (ha : JE X B a ta) (hb : JE X B b tb) (hm : behindInMarks op b = false := by first | exact nomark _ | rfl) : JT X B (.Compare a [op] [b] pos) (wTst (wOp g ta tb)) := by
  refine ⟨fun R tk pins s σ F H ρ m Q I st h => ?_⟩
  refine wpAny_isTrue_Compare1 (thn (ha.run R tk pins s σ F H ρ m _ I st h) fun v s1 ⟨x, p, F1, H1, m1, I1, st1, ex1, r1, rp1, q1⟩ => ?_) hm
  refine thn (hb.run R tk pins s1 σ F1 H1 ρ m1 _ I1 st1 q1) fun u s2 ⟨y, q, F2, H2, m2, I2, st2, ex2, r2, rp2, q2⟩ => ?_
  refine thn (ho B pins s2 σ F2 H2 ρ m2 x y v u p q _ I2 st2 r1 r2 (rp1.mono ex2.fz) rp2 q2) fun c s3 ⟨z, pz, F3, H3, I3, st3, ex3, r3, rp3, q3⟩ => ?_
  obtain ⟨d, e, q⟩ := bTst_bl q3
  subst e
  cases rp3
  cases r3
  exact wpAny_truthy_bool ⟨F3, H3, m2, I3, st3, (ex1.trans ex2).trans ex3, q⟩
/-- an expression whose value is a bool, as a test -/
theorem jt_val {e : Expr} {t : DE} (h : JE X B e t) (he : ∀ whole, isTrue e X.env whole = (do let v ← whole; standAt e.pos; holding [v] (truthy v)) := by intro _; rfl) : JT X B e (wTst t) := by
  refine ⟨fun R tk pins s σ F H ρ m Q I st hw => ?_⟩
  refine isTrue_plain (thn (h.run R tk pins s σ F H ρ m _ I st hw) fun v s1 ⟨x, p, F1, H1, m1, I1, st1, ex1, r1, rp1, q1⟩ => ?_) (he _)
  obtain ⟨d, e, q⟩ := bTst_bl q1
  subst e
  cases rp1
  cases r1
  exact wpAny_truthy_bool ⟨F1, H1, m1, I1, st1, ex1, q⟩
end
end PL


namespace PL
open PySem PySem.Spec PyProof.Rows L2

section
variable {X : Cx} {B : Bs} {a b c : Expr} {rest : List Expr} {ta tb tc : DE} {tA tB' : DT} {pos : Pos}
/-! ### and, or, not, if else -/
/-- a test whatever its 'whole' is -/
structure JW (X : Cx) (B : Bs) (e : Expr) (t : DT) : Prop where
  run : ∀ (R : PX), L2N.Takes X (WR X B R) → ∀ (whole : Sem Value) (pins : List (Addr × Obj)) (s : Shared) (σ : L2.St) (F H : Hp) (ρ : PEnv) (m : Mem) (Q : Bool → Mem → Prop), Inv X pins σ H s → PSt X.w X.K B F σ H ρ m → t ρ m Q (R ρ) →
    wpAny (model X.prog X.w) X.A (isTrue e X.env whole) (fun b s' => ∃ F' H' m', Inv X pins σ H' s' ∧ PSt X.w X.K B F' σ H' ρ m' ∧ Ext F H m F' H' m' ∧ Q b m') X.xe s
theorem JW.jt {e : Expr} {t : DT} (h : JW X B e t) : JT X B e t := ⟨fun R tk => h.run R tk _⟩
@[simp] def wAnd (t u : DT) : DT := fun ρ m Q R => t ρ m (fun c m1 => match c with | true => u ρ m1 Q R | false => Q false m1) R
@[simp] def wOr (t u : DT) : DT := fun ρ m Q R => t ρ m (fun c m1 => match c with | true => Q true m1 | false => u ρ m1 Q R) R
@[simp] def wNot (t : DT) : DT := fun ρ m Q R => t ρ m (fun c m1 => Q (!c) m1) R
theorem jw_and1 (ha : JT X B a tA) : JW X B (.BoolOp .And [a] pos) tA := by
  refine ⟨fun R tk wh pins s σ F H ρ m Q I st h => ?_⟩
  refine isTrue_and (thn (ha.run R tk pins s σ F H ρ m Q I st h) fun c s1 e => ?_)
  cases c with
  | true => exact isTrue_and_nil e
  | false => exact e
theorem jw_or1 (ha : JT X B a tA) : JW X B (.BoolOp .Or [a] pos) tA := by
  refine ⟨fun R tk wh pins s σ F H ρ m Q I st h => ?_⟩
  refine isTrue_or (thn (ha.run R tk pins s σ F H ρ m Q I st h) fun c s1 e => ?_)
  cases c with
  | false => exact isTrue_or_nil e
  | true => exact e
theorem jw_and (ha : JT X B a tA) (hb : JW X B (.BoolOp .And (b :: rest) pos) tB') : JW X B (.BoolOp .And (a :: b :: rest) pos) (wAnd tA tB') := by
  refine ⟨fun R tk wh pins s σ F H ρ m Q I st h => ?_⟩
  refine isTrue_and (thn (ha.run R tk pins s σ F H ρ m _ I st h) fun c s1 ⟨F1, H1, m1, I1, st1, ex1, q1⟩ => ?_)
  cases c with
  | true => exact thn (hb.run R tk wh pins s1 σ F1 H1 ρ m1 Q I1 st1 q1) fun b s2 ⟨F2, H2, m2, I2, st2, ex2, q2⟩ => ⟨F2, H2, m2, I2, st2, ex1.trans ex2, q2⟩
  | false => exact ⟨F1, H1, m1, I1, st1, ex1, q1⟩
theorem jw_or (ha : JT X B a tA) (hb : JW X B (.BoolOp .Or (b :: rest) pos) tB') : JW X B (.BoolOp .Or (a :: b :: rest) pos) (wOr tA tB') := by
  refine ⟨fun R tk wh pins s σ F H ρ m Q I st h => ?_⟩
  refine isTrue_or (thn (ha.run R tk pins s σ F H ρ m _ I st h) fun c s1 ⟨F1, H1, m1, I1, st1, ex1, q1⟩ => ?_)
  cases c with
  | true => exact ⟨F1, H1, m1, I1, st1, ex1, q1⟩
  | false => exact thn (hb.run R tk wh pins s1 σ F1 H1 ρ m1 Q I1 st1 q1) fun b s2 ⟨F2, H2, m2, I2, st2, ex2, q2⟩ => ⟨F2, H2, m2, I2, st2, ex1.trans ex2, q2⟩
theorem jt_not (ha : JT X B a tA) : JT X B (.UnaryOp .Not a pos) (wNot tA) := by
  refine ⟨fun R tk pins s σ F H ρ m Q I st h => ?_⟩
  exact isTrue_not (thn (ha.run R tk pins s σ F H ρ m (fun c m1 => Q (!c) m1) I st h) fun c s1 q => q)
/-- .. as values; all but the last are bools -/
@[simp] def wAndV (ta tb : DE) : DE := fun ρ m Q R => ta ρ m (fun x m1 => bTst (fun c => match c with | true => tb ρ m1 Q R | false => Q (.bl false) m1) x) R
@[simp] def wOrV (ta tb : DE) : DE := fun ρ m Q R => ta ρ m (fun x m1 => bTst (fun c => match c with | true => Q (.bl true) m1 | false => tb ρ m1 Q R) x) R
@[simp] def wNotV (ta : DE) : DE := fun ρ m Q R => ta ρ m (fun x m1 => bTst (fun c => Q (.bl (!c)) m1) x) R
theorem je_one {op} {t : DE} (h : JE X B a t) : JE X B (.BoolOp op [a] pos) t := ⟨fun R tk pins s σ F H ρ m Q I st hw => BoolOp_one (h.run R tk pins s σ F H ρ m Q I st hw)⟩
theorem je_and (ha : JE X B a ta) (hb : JE X B (.BoolOp .And (b :: rest) pos) tb) : JE X B (.BoolOp .And (a :: b :: rest) pos) (wAndV ta tb) := by
  refine ⟨fun R tk pins s σ F H ρ m Q I st h => ?_⟩
  refine BoolOp_and (thn (ha.run R tk pins s σ F H ρ m _ I st h) fun v s1 ⟨x, p, F1, H1, m1, I1, st1, ex1, r1, rp1, q1⟩ => ?_)
  obtain ⟨c, e, q1⟩ := bTst_bl q1
  subst e
  cases rp1
  cases r1
  refine wpAny_truthy_bool ?_
  cases c with
  | true => exact thn (hb.run R tk pins s1 σ F1 H1 ρ m1 Q I1 st1 q1) fun u s2 ⟨x, p, F2, H2, m2, I2, st2, ex2, r2, rp2, q2⟩ => ⟨x, p, F2, H2, m2, I2, st2, ex1.trans ex2, r2, rp2, q2⟩
  | false => exact ⟨.bl false, _, F1, H1, m1, I1, st1, ex1, rfl, .bl false, q1⟩
theorem je_or (ha : JE X B a ta) (hb : JE X B (.BoolOp .Or (b :: rest) pos) tb) : JE X B (.BoolOp .Or (a :: b :: rest) pos) (wOrV ta tb) := by
  refine ⟨fun R tk pins s σ F H ρ m Q I st h => ?_⟩
  refine BoolOp_or (thn (ha.run R tk pins s σ F H ρ m _ I st h) fun v s1 ⟨x, p, F1, H1, m1, I1, st1, ex1, r1, rp1, q1⟩ => ?_)
  obtain ⟨c, e, q1⟩ := bTst_bl q1
  subst e
  cases rp1
  cases r1
  refine wpAny_truthy_bool ?_
  cases c with
  | false => exact thn (hb.run R tk pins s1 σ F1 H1 ρ m1 Q I1 st1 q1) fun u s2 ⟨x, p, F2, H2, m2, I2, st2, ex2, r2, rp2, q2⟩ => ⟨x, p, F2, H2, m2, I2, st2, ex1.trans ex2, r2, rp2, q2⟩
  | true => exact ⟨.bl true, _, F1, H1, m1, I1, st1, ex1, rfl, .bl true, q1⟩
theorem je_not (ha : JE X B a ta) : JE X B (.UnaryOp .Not a pos) (wNotV ta) := by
  refine ⟨fun R tk pins s σ F H ρ m Q I st h => ?_⟩
  refine UnaryOp_ (thn (ha.run R tk pins s σ F H ρ m _ I st h) fun v s1 ⟨x, p, F1, H1, m1, I1, st1, ex1, r1, rp1, q1⟩ => ?_)
  obtain ⟨c, e, q1⟩ := bTst_bl q1
  subst e
  cases rp1
  cases r1
  exact not_of (wpAny_truthy_bool ⟨.bl (!c), _, F1, H1, m1, I1, st1, ex1, rfl, .bl (!c), q1⟩)
@[simp] def wIf (t : DT) (ta tb : DE) : DE := fun ρ m Q R => t ρ m (fun c m1 => match c with | true => ta ρ m1 Q R | false => tb ρ m1 Q R) R
theorem je_if (hc : JT X B c tA) (ha : JE X B a ta) (hb : JE X B b tb) : JE X B (.IfExp c a b pos) (wIf tA ta tb) := by
  refine ⟨fun R tk pins s σ F H ρ m Q I st h => ?_⟩
  refine wpAny_IfExp (thn (hc.run R tk pins s σ F H ρ m _ I st h) fun d s1 ⟨F1, H1, m1, I1, st1, ex1, q1⟩ => ?_)
  cases d with
  | true => exact thn (ha.run R tk pins s1 σ F1 H1 ρ m1 Q I1 st1 q1) fun u s2 ⟨x, p, F2, H2, m2, I2, st2, ex2, r2, rp2, q2⟩ => ⟨x, p, F2, H2, m2, I2, st2, ex1.trans ex2, r2, rp2, q2⟩
  | false => exact thn (hb.run R tk pins s1 σ F1 H1 ρ m1 Q I1 st1 q1) fun u s2 ⟨x, p, F2, H2, m2, I2, st2, ex2, r2, rp2, q2⟩ => ⟨x, p, F2, H2, m2, I2, st2, ex1.trans ex2, r2, rp2, q2⟩
/-- a op1 b op2 c -/
@[simp] def wChain (g g' : G2) (ta tb tc : DE) : DE := fun ρ m Q R => ta ρ m (fun x m1 => tb ρ m1 (fun y m2 => g x y (bTst fun k => match k with
  | true => tc ρ m2 (fun z m3 => g' y z fun u => Q u m3) R
  | false => Q (.bl false) m2)) R) R
theorem je_chain {op op' : CmpOp} {g g' : G2} (ho : Op2 X (compareOp op) g) (ho' : Op2 X (compareOp op') g') (ha : JE X B a ta) (hb : JE X B b tb) (hc : JE X B c tc)
    (hm : lastMarks [op, op'] [b, c] = false := by with_unfolding_all rfl) : JE X B (.Compare a [op, op'] [b, c] pos) (wChain g g' ta tb tc) := by
  refine ⟨fun R tk pins s σ F H ρ m Q I st h => ?_⟩
  refine Compare_chain (thn (ha.run R tk pins s σ F H ρ m _ I st h) fun v s1 ⟨x, p, F1, H1, m1, I1, st1, ex1, r1, rp1, q1⟩ => chain_link (thn (hb.run R tk pins s1 σ F1 H1 ρ m1 _ I1 st1 q1) fun u s2 ⟨y, py, F2, H2, m2, I2, st2, ex2, r2, rp2, q2⟩ =>
    thn (ho B pins s2 σ F2 H2 ρ m2 x y v u p py _ I2 st2 r1 r2 (rp1.mono ex2.fz) rp2 q2) fun d s3 ⟨z, pz, F3, H3, I3, st3, ex3, r3, rp3, q3⟩ => ?_)) hm
  obtain ⟨k, e, q3⟩ := bTst_bl q3
  subst e
  cases rp3
  cases r3
  refine wpAny_truthy_bool ?_
  have ex13 := (ex1.trans ex2).trans ex3
  cases k with
  | false => exact ite_ff ⟨.bl false, _, F3, H3, m2, I3, st3, ex13, rfl, .bl false, q3⟩
  | true => exact ite_tt (chain_last (thn (hc.run R tk pins s3 σ F3 H3 ρ m2 _ I3 st3 q3) fun w' s4 ⟨z', pz', F4, H4, m4, I4, st4, ex4, r4, rp4, q4⟩ =>
      thn (ho' B pins s4 σ F4 H4 ρ m4 y z' u w' py pz' _ I4 st4 r2 r4 (rp2.mono (ex3.fz.trans ex4.fz)) rp4 q4) fun _ _ h => epg (ex13.trans ex4) h))

/-! ### argument lists, displays -/
structure JA (X : Cx) (B : Bs) (es : List Expr) (t : DA) : Prop where
  run : ∀ (R : PX), L2N.Takes X (WR X B R) → ∀ (pos : Pos) (pins : List (Addr × Obj)) (s : Shared) (σ : L2.St) (F H : Hp) (ρ : PEnv) (m : Mem) (Q : List PV → Mem → Prop), Inv X pins σ H s → PSt X.w X.K B F σ H ρ m → t ρ m Q (R ρ) →
    wpAny (model X.prog X.w) X.A (spliced (backTo pos (starEach es X.env))) (fun us s' => ∃ vs ps F' H' m', Inv X pins σ H' s' ∧ PSt X.w X.K B F' σ H' ρ m' ∧ Ext F H m F' H' m' ∧ Vals vs us ∧ RepAll X.K F' vs ps ∧ ps.length = es.length ∧ Q ps m') X.xe s
@[simp] def wNil : DA := fun _ m Q _ => Q [] m
@[simp] def wCons (ta : DE) (tr : DA) : DA := fun ρ m Q R => ta ρ m (fun x m1 => tr ρ m1 (fun xs m2 => Q (x :: xs) m2) R) R
theorem ja_nil : JA X B [] wNil := ⟨fun _ _ _ _ _ _ F H _ m Q I st h => Calls.spliced_nil ⟨[], [], F, H, m, I, st, Ext.refl _ _ _, .nil, .nil, rfl, h⟩⟩
theorem ja_cons {e : Expr} {es : List Expr} {te : DE} {t : DA} (ha : JE X B e te) (hr : JA X B es t) (hs : starEach (e :: es) X.env = (false, eval e X.env) :: starEach es X.env := by rfl) : JA X B (e :: es) (wCons te t) := by
  refine ⟨fun R tk pos pins s σ F H ρ m Q I st h => ?_⟩
  rw [hs]
  show wpAny _ _ (spliced ((false, eval e X.env) :: backTo pos (starEach es X.env))) _ _ s
  refine Calls.spliced_cons (thn (ha.run R tk pins s σ F H ρ m _ I st h) fun u s1 ⟨x, p, F1, H1, m1, I1, st1, ex1, r1, rp1, q1⟩ => ?_)
  exact thn (hr.run R tk pos pins s1 σ F1 H1 ρ m1 _ I1 st1 q1) fun us s2 ⟨xs, ps, F2, H2, m2, I2, st2, ex2, r2, rp2, hl2, q2⟩ => ⟨x :: xs, p :: ps, F2, H2, m2, I2, st2, ex1.trans ex2, .cons r1 r2, .cons (rp1.mono ex2.fz) rp2, congrArg Nat.succ hl2, q2⟩
@[simp] def wTup (t : DA) : DE := fun ρ m Q R => t ρ m (fun ps m1 => ps.length ≤ 1000 ∧ Q (.tup ps) m1) R
@[simp] def wLst (t : DA) : DE := fun ρ m Q R => t ρ m (fun ps m1 => ps.length ≤ 1000 ∧ Q (.lst ps) m1) R
theorem line1000 {n : Nat} (h : n ≤ 1000) : n ≤ sizeLine := Nat.le_trans h (by decide)
theorem je_tup {es : List Expr} {t : DA} {x1} (h : JA X B es t) : JE X B (.Tuple es x1 pos) (wTup t) := by
  refine ⟨fun R tk pins s σ F H ρ m Q I st hq => ?_⟩
  refine wpAny_Tuple_spliced (thn (h.run R tk pos pins s σ F H ρ m _ I st hq) fun us s1 ⟨xs, ps, F1, H1, m1, I1, st1, ex1, r, rp, _, hz, q⟩ => ⟨by rw [← r.length, rp.length]; exact line1000 hz, ?_⟩)
  have hf : H1 s1.heap.objs.size = none := I1.hok.fresh (Nat.le_refl _)
  obtain ⟨st2, ex2⟩ := st1.new (o := .tup xs) hf (fun ps z => nomatch z)
  refine ⟨.ref s1.heap.objs.size, .tup ps, _, _, m1, I1.laid (t' := s1.toks) (o := .tup xs) (fun b u e => Heap.get?_push_of_some _ e) (Nat.le_refl _) ?_, st2, ex1.trans ex2, rfl, .tup (SqT.of upd_same) (rp.mono ex2.fz), q⟩
  exact ⟨by rw [rp.length]; exact line1000 hz, us, r, ⟨_, Heap.get?_push_size _ rfl, rfl, _, rfl⟩⟩
theorem je_lst {es : List Expr} {t : DA} (h : JA X B es t) : JE X B (.List es pos) (wLst t) := by
  refine ⟨fun R tk pins s σ F H ρ m Q I st hq => ?_⟩
  refine wpAny_List_spliced (thn (h.run R tk pos pins s σ F H ρ m _ I st hq) fun us s1 ⟨xs, ps, F1, H1, m1, I1, st1, ex1, r, rp, _, hz, q⟩ => ⟨by rw [← r.length, rp.length]; exact line1000 hz, ?_⟩)
  have hf : H1 s1.heap.objs.size = none := I1.hok.fresh (Nat.le_refl _)
  obtain ⟨st2, ex2⟩ := st1.new (o := .lst xs) hf (fun ps z => nomatch z)
  refine ⟨.ref s1.heap.objs.size, .lst ps, _, _, m1, I1.laid (t' := s1.toks) (o := .lst xs) (fun b u e => Heap.get?_push_of_some _ e) (Nat.le_refl _) ?_, st2, ex1.trans ex2, rfl, .lst upd_same (rp.mono ex2.fz), q⟩
  exact ⟨by rw [rp.length]; exact line1000 hz, us, 0, r, Heap.get?_push_size _ rfl⟩

/-! ### built-in calls by values -/
abbrev GC := List PV → (PV → Prop) → Prop
def OpC (X : Cx) (f : Value) (g : GC) : Prop :=
  ∀ (B : Bs) (pins : List (Addr × Obj)) (s : Shared) (σ : L2.St) (F H : Hp) (ρ : PEnv) (m : Mem) (xs : List V) (us : List Value) (ps : List PV) (Q : PV → Prop), Inv X pins σ H s → PSt X.w X.K B F σ H ρ m → Vals xs us → RepAll X.K F xs ps → g ps Q →
    wpAny (model X.prog X.w) X.A (call f us) (EPG X B pins σ ρ F H m Q) X.xe s
theorem OpC.of {f : Value} {r : List V → Hp → VK → Prop} {g : GC} (h : CallR X f r)
    (k : ∀ (B : Bs) (F H : Hp) (σ : L2.St) (ρ : PEnv) (m : Mem) (xs : List V) (ps : List PV) (Q : PV → Prop), PSt X.w X.K B F σ H ρ m → RepAll X.K F xs ps → g ps Q →
      r xs H fun v H' => ∃ p F', PSt X.w X.K B F' σ H' ρ m ∧ Ext F H m F' H' m ∧ Rep X.K F' v p ∧ Q p) : OpC X f g := by
  intro B pins s σ F H ρ m xs us ps Q I st rx rp hg
  exact thn (h pins s σ H xs us _ I rx (k B F H σ ρ m xs ps Q st rp hg)) fun u s' ⟨v, H', I', r, p, F', st', ex, rp, q⟩ => ⟨v, p, F', H', I', st', ex, r, rp, q⟩
@[simp] def wCB (g : GC) (t : DA) : DE := fun ρ m Q R => t ρ m (fun ps m1 => g ps fun z => Q z m1) R
theorem je_callB {id : String} {x : Str} {p : Pos} {e : Expr} {es : List Expr} {g : GC} {t : DA} (hc : OpC X (.builtin id) g) (hm : X.mg x = none) (ha : JA X B (e :: es) t) (hv : bootBuiltins x = some (.builtin id) := by decide +kernel) (hg : Gl X x := by rfl)
    (hn : x ≠ "__name__" := by decide) (hdb : (x == ("__debug__" : Str)) = false := by decide) (he : starEach (e :: es) X.env = (false, eval e X.env) :: starEach es X.env := by rfl) (hpl : (backTo pos (starEach es X.env)).any (·.1) = false := by rfl) :
    JE X B (.Call (.Name x p) (e :: es) [] pos) (wCB g t) := by
  refine ⟨fun R tk pins s σ F H ρ m Q I st h => ?_⟩
  refine wpAny_Call_Name_kw (ld_blt I hg hm hv ?_ hn hdb)
  exact PyProof.Rows.callWith_builtin1 (thn (ha.run R tk pos pins s σ F H ρ m _ I st h) fun us s1 ⟨vs, ps, F1, H1, m1, I1, st1, ex1, r1, rp1, _, q1⟩ =>
    thn (hc B pins s1 σ F1 H1 ρ m1 vs us ps _ I1 st1 r1 rp1 q1) fun _ _ h => epg ex1 h) he hpl
theorem je_callTy {T : String} {x : Str} {p : Pos} {e : Expr} {es : List Expr} {g : GC} {t : DA} (hc : OpC X (.type T) g) (hm : X.mg x = none) (ha : JA X B (e :: es) t) (hv : bootBuiltins x = some (.type T) := by decide +kernel) (hg : Gl X x := by rfl)
    (hn : x ≠ "__name__" := by decide) (hdb : (x == ("__debug__" : Str)) = false := by decide) (he : starEach (e :: es) X.env = (false, eval e X.env) :: starEach es X.env := by rfl) (hpl : (backTo pos (starEach es X.env)).any (·.1) = false := by rfl) :
    JE X B (.Call (.Name x p) (e :: es) [] pos) (wCB g t) := by
  refine ⟨fun R tk pins s σ F H ρ m Q I st h => ?_⟩
  refine wpAny_Call_Name_kw (ld_blt I hg hm hv ?_ hn hdb)
  exact PyProof.Rows.callWith_type1 (thn (ha.run R tk pos pins s σ F H ρ m _ I st h) fun us s1 ⟨vs, ps, F1, H1, m1, I1, st1, ex1, r1, rp1, _, q1⟩ =>
    thn (hc B pins s1 σ F1 H1 ρ m1 vs us ps _ I1 st1 r1 rp1 q1) fun _ _ h => epg ex1 h) he hpl

/-! ### defs: what they promise -/
abbrev SpP := List PV → Mem → KV' → KX → Prop
/-- the promise as the hand layer's: T the tables -/
def spOf (w : World) (K : PySem.W.Frag) (T : List (Addr × Str)) (n : Nat) (S : SpP) : Sp := fun vs H Q E => ∃ F m ps Qp Rp, vs.length = n ∧ Same F H ∧ (∀ a o, F a = some o → noTbl o) ∧ (∀ a c, m a = some c → F a = none ∧ RepC K F H a c) ∧ LamX.Tabs T H ∧ RepAll K F vs ps ∧ S ps m Qp Rp ∧
  (∀ v p F' H' m', Same F' H' → (∀ a o, F' a = some o → noTbl o) → (∀ a c, m' a = some c → F' a = none ∧ RepC K F' H' a c) → LamX.Tabs T H' → Ext F H m F' H' m' → Rep K F' v p → Qp p m' → Q v H') ∧
  (∀ C F' H' m', Same F' H' → (∀ a o, F' a = some o → noTbl o) → (∀ a c, m' a = some c → F' a = none ∧ RepC K F' H' a c) → LamX.Tabs T H' → Ext F H m F' H' m' → Rp C m' → E (.ref C) none H')
/-- a def of the module, under its name, that keeps the pure promise S -/
theorem passAtN {W : WX} (tk : L2N.Takes X W) (σ : L2.St) : PassesAt (L2N.CX X.prog X.w) X σ (fun cls d H => W cls d σ H) := fun _ _ _ _ _ I c => tk _ _ (L2N.XE.of_call I (fun _ _ _ h => h) c)
structure CalM (P : Program) (w : World) (K : PySem.W.Frag) (mg : Str → Option Value) (base : Heap) (T : List (Addr × Str)) (k : Nat) (x : Str) (n : Nat) (S : SpP) : Prop where
  ex : ∃ (f : Addr) (fd : FuncData) (ps : List Str), FnOk P w K mg base (L2N.CX P w) k f fd ps (spOf w K T n S) ∧ mg x = some (.ref f) ∧ PySem.W.keepIn K (.ref f) = true ∧ Binds K fd ps []
@[simp] def wCall (S : SpP) (t : DA) : DE := fun ρ m Q R => t ρ m (fun ps m1 => S ps m1 Q R) R
theorem je_call {x : Str} {p : Pos} {e : Expr} {es : List Expr} {n k : Nat} {S : SpP} {t : DA} (c : CalM X.prog X.w X.K X.mg X.base B.T k x n S) (hr : Room k X.A) (ha : JA X B (e :: es) t) (hn : (e :: es).length = n := by rfl) (hg : Gl X x := by rfl) (hdb : (x == ("__debug__" : Str)) = false := by decide)
    (he : starEach (e :: es) X.env = (false, eval e X.env) :: starEach es X.env := by rfl) (hpl : (backTo pos (starEach es X.env)).any (·.1) = false := by rfl) :
    JE X B (.Call (.Name x p) (e :: es) [] pos) (wCall S t) := by
  obtain ⟨f, fd, ps, Fn, hm, hk, hb⟩ := c.ex
  refine ⟨fun R tk pins s σ F H ρ m Q I st h => ?_⟩
  refine wpAny_Call_Name_kw (ld_glob I hg hm ?_ hdb)
  refine PySem.W.callWith_K (h₀ := X.base) I.ok.mod.kin hk (thn (ha.run R tk pos pins s σ F H ρ m _ I st h) fun us s1 ⟨vs, ps', F1, H1, m1, I1, st1, ex1, r1, rp1, hl, q1⟩ => ⟨I1.kIn, ?_⟩) he hpl
  refine thn (run_fnSD (dvs := []) (ds := []) (E := fun σ cls d H => WR X B R cls d σ H)
    (Q := fun v H' => ∃ p F' m', PSt X.w X.K B F' σ H' ρ m' ∧ Ext F H m F' H' m' ∧ Rep X.K F' v p ∧ Q p m') Fn hr hb .nil (passAtN tk σ) I1 r1 ?_) fun u s' ⟨v, H', I', r, p, F', m', st', ex', rp, q⟩ => ⟨v, p, F', H', m', I', st', ex', r, rp, q⟩
  rw [List.append_nil]
  refine ⟨F1, m1, ps', Q, R ρ, by rw [rp1.length, hl, hn], st1.sub, st1.nt, st1.mem, st1.tab, rp1, q1, fun v p F' H' m' hs nt hm' ht ex rp q => ?_, fun C F' H' m' hs nt hm' ht ex q => ?_⟩
  · exact ⟨p, F', m', st1.step hs nt ex hm' ht, ex1.trans ex, rp, q⟩
  · exact ⟨F', ρ, m', C, rfl, rfl, st1.step hs nt ex hm' ht, q⟩
end
end PL


namespace PL
open PySem PySem.Spec PyProof.Rows L2

/-! ### values as data -/
mutual
def toD : PV → PyData
  | .non => .none
  | .bl b => .bool b
  | .int i => .int i
  | .str x => .str x
  | .tup xs => .tuple (toDs xs)
  | .lst xs => .list (toDs xs)
  | .scr ns => .list (ns.map .int)
  | .raw _ => .none
def toDs : List PV → List PyData
  | [] => []
  | x :: xs => toD x :: toDs xs
end
mutual
/-- a value that may be compared -/
def okD : PV → Bool
  | .non | .bl _ | .int _ => true
  | .str x => PyData.strOk x
  | .tup xs | .lst xs => okDs xs
  | .scr _ => true
  | .raw _ => false
def okDs : List PV → Bool
  | [] => true
  | x :: xs => okD x && okDs xs
end
theorem canLay_ints : ∀ ns : List Int, PyData.canLayAll0 (ns.map .int) = true
  | [] => by simp [PyData.canLayAll0]
  | n :: ns => by simp [PyData.canLayAll0, PyData.canLay0, canLay_ints ns]
mutual
theorem ok_lay : ∀ {p : PV}, okD p = true → (toD p).canLay0 = true
  | .non, _ => by simp [toD, PyData.canLay0]
  | .bl _, _ => by simp [toD, PyData.canLay0]
  | .int _, _ => by simp [toD, PyData.canLay0]
  | .str x, h => by simpa [toD, PyData.canLay0, okD] using h
  | .tup xs, h => by simpa [toD, PyData.canLay0] using ok_lays (by simpa [okD] using h)
  | .lst xs, h => by simpa [toD, PyData.canLay0] using ok_lays (by simpa [okD] using h)
  | .scr ns, _ => by simp only [toD, PyData.canLay0]; exact canLay_ints ns
  | .raw _, h => by simp [okD] at h
theorem ok_lays : ∀ {ps : List PV}, okDs ps = true → PyData.canLayAll0 (toDs ps) = true
  | [], _ => by simp [toDs, PyData.canLayAll0]
  | p :: ps, h => by
    simp only [okDs, Bool.and_eq_true] at h
    simp [toDs, PyData.canLayAll0, ok_lay h.1, ok_lays h.2]
end

/-- how deep -/
def dep (p : PV) : Nat := (toD p).depth
def peq (p q : PV) : Bool := PyData.eqv (toD p) (toD q)
theorem dpAll_ints {K : PySem.W.Frag} {H : Hp} : ∀ ns : List Int, DpAll K H (ns.map V.int) (ns.map PyData.int)
  | [] => .nil
  | n :: ns => .cons (.int n) (dpAll_ints ns)
mutual
theorem Rep.dp {K : PySem.W.Frag} {F H : Hp} (e : Same F H) : ∀ {v : V} {p : PV}, Rep K F v p → okD p = true → Dp K H v (toD p)
  | _, _, .non, _ => by simp only [toD]; exact .non
  | _, _, .bl b, _ => by simp only [toD]; exact .bl b
  | _, _, .int i, _ => by simp only [toD]; exact .int i
  | _, _, .str x, _ => by simp only [toD]; exact .str x
  | _, _, .tup h r, o => by simp only [toD]; exact .tup (same_t e h) (RepAll.dp e r (by simpa [okD] using o))
  | _, _, .lst h r, o => by simp only [toD]; exact .lst (SqL.of (e _ _ h)) (RepAll.dp e r (by simpa [okD] using o))
  | _, _, .scr h, _ => by simp only [toD]; exact .lst (e.seq h) (dpAll_ints _)
  | _, _, .raw v, o => by simp [okD] at o
theorem RepAll.dp {K : PySem.W.Frag} {F H : Hp} (e : Same F H) : ∀ {vs : List V} {ps : List PV}, RepAll K F vs ps → okDs ps = true → DpAll K H vs (toDs ps)
  | _, _, .nil, _ => by simp only [toDs]; exact .nil
  | _, _, .cons r t, o => by
    simp only [okDs, Bool.and_eq_true] at o
    simp only [toDs]
    exact .cons (Rep.dp e r o.1) (RepAll.dp e t o.2)
end

section
variable {X : Cx} {B : Bs} {pins : List (Addr × Obj)} {F H : Hp} {σ : L2.St} {ρ : PEnv} {m : Mem} {s' : Shared}
theorem epg_of {Q : PV → Prop} {u : Value} (h : EP X pins σ (fun v H' => ∃ p F', PSt X.w X.K B F' σ H' ρ m ∧ Ext F H m F' H' m ∧ Rep X.K F' v p ∧ Q p) u s') : EPG X B pins σ ρ F H m Q u s' := by
  obtain ⟨v, H', I', r, p, F', st', ex, rp, q⟩ := h
  exact ⟨v, p, F', H', I', st', ex, r, rp, q⟩
theorem epg_now {Q : PV → Prop} {v : V} {p : PV} {u : Value} (I : Inv X pins σ H s') (st : PSt X.w X.K B F σ H ρ m) (r : RelV v u) (rp : Rep X.K F v p) (q : Q p) : EPG X B pins σ ρ F H m Q u s' := ⟨v, p, F, H, I, st, Ext.refl _ _ _, r, rp, q⟩

theorem epg_bl {Q : PV → Prop} {b c : Bool} (I : Inv X pins σ H s') (st : PSt X.w X.K B F σ H ρ m) (q : Q (.bl b)) (e : b = c) : EPG X B pins σ ρ F H m Q (.bool c) s' := by
  subst e
  exact epg_now (v := .bl b) I st rfl (.bl _) q
@[simp] def isNon : PV → Bool
  | .non => true
  | _ => false
/-! ### equality -/
@[simp] def gEq : G2 := fun p q Q => okD p = true ∧ okD q = true ∧ min (dep p) (dep q) ≤ 150 ∧ Q (.bl (peq p q))
@[simp] def gNe : G2 := fun p q Q => okD p = true ∧ okD q = true ∧ min (dep p) (dep q) ≤ 150 ∧ Q (.bl (!peq p q))
/-- room for the comparisons -/
def Rm (X : Cx) : Prop := X.A.units + 180 < cLine
theorem rm_of {A : Around} {k : Nat} (hr : Room k A) : A.units + 180 < cLine := by have := hr.un; omega
theorem o_eq (hu : Rm X) : Op2 X (compareOp .Eq) gEq := by
  intro B pins s σ F H ρ m x y v u p q Q I st rx ry rp rq hg
  obtain ⟨h1, h2, h3, hq⟩ := hg
  obtain ⟨as, r1⟩ := Dp.reads I _ x v (rp.dp st.sub h1) rx
  obtain ⟨bs, r2⟩ := Dp.reads I _ y u (rq.dp st.sub h2) ry
  exact SeqAt.compareEq_reads r1 r2 (ok_lay h1) (ok_lay h2) (by unfold Rm at hu; unfold dep at h3; omega) (epg_bl I st hq rfl)
theorem o_ne (hu : Rm X) : Op2 X (compareOp .NotEq) gNe := by
  intro B pins s σ F H ρ m x y v u p q Q I st rx ry rp rq hg
  obtain ⟨h1, h2, h3, hq⟩ := hg
  obtain ⟨as, r1⟩ := Dp.reads I _ x v (rp.dp st.sub h1) rx
  obtain ⟨bs, r2⟩ := Dp.reads I _ y u (rq.dp st.sub h2) ry
  exact SeqAt.compareNe_reads r1 r2 (ok_lay h1) (ok_lay h2) (by unfold Rm at hu; unfold dep at h3; omega) (epg_bl I st hq rfl)
/-! ### in a list, a tuple -/
@[simp] def gIn (neg : Bool) : G2 := fun p q Q => match q with
  | .lst ys | .tup ys => okD p = true ∧ okDs ys = true ∧ min (PyData.depthAll (toDs ys)) (dep p) ≤ 150 ∧ Q (.bl (xor neg (ys.any fun y => peq y p)))
  | _ => False
theorem any_toDs (d : PyData) : ∀ ys : List PV, (toDs ys).any (fun y => PyData.eqv y d) = ys.any (fun y => PyData.eqv (toD y) d)
  | [] => by simp [toDs]
  | y :: ys => by simp [toDs, any_toDs d ys]
theorem o_in (hu : Rm X) : Op2 X (compareOp .In) (gIn false) := by
  intro B pins s σ F H ρ m x y v u p q Q I st rx ry rp rq hg
  unfold gIn at hg
  split at hg
  · rename_i ys
    obtain ⟨h1, h2, h3, hq⟩ := hg
    have h2' : okD (.lst ys) = true := by simpa [okD] using h2
    obtain ⟨as, r1⟩ := Dp.reads I _ x v (rp.dp st.sub h1) rx
    obtain ⟨bs, r2⟩ := Dp.reads I _ y u (rq.dp st.sub h2') ry
    simp only [toD] at r2
    refine SeqAt.in_list_reads r2 r1 (ok_lays h2) (ok_lay h1) (by unfold Rm at hu; unfold dep at h3; omega) (epg_bl I st hq ?_)
    rw [any_toDs]; simp [peq]
  · rename_i ys
    obtain ⟨h1, h2, h3, hq⟩ := hg
    have h2' : okD (.tup ys) = true := by simpa [okD] using h2
    obtain ⟨as, r1⟩ := Dp.reads I _ x v (rp.dp st.sub h1) rx
    obtain ⟨bs, r2⟩ := Dp.reads I _ y u (rq.dp st.sub h2') ry
    simp only [toD] at r2
    refine SeqAt.in_tuple_reads r2 r1 (ok_lays h2) (ok_lay h1) (by unfold Rm at hu; unfold dep at h3; omega) (epg_bl I st hq ?_)
    rw [any_toDs]; simp [peq]
  · exact hg.elim
theorem o_notin (hu : Rm X) : Op2 X (compareOp .NotIn) (gIn true) := by
  intro B pins s σ F H ρ m x y v u p q Q I st rx ry rp rq hg
  unfold gIn at hg
  split at hg
  · rename_i ys
    obtain ⟨h1, h2, h3, hq⟩ := hg
    have h2' : okD (.lst ys) = true := by simpa [okD] using h2
    obtain ⟨as, r1⟩ := Dp.reads I _ x v (rp.dp st.sub h1) rx
    obtain ⟨bs, r2⟩ := Dp.reads I _ y u (rq.dp st.sub h2') ry
    simp only [toD] at r2
    refine SeqAt.notIn_list_reads r2 r1 (ok_lays h2) (ok_lay h1) (by unfold Rm at hu; unfold dep at h3; omega) (epg_bl I st hq ?_)
    rw [any_toDs]; simp [peq]
  · rename_i ys
    obtain ⟨h1, h2, h3, hq⟩ := hg
    have h2' : okD (.tup ys) = true := by simpa [okD] using h2
    obtain ⟨as, r1⟩ := Dp.reads I _ x v (rp.dp st.sub h1) rx
    obtain ⟨bs, r2⟩ := Dp.reads I _ y u (rq.dp st.sub h2') ry
    simp only [toD] at r2
    refine SeqAt.notIn_tuple_reads r2 r1 (ok_lays h2) (ok_lay h1) (by unfold Rm at hu; unfold dep at h3; omega) (epg_bl I st hq ?_)
    rw [any_toDs]; simp [peq]
  · exact hg.elim
/-! ### is None, is True, is False -/
@[simp] def gIs (neg : Bool) : G2 := fun p q Q => match q with
  | .non => Q (.bl (xor neg (isNon p)))
  | .bl b => (match p with
    | .non => Q (.bl neg)
    | .bl c => Q (.bl (xor neg (c == b)))
    | _ => False)
  | _ => False
theorem rep_non {K : PySem.W.Frag} {F : Hp} {x : V} {p : PV} (rp : Rep K F x p) (h : ∀ v, p ≠ .raw v) : decide (x = .non) = (isNon p) := by
  cases rp <;> first | rfl | exact absurd rfl (h _)
@[simp] def noRaw : PV → Prop
  | .raw _ => False
  | _ => True
theorem o_is : Op2 X (compareOp .Is) (fun p q Q => noRaw p ∧ gIs false p q Q) := by
  intro B pins s σ F H ρ m x y v u p q Q I st rx ry rp rq ⟨hr, hg⟩
  unfold gIs at hg
  split at hg
  · cases rq
    refine thn (op_isN pins s σ H x _ v u (fun w H' => ∃ p F', PSt X.w X.K B F' σ H' ρ m ∧ Ext F H m F' H' m ∧ Rep X.K F' w p ∧ Q p) I rx ry ⟨rfl, _, F, st, Ext.refl _ _ _, .bl _, ?_⟩) fun _ _ h => epg_of h
    rw [rep_non rp (fun w e => by subst e; exact hr)]
    simpa using hg
  · cases rq
    cases ry
    split at hg
    · cases rp; cases rx
      exact wpAny_is_plain rfl (epg_bl I st hg rfl)
    · rename_i b _ c
      cases rp; cases rx
      refine wpAny_is_plain rfl (epg_bl I st hg ?_)
      cases c <;> cases b <;> rfl
    · exact hg.elim
  · exact hg.elim
theorem o_isnot : Op2 X (compareOp .IsNot) (fun p q Q => noRaw p ∧ gIs true p q Q) := by
  intro B pins s σ F H ρ m x y v u p q Q I st rx ry rp rq ⟨hr, hg⟩
  unfold gIs at hg
  split at hg
  · cases rq
    refine thn (op_notN pins s σ H x _ v u (fun w H' => ∃ p F', PSt X.w X.K B F' σ H' ρ m ∧ Ext F H m F' H' m ∧ Rep X.K F' w p ∧ Q p) I rx ry ⟨rfl, _, F, st, Ext.refl _ _ _, .bl _, ?_⟩) fun _ _ h => epg_of h
    rw [rep_non rp (fun w e => by subst e; exact hr)]
    simpa using hg
  · cases rq
    cases ry
    split at hg
    · cases rp; cases rx
      exact wpAny_isNot_plain rfl (epg_bl I st hg rfl)
    · rename_i b _ c
      cases rp; cases rx
      refine wpAny_isNot_plain rfl (epg_bl I st hg ?_)
      cases c <;> cases b <;> rfl
    · exact hg.elim
  · exact hg.elim
/-! ### order of ints -/
@[simp] def gCmpI (f : Int → Int → Bool) : G2 := fun p q Q => match p, q with
  | .int i, .int j => Q (.bl (f i j))
  | _, _ => False
theorem o_cmpI {op : CmpOp} {f : Int → Int → Bool} (h : OpR X (compareOp op) (rI0 fun i j => .bl (f i j))) : Op2 X (compareOp op) (gCmpI f) := by
  intro B pins s σ F H ρ m x y v u p q Q I st rx ry rp rq hg
  unfold gCmpI at hg
  split at hg
  · rename_i i j
    cases rp; cases rq
    exact thn (h pins s σ H _ _ v u (fun w H' => ∃ p F', PSt X.w X.K B F' σ H' ρ m ∧ Ext F H m F' H' m ∧ Rep X.K F' w p ∧ Q p) I rx ry ⟨i, j, rfl, rfl, _, F, st, Ext.refl _ _ _, .bl _, hg⟩) fun _ _ h => epg_of h
  · exact hg.elim
theorem o_lt : Op2 X (compareOp .Lt) (gCmpI fun i j => decide (i < j)) := o_cmpI op_lt
theorem o_le : Op2 X (compareOp .LtE) (gCmpI fun i j => decide (i ≤ j)) := o_cmpI op_le
theorem o_gt : Op2 X (compareOp .Gt) (gCmpI fun i j => decide (j < i)) := o_cmpI op_gt
theorem o_ge : Op2 X (compareOp .GtE) (gCmpI fun i j => decide (j ≤ i)) := o_cmpI op_ge
end
end PL


namespace PL
open PySem PySem.Spec PyProof.Rows L2

section
variable {X : Cx} {B : Bs} {pins : List (Addr × Obj)} {F H : Hp} {σ : L2.St} {ρ : PEnv} {m : Mem} {s' : Shared}
abbrev EPQ (X : Cx) (B : Bs) (σ : L2.St) (ρ : PEnv) (F H : Hp) (m : Mem) (Q : PV → Prop) : VK := fun v H' => ∃ p F', PSt X.w X.K B F' σ H' ρ m ∧ Ext F H m F' H' m ∧ Rep X.K F' v p ∧ Q p
theorem epq_now {Q : PV → Prop} {v : V} {p : PV} (st : PSt X.w X.K B F σ H ρ m) (rp : Rep X.K F v p) (q : Q p) : EPQ X B σ ρ F H m Q v H := ⟨p, F, st, Ext.refl _ _ _, rp, q⟩
theorem epq_tup {Q : PV → Prop} {xs : List V} {ps : List PV} (st : PSt X.w X.K B F σ H ρ m) (rp : RepAll X.K F xs ps) (q : Q (.tup ps)) : ∀ p, H p = none → EPQ X B σ ρ F H m Q (.ref p) (upd H p (.tup xs)) := fun p hp => by
  obtain ⟨st2, ex2⟩ := st.new (o := .tup xs) hp (fun ps z => nomatch z)
  exact ⟨.tup ps, _, st2, ex2, .tup (SqT.of upd_same) (rp.mono ex2.fz), q⟩
theorem epq_lst {Q : PV → Prop} {xs : List V} {ps : List PV} (st : PSt X.w X.K B F σ H ρ m) (rp : RepAll X.K F xs ps) (q : Q (.lst ps)) : ∀ p, H p = none → EPQ X B σ ρ F H m Q (.ref p) (upd H p (.lst xs)) := fun p hp => by
  obtain ⟨st2, ex2⟩ := st.new (o := .lst xs) hp (fun ps z => nomatch z)
  exact ⟨.lst ps, _, st2, ex2, .lst upd_same (rp.mono ex2.fz), q⟩
theorem line6 {n : Nat} (h : n ≤ 1000000) : n ≤ sizeLine := Nat.le_trans h (by decide)

/-! ### + - * // % ** -/
@[simp] def gAdd : G2 := fun p q Q => match p, q with
  | .int i, .int j => Q (.int (i + j))
  | .str x, .str y => x.length + y.length ≤ 1000000 ∧ Q (.str (x ++ y))
  | .tup a, .tup b => a.length + b.length ≤ 1000000 ∧ Q (.tup (a ++ b))
  | .lst a, .lst b => a.length + b.length ≤ 1000000 ∧ Q (.lst (a ++ b))
  | _, _ => False
theorem o_add : Op2 X (binaryOp .Add) gAdd := by
  intro B pins s σ F H ρ m x y v u p q Q I st rx ry rp rq hg
  unfold gAdd at hg
  split at hg
  · rename_i i j
    cases rp; cases rq
    exact thn (op_add pins s σ H _ _ v u (EPQ X B σ ρ F H m Q) I rx ry ⟨i, j, rfl, rfl, epq_now st (.int _) hg⟩) fun _ _ h => epg_of h
  · rename_i i j
    cases rp; cases rq
    exact thn (op_add_str pins s σ H _ _ v u (EPQ X B σ ρ F H m Q) I rx ry ⟨i, j, rfl, rfl, line6 hg.1, epq_now st (.str _) hg.2⟩) fun _ _ h => epg_of h
  · rename_i a b
    obtain ⟨hz, hq⟩ := hg
    cases rp with
    | tup h1 r1 =>
      cases rq with
      | tup h2 r2 =>
        refine thn (op_catA pins s σ H _ _ v u (EPQ X B σ ρ F H m Q) I rx ry ⟨_, _, _, _, rfl, rfl, same_t st.sub h1, same_t st.sub h2, by rw [r1.length, r2.length]; exact line6 hz, fun e => ?_, fun _ e => ?_, fun _ _ => epq_tup st (r1.append r2) hq⟩) fun _ _ h => epg_of h
        · subst e; cases r1; exact epq_now st (.tup h2 r2) hq
        · subst e; cases r2; exact epq_now st (.tup h1 r1) (by simpa using hq)
  · rename_i a b
    obtain ⟨hz, hq⟩ := hg
    cases rp with
    | lst h1 r1 =>
      cases rq with
      | lst h2 r2 =>
        exact thn (op_cat pins s σ H _ _ v u (EPQ X B σ ρ F H m Q) I rx ry ⟨_, _, _, _, rfl, rfl, st.sub _ _ h1, st.sub _ _ h2, by rw [r1.length, r2.length]; exact line6 hz, epq_lst st (r1.append r2) hq⟩) fun _ _ h => epg_of h
  · exact hg.elim
@[simp] def gSub : G2 := fun p q Q => match p, q with
  | .int i, .int j => Q (.int (i - j))
  | _, _ => False
theorem o_sub : Op2 X (binaryOp .Sub) gSub := by
  intro B pins s σ F H ρ m x y v u p q Q I st rx ry rp rq hg
  unfold gSub at hg
  split at hg
  · rename_i i j
    cases rp; cases rq
    exact thn (op_sub pins s σ H _ _ v u (EPQ X B σ ρ F H m Q) I rx ry ⟨i, j, rfl, rfl, epq_now st (.int _) hg⟩) fun _ _ h => epg_of h
  · exact hg.elim
theorem op_mulI : OpR X (binaryOp .Mult) (rI IntMulOk fun i j => .int (i * j)) := opI fun _ _ _ _ _ _ _ hc q => mul_int q hc
theorem tuple_mul1 (l : Addr) (items : Array Value) (n : Nat) (dd : Option Addr) (sl : Array (Option Value)) (u : Tok) :
    Meets (Builtin.«tuple.__mul__» ⟨[.ref l, .int 1 u], []⟩) (fun _ R s => s.heap.get? l = some { cls := .type "tuple", dict := dd, data := .seq items n, slots := sl } ∧ R (.ok (.ret (Value.ref l))) s) :=
  .of_wp fun prog w A R s h => by
    obtain ⟨hp, g, d, tk, os⟩ := s
    obtain ⟨hl, h⟩ := h
    have f1 := AutoSeq1.idx_int
    wp_walk using wpAny_loadPart' hl
    exact ⟨_, rfl, h⟩
theorem op_rep1 : OpR X (binaryOp .Mult) (fun x y H Q => ∃ l xs, x = .ref l ∧ y = .int 1 ∧ SqT X.K H l xs ∧ Q (.ref l) H) := by
  intro pins s σ H x y v u Q I rx ry h
  obtain ⟨l, xs, rfl, rfl, hT, q⟩ := h
  cases rx
  obtain ⟨t, rfl⟩ := ry
  obtain ⟨its, r, ⟨⟨cls, dd, data, sl⟩, ho, hc, n, hd⟩, hs⟩ := I.tuple hT
  simp only at hc hd
  subst hc hd
  exact wpAny_binaryOp_repeat_ref (T := "tuple") (U := "int") (by decide) ⟨_, ho, rfl⟩ (fun s' => typeIs_int s' 1 t) noFill_tuple_mul F.fills_int_mul F.slot_int_rmul repeat_tuple F.slot_int_index.lookup
    (call_meets F.slot_int_rmul (typeIs_int s 1 t) F.entry_int_rmul (F.args_int_rmul_2 _ _) (int_rmul_tuple 1 t l its.toArray n dd sl)
      ⟨ho, rfl, ⟨_, ho, rfl⟩, call_meets F.slot_tuple_mul ⟨_, ho, rfl⟩ F.entry_tuple_mul (F.args_tuple_mul_2 _ _) (tuple_mul1 l its.toArray n dd sl t) ⟨ho, .ref l, H, I.tok _, rfl, q⟩⟩)
theorem tuple_mul0 (l : Addr) (items : Array Value) (n : Nat) (dd : Option Addr) (sl : Array (Option Value)) (u : Tok) (hi : items.isEmpty = false) :
    Meets (Builtin.«tuple.__mul__» ⟨[.ref l, .int 0 u], []⟩) (fun _ R s => s.heap.get? l = some { cls := .type "tuple", dict := dd, data := .seq items n, slots := sl } ∧
      R (.ok (.ret (Value.ref s.heap.objs.size))) { s with heap := s.heap.push { cls := Value.type "tuple", data := Data.seq #[] }, toks := s.toks }) :=
  .of_wp fun prog w A R s h => by
    obtain ⟨hp, g, d, tk, os⟩ := s
    obtain ⟨hl, h⟩ := h
    have f1 := AutoSeq1.idx_int
    wp_walk using wpAny_loadPart' hl
    repeat (first
      | (refine wpAny_ite_false (decide_eq_false (by rw [hi]; decide)) ?_; wp_walk using wpAny_loadPart' hl)
      | (refine wpAny_ite_true (by simp) ?_; wp_walk using wpAny_loadPart' hl))
    exact ⟨_, rfl, h⟩
theorem op_rep0 : OpR X (binaryOp .Mult) (fun x y H Q => ∃ l xs, x = .ref l ∧ y = .int 0 ∧ SqT X.K H l xs ∧ xs ≠ [] ∧ ∀ p, H p = none → Q (.ref p) (upd H p (.tup []))) := by
  intro pins s σ H x y v u Q I rx ry h
  obtain ⟨l, xs, rfl, rfl, hT, hne, q⟩ := h
  cases rx
  obtain ⟨t, rfl⟩ := ry
  obtain ⟨its, r, ⟨⟨cls, dd, data, sl⟩, ho, hc, n, hd⟩, hs⟩ := I.tuple hT
  simp only at hc hd
  subst hc hd
  have hi : its.toArray.isEmpty = false := by
    cases its with
    | nil => cases r; exact absurd rfl hne
    | cons a b => rfl
  refine wpAny_binaryOp_repeat_ref (T := "tuple") (U := "int") (by decide) ⟨_, ho, rfl⟩ (fun s' => typeIs_int s' 0 t) noFill_tuple_mul F.fills_int_mul F.slot_int_rmul repeat_tuple F.slot_int_index.lookup
    (call_meets F.slot_int_rmul (typeIs_int s 0 t) F.entry_int_rmul (F.args_int_rmul_2 _ _) (int_rmul_tuple 0 t l its.toArray n dd sl)
      ⟨ho, rfl, ⟨_, ho, rfl⟩, call_meets F.slot_tuple_mul ⟨_, ho, rfl⟩ F.entry_tuple_mul (F.args_tuple_mul_2 _ _) (tuple_mul0 l its.toArray n dd sl t hi) ⟨ho, ?_⟩⟩)
  exact ⟨.ref _, _, I.laid (t' := _) (o := .tup []) (fun b u e => Heap.get?_push_of_some _ e) (Nat.le_refl _) ⟨Nat.zero_le _, [], .nil, ⟨_, Heap.get?_push_size _ rfl, rfl, _, rfl⟩⟩, rfl, q _ (I.hok.fresh (Nat.le_refl _))⟩
theorem rep_app {xs : List V} {ps : List PV} {K : PySem.W.Frag} (r : RepAll K F xs ps) : ∀ k : Nat, RepAll K F (List.replicate k xs).flatten (List.replicate k ps).flatten
  | 0 => .nil
  | k + 1 => by
    rw [List.replicate_succ, List.replicate_succ, List.flatten_cons, List.flatten_cons]
    exact r.append (rep_app r k)
@[simp] def gMul : G2 := fun p q Q => match p, q with
  | .int i, .int j => IntMulOk i j ∧ Q (.int (i * j))
  | .lst a, .int k => -1000 ≤ k ∧ k ≤ 1000 ∧ a.length ≤ 1000 ∧ Q (.lst (List.replicate k.toNat a).flatten)
  | .tup a, .int k => 0 ≤ k ∧ k ≤ 1000 ∧ a.length ≤ 1000 ∧ a ≠ [] ∧ Q (.tup (List.replicate k.toNat a).flatten)
  | _, _ => False
theorem o_mul : Op2 X (binaryOp .Mult) gMul := by
  intro B pins s σ F H ρ m x y v u p q Q I st rx ry rp rq hg
  unfold gMul at hg
  split at hg
  · rename_i i j
    cases rp; cases rq
    exact thn (op_mulI pins s σ H _ _ v u (EPQ X B σ ρ F H m Q) I rx ry ⟨i, j, rfl, rfl, hg.1, epq_now st (.int _) hg.2⟩) fun _ _ h => epg_of h
  · rename_i a k
    obtain ⟨h0, h1, h2, hq⟩ := hg
    cases rp with
    | lst e r =>
      cases rq
      refine thn (op_rep pins s σ H _ _ v u (EPQ X B σ ρ F H m Q) I rx ry ⟨_, k, _, rfl, rfl, st.sub _ _ e, by omega, by omega, ?_, epq_lst st (rep_app r _) hq⟩) fun _ _ h => epg_of h
      rw [r.length]
      exact line6 (Nat.le_trans (Nat.mul_le_mul h2 (show k.toNat ≤ 1000 by omega)) (by decide))
  · rename_i a k
    obtain ⟨h0, h1, h2, h3, hq⟩ := hg
    cases rp with
    | tup e r =>
      cases rq
      by_cases k1 : k = 1
      · subst k1
        have e1 : (List.replicate (1 : Int).toNat a).flatten = a := by simp
        rw [e1] at hq
        exact thn (op_rep1 pins s σ H _ _ v u (EPQ X B σ ρ F H m Q) I rx ry ⟨_, _, rfl, rfl, same_t st.sub e, epq_now st (.tup e r) hq⟩) fun _ _ h => epg_of h
      by_cases k0 : k = 0
      · subst k0
        refine thn (op_rep0 pins s σ H _ _ v u (EPQ X B σ ρ F H m Q) I rx ry ⟨_, _, rfl, rfl, same_t st.sub e, ?_, epq_tup st .nil (by simpa using hq)⟩) fun _ _ h => epg_of h
        rintro rfl
        cases r
        exact h3 rfl
      refine thn (op_repT pins s σ H _ _ v u (EPQ X B σ ρ F H m Q) I rx ry ⟨_, k, _, rfl, rfl, same_t st.sub e, ?_, by omega, h1, by rw [r.length]; exact h2, epq_tup st (rep_app r _) hq⟩) fun _ _ h => epg_of h
      rintro rfl
      cases r
      exact h3 rfl
  · exact hg.elim
@[simp] def gMod : G2 := fun p q Q => match p, q with
  | .int i, .int j => 0 < j ∧ Q (.int (i % j))
  | _, _ => False
theorem o_mod : Op2 X (binaryOp .Mod) gMod := by
  intro B pins s σ F H ρ m x y v u p q Q I st rx ry rp rq hg
  unfold gMod at hg
  split at hg
  · rename_i i j
    cases rp; cases rq
    exact thn (op_mod pins s σ H _ _ v u (EPQ X B σ ρ F H m Q) I rx ry ⟨i, j, rfl, rfl, hg.1, epq_now st (.int _) hg.2⟩) fun _ _ h => epg_of h
  · exact hg.elim
@[simp] def gDiv : G2 := fun p q Q => match p, q with
  | .int i, .int j => CDivW i j ∧ Q (.int (i / j))
  | _, _ => False
theorem o_div : Op2 X (binaryOp .FloorDiv) gDiv := by
  intro B pins s σ F H ρ m x y v u p q Q I st rx ry rp rq hg
  unfold gDiv at hg
  split at hg
  · rename_i i j
    cases rp; cases rq
    exact thn (op_fdivW pins s σ H _ _ v u (EPQ X B σ ρ F H m Q) I rx ry ⟨i, j, rfl, rfl, hg.1, epq_now st (.int _) hg.2⟩) fun _ _ h => epg_of h
  · exact hg.elim
@[simp] def gPow : G2 := fun p q Q => match p, q with
  | .int i, .int j => CPow i j ∧ Q (.int (i ^ j.toNat))
  | _, _ => False
theorem o_pow : Op2 X (binaryOp .Pow) gPow := by
  intro B pins s σ F H ρ m x y v u p q Q I st rx ry rp rq hg
  unfold gPow at hg
  split at hg
  · rename_i i j
    cases rp; cases rq
    exact thn (op_pow pins s σ H _ _ v u (EPQ X B σ ρ F H m Q) I rx ry ⟨i, j, rfl, rfl, hg.1, epq_now st (.int _) hg.2⟩) fun _ _ h => epg_of h
  · exact hg.elim
/-- -e -/
@[simp] def wNeg (t : DE) : DE := fun ρ m Q R => t ρ m (fun p m1 => match p with | .int i => Q (.int (-i)) m1 | _ => False) R
theorem je_neg {a : Expr} {ta : DE} {pos : Pos} (ha : JE X B a ta) : JE X B (.UnaryOp .USub a pos) (wNeg ta) := by
  refine ⟨fun R tk pins s σ F H ρ m Q I st h => ?_⟩
  refine UnaryOp_ (thn (ha.run R tk pins s σ F H ρ m _ I st h) fun v s1 ⟨x, p, F1, H1, m1, I1, st1, ex1, r1, rp1, q1⟩ => ?_)
  simp only at q1
  split at q1
  · rename_i i
    cases rp1
    exact thn (un_neg pins s1 σ H1 _ v (EPQ X B σ ρ F1 H1 m1 (fun z => Q z m1)) I1 r1 ⟨i, rfl, epq_now st1 (.int _) q1⟩) fun _ _ h => epg ex1 (epg_of h)
  · exact q1.elim

/-! ### a[b], a[b:c] -/
@[simp] def gIx : G2 := fun p q Q => match p, q with
  | .tup a, .int i => ∃ v, atI a i = some v ∧ Q v
  | .lst a, .int i => ∃ v, atI a i = some v ∧ Q v
  | .scr ns, .int i => ∃ v, atI ns i = some v ∧ Q (.int v)
  | .str z, .int i => z.length ≤ 1000000 ∧ ∃ c, atI z.cps.toList i = some c ∧ Q (.str ⟨#[c]⟩)
  | _, _ => False
theorem atI_rep {K : PySem.W.Frag} {xs : List V} {ps : List PV} {i : Int} {p : PV} (r : RepAll K F xs ps) (h : atI ps i = some p) : ∃ v, atI xs i = some v ∧ Rep K F v p := by
  unfold atI at h ⊢
  rw [r.length]
  cases e : ixN ps.length i with
  | none => rw [e] at h; cases h
  | some j =>
    rw [e] at h
    exact r.get h
theorem je_ix {a b : Expr} {ta tb : DE} {pos : Pos} (ha : JE X B a ta) (hb : JE X B b tb) (hs : PlainIx b := by exact fun _ _ => rfl) : JE X B (.Subscript a b pos) (wOp gIx ta tb) := by
  refine ⟨fun R tk pins s σ F H ρ m Q I st h => ?_⟩
  refine Subscript_ (bin2 ha hb tk I st h fun v u s2 x y p q F2 H2 m2 I2 st2 ex rx ry rp rq g2 => ?_)
  unfold gIx at g2
  split at g2
  · rename_i i
    obtain ⟨z, hz, hq⟩ := g2
    cases rq
    cases rp with
    | tup e r =>
      obtain ⟨w, hw, rw'⟩ := atI_rep r hz
      exact thn (ix_tup a b pins s2 σ H2 _ _ v u (EPQ X B σ ρ F2 H2 m2 (fun z => Q z m2)) I2 rx ry ⟨_, _, i, w, rfl, rfl, same_t st2.sub e, hw, epq_now st2 rw' hq⟩ (hs _ _)) fun _ _ h => epg ex (epg_of h)
  · rename_i i
    obtain ⟨z, hz, hq⟩ := g2
    cases rq
    cases rp with
    | lst e r =>
      obtain ⟨w, hw, rw'⟩ := atI_rep r hz
      exact thn (ix_list a b pins s2 σ H2 _ _ v u (EPQ X B σ ρ F2 H2 m2 (fun z => Q z m2)) I2 rx ry ⟨_, _, i, w, rfl, rfl, SqL.of (st2.sub _ _ e), hw, epq_now st2 rw' hq⟩ (hs _ _)) fun _ _ h => epg ex (epg_of h)
  · rename_i i
    obtain ⟨z, hz, hq⟩ := g2
    cases rq
    cases rp with
    | scr e =>
      refine thn (ix_list a b pins s2 σ H2 _ _ v u (EPQ X B σ ρ F2 H2 m2 (fun z => Q z m2)) I2 rx ry ⟨_, _, i, .int z, rfl, rfl, st2.sub.seq e, ?_, epq_now st2 (.int _) hq⟩ (hs _ _)) fun _ _ h => epg ex (epg_of h)
      unfold atI at hz ⊢
      rw [List.length_map]
      revert hz
      generalize ixN _ i = o
      cases o with
      | none => intro hz; cases hz
      | some j => intro hz; simpa using hz
  · rename_i i
    obtain ⟨hl, c, hz, hq⟩ := g2
    cases rq
    cases rp
    exact thn (ix_str a b pins s2 σ H2 _ _ v u (EPQ X B σ ρ F2 H2 m2 (fun z => Q z m2)) I2 rx ry ⟨_, i, c, rfl, rfl, line6 hl, hz, epq_now st2 (.str _) hq⟩ (hs _ _)) fun _ _ h => epg ex (epg_of h)
  · exact g2.elim
/-- a slice's part -/
structure JO (X : Cx) (B : Bs) (e : Option Expr) (t : PEnv → Mem → (Option Int → Mem → Prop) → KX → Prop) : Prop where
  run : ∀ (R : PX), L2N.Takes X (WR X B R) → ∀ (pins : List (Addr × Obj)) (s : Shared) (σ : L2.St) (F H : Hp) (ρ : PEnv) (m : Mem) (Q : Option Int → Mem → Prop), Inv X pins σ H s → PSt X.w X.K B F σ H ρ m → t ρ m Q (R ρ) →
    wpAny (model X.prog X.w) X.A (evalPart e X.env) (fun u s' => ∃ o F' H' m', Inv X pins σ H' s' ∧ PSt X.w X.K B F' σ H' ρ m' ∧ Ext F H m F' H' m' ∧ IsPart u o ∧ Q o m') X.xe s
@[simp] def wNoPart : PEnv → Mem → (Option Int → Mem → Prop) → KX → Prop := fun _ m Q _ => Q none m
@[simp] def wPart (t : DE) : PEnv → Mem → (Option Int → Mem → Prop) → KX → Prop := fun ρ m Q R => t ρ m (fun p m1 => match p with | .int i => Q (some i) m1 | _ => False) R
theorem jo_none : JO X B none wNoPart := by
  refine ⟨fun R tk pins s σ F H ρ m Q I st h => ?_⟩
  rw [evalPart_none]
  exact wpAny_pure ⟨none, F, H, m, I, st, Ext.refl _ _ _, .none, h⟩
theorem jo_some {e : Expr} {t : DE} (he : JE X B e t) : JO X B (some e) (wPart t) := by
  refine ⟨fun R tk pins s σ F H ρ m Q I st h => ?_⟩
  rw [evalPart_some]
  refine thn (he.run R tk pins s σ F H ρ m _ I st h) fun u s1 ⟨x, p, F1, H1, m1, I1, st1, ex1, r1, rp1, q1⟩ => ?_
  simp only at q1
  split at q1
  · rename_i i
    cases rp1
    obtain ⟨t, rfl⟩ := r1
    exact ⟨some i, F1, H1, m1, I1, st1, ex1, .int i t, q1⟩
  · exact q1.elim
def cutP {α : Type} (xs : List α) (lo hi : Option Int) : List α := (xs.drop (HT.sIx xs.length 0 lo)).take (HT.sIx xs.length xs.length hi - HT.sIx xs.length 0 lo)
@[simp] def gSl (p : PV) (lo hi : Option Int) (Q : PV → Prop) : Prop := match p with
  | .tup a => Q (.tup (cutP a lo hi))
  | .lst a => Q (.lst (cutP a lo hi))
  | .str z => z.length ≤ 1000000 ∧ Q (.str (cutS z lo hi))
  | _ => False
@[simp] def wSl (t : DE) (tl th : PEnv → Mem → (Option Int → Mem → Prop) → KX → Prop) : DE := fun ρ m Q R => t ρ m (fun p m1 => tl ρ m1 (fun lo m2 => th ρ m2 (fun hi m3 => gSl p lo hi fun z => Q z m3) R) R) R
theorem sIx_le' (n d : Nat) (hd : d ≤ n) (o : Option Int) : HT.sIx n d o ≤ n := HT.sIx_le _ _ hd _
theorem cut_whole {α : Type} (xs : List α) (lo hi : Option Int) (h : HT.sIx xs.length 0 lo = 0 ∧ HT.sIx xs.length xs.length hi = xs.length) : cutP xs lo hi = xs := by
  unfold cutP
  rw [h.1, h.2]
  simp
theorem je_sl {e : Expr} {lo hi : Option Expr} {te : DE} {tl th} {p2 pos : Pos} (he : JE X B e te) (hl : JO X B lo tl) (hu : JO X B hi th) : JE X B (.Subscript e (.Slice lo hi none p2) pos) (wSl te tl th) := by
  refine ⟨fun R tk pins s σ F H ρ m Q I st h => ?_⟩
  refine Subscript_ (thn (he.run R tk pins s σ F H ρ m _ I st h) fun v s1 ⟨x, p, F1, H1, m1, I1, st1, ex1, r1, rp1, q1⟩ => ?_)
  refine wpAny_Slice (thn (hl.run R tk pins s1 σ F1 H1 ρ m1 _ I1 st1 q1) fun vl s2 ⟨l, F2, H2, m2, I2, st2, ex2, pl, q2⟩ => thn (hu.run R tk pins s2 σ F2 H2 ρ m2 _ I2 st2 q2) fun vu s3 ⟨u, F3, H3, m3, I3, st3, ex3, pu, q3⟩ => ?_)
  rw [evalPart_none]
  refine wpAny_pure ?_
  have I4 : Inv X pins σ H3 { s3 with heap := s3.heap.push { cls := .type "slice", data := .fields #[vl, vu, .none] } } := I3.kept (t' := s3.toks) fun b ob q => Heap.get?_push_of_some _ q
  have ex13 := (ex1.trans ex2).trans ex3
  have rp3 := rp1.mono (ex2.fz.trans ex3.fz)
  have go : ∀ {T : String} {id : String}, (typeLookup (.type T) "__getitem__" = pure (some (.builtin id)) ∧ ({ s3 with heap := s3.heap.push { cls := .type "slice", data := .fields #[vl, vu, .none] } } : Shared).TypeIs v T ∧
      wpAny (model X.prog X.w) X.A (getItem v (.ref s3.heap.objs.size)) (EP X pins σ (EPQ X B σ ρ F3 H3 m3 (fun z => Q z m3))) X.xe { s3 with heap := s3.heap.push { cls := .type "slice", data := .fields #[vl, vu, .none] } }) →
      wpAny (model X.prog X.w) X.A (subscriptTail e (.Slice lo hi none p2) v (.ref s3.heap.objs.size)) (EPP X B pins σ ρ F H m Q) X.xe { s3 with heap := s3.heap.push { cls := .type "slice", data := .fields #[vl, vu, .none] } } := fun {T id} ⟨hT, ht, hg⟩ =>
    thn (tail_any (ops := [.ref s3.heap.objs.size, v]) ht hT hg (by with_unfolding_all rfl)) fun _ _ h => epg ex13 (epg_of h)
  unfold gSl at q3
  split at q3
  · rename_i pps _ _
    cases rp3 with
    | @tup pa pxs _ e1 r =>
      have c1 : HT.sIx pxs.length 0 l = 0 ∧ HT.sIx pxs.length pxs.length u = pxs.length → EPQ X B σ ρ F3 H3 m3 (fun z => Q z m3) (.ref pa) H3 := fun hw => by
        rw [r.length] at hw
        rw [cut_whole _ _ _ hw] at q3
        exact epq_now st3 (.tup e1 r) q3
      have c3 : RepAll X.K F3 (cutV pxs l u) (cutP pps l u) := by
        unfold cutV cutP
        rw [r.length]
        exact (r.drop _).take _
      have c2 := epq_tup st3 (Q := fun z => Q z m3) c3 q3
      obtain ⟨T, id, hh⟩ := sl_tupA pins _ σ H3 _ v vl vu l u s3.heap.objs.size (EPQ X B σ ρ F3 H3 m3 (fun z => Q z m3)) I4 r1 (Heap.IsSliceOf.new ..) pl pu ⟨_, _, rfl, same_t st3.sub e1, c1, fun _ => c2⟩
      exact go hh
  · rename_i pps _ _
    cases rp3 with
    | @lst pa pxs _ e1 r =>
      have c3 : RepAll X.K F3 (cutV pxs l u) (cutP pps l u) := by
        unfold cutV cutP
        rw [r.length]
        exact (r.drop _).take _
      have c2 := epq_lst st3 (Q := fun z => Q z m3) c3 q3
      obtain ⟨T, id, hh⟩ := sl_list pins _ σ H3 _ v vl vu l u s3.heap.objs.size (EPQ X B σ ρ F3 H3 m3 (fun z => Q z m3)) I4 r1 (Heap.IsSliceOf.new ..) pl pu ⟨_, _, rfl, SqL.of (st3.sub _ _ e1), c2⟩
      exact go hh
  · cases rp3
    obtain ⟨T, id, hh⟩ := sl_str pins _ σ H3 _ v vl vu l u s3.heap.objs.size (EPQ X B σ ρ F3 H3 m3 (fun z => Q z m3)) I4 r1 (Heap.IsSliceOf.new ..) pl pu ⟨_, rfl, line6 q3.1, epq_now st3 (.str _) q3.2⟩
    exact go hh
  · exact q3.elim
end
end PL


namespace PL
open PySem PySem.Spec PyProof.Rows L2

/-! ### isinstance of a built-in type -/
def tyName : PV → Option String
  | .non => some "NoneType" | .bl _ => some "bool" | .int _ => some "int" | .str _ => some "str" | .tup _ => some "tuple" | .lst _ => some "list" | .scr _ => some "list" | .raw _ => none
@[simp] def isInt : PV → Bool
  | .int _ | .bl _ => true
  | _ => false
@[simp] def isBool : PV → Bool
  | .bl _ => true
  | _ => false
@[simp] def isStr : PV → Bool
  | .str _ => true
  | _ => false
@[simp] def isTup : PV → Bool
  | .tup _ => true
  | _ => false
@[simp] def isLst : PV → Bool
  | .lst _ | .scr _ => true
  | _ => false
def IsT (T : String) (f : PV → Bool) : Prop := ∀ p t, tyName p = some t → kitB t T = some (f p)
theorem isT_int : IsT "int" isInt := by intro p t h; cases p <;> cases h <;> first | exact (show kitB _ _ = some true by decide +kernel) | exact (show kitB _ _ = some false by decide +kernel)
theorem isT_bool : IsT "bool" isBool := by intro p t h; cases p <;> cases h <;> first | exact (show kitB _ _ = some true by decide +kernel) | exact (show kitB _ _ = some false by decide +kernel)
theorem isT_str : IsT "str" isStr := by intro p t h; cases p <;> cases h <;> first | exact (show kitB _ _ = some true by decide +kernel) | exact (show kitB _ _ = some false by decide +kernel)
theorem isT_tup : IsT "tuple" isTup := by intro p t h; cases p <;> cases h <;> first | exact (show kitB _ _ = some true by decide +kernel) | exact (show kitB _ _ = some false by decide +kernel)
theorem isT_lst : IsT "list" isLst := by intro p t h; cases p <;> cases h <;> first | exact (show kitB _ _ = some true by decide +kernel) | exact (show kitB _ _ = some false by decide +kernel)
theorem rep_ty {K : PySem.W.Frag} {F H : Hp} {x : V} {p : PV} {t : String} (e : Same F H) (r : Rep K F x p) (h : tyName p = some t) : TyX K H x (.type t) := by
  cases r with
  | non => cases h; exact .base .non
  | bl b => cases h; exact .base (.bl b)
  | int i => cases h; exact .base (.int i)
  | str x => cases h; exact .base (.str x)
  | tup q _ =>
    cases h
    rcases q with (q | ⟨o, q⟩) | ⟨o, _, _, q, c, _⟩
    · exact .base (.tup (e _ _ q))
    · exact .fTuple (e _ _ q)
    · exact .kTuple q c
  | lst q _ => cases h; exact .base (.lst (e _ _ q))
  | scr q =>
    cases h
    rcases q with (q | ⟨o, q⟩) | ⟨o, _, _, q, c, _⟩
    · exact .base (.lst (e _ _ q))
    · exact .base (.frz (e _ _ q))
    · exact .kList q c
  | raw v => cases h
section
variable {X : Cx} {B : Bs} {pos : Pos}
/-- f of a value that is no raw one -/
@[simp] def unRaw (f : PV → Prop) : PV → Prop
  | .raw _ => False
  | p => f p
theorem unRaw_of {f : PV → Prop} {p : PV} (h : unRaw f p) : ∃ t, tyName p = some t ∧ f p := by
  cases p <;> first | exact ⟨_, rfl, h⟩ | exact h.elim
@[simp] def wIsi (f : PV → Bool) (t : DE) : DE := fun ρ m Q R => t ρ m (fun p m1 => unRaw (fun p => Q (.bl (f p)) m1) p) R
theorem je_isi {T : String} {f : PV → Bool} {a : Expr} {y : Str} {p p2 : Pos} {ta : DE} (hT : IsT T f) (hm : X.mg "isinstance" = none) (hy : X.mg y = none) (ha : JE X B a ta) (hvy : bootBuiltins y = some (.type T) := by decide +kernel) (hg : Gl X "isinstance" := by rfl) (hgy : Gl X y := by rfl)
    (hny : y ≠ "__name__" := by decide) (hdy : (y == ("__debug__" : Str)) = false := by decide)
    (he : starEach [a, .Name y p2] X.env = (false, eval a X.env) :: starEach [.Name y p2] X.env := by rfl) :
    JE X B (.Call (.Name "isinstance" p) [a, .Name y p2] [] pos) (wIsi f ta) := by
  refine ⟨fun R tk pins s σ F H ρ m Q I st h => ?_⟩
  refine wpAny_Call_Name_kw (ld_blt (u := .builtin "isinstance") I hg hm (by decide +kernel) ?_ (by decide) (by decide))
  refine PyProof.Rows.callWith_builtin1 ?_ he (by rfl)
  rw [he]
  show wpAny _ _ (spliced ((false, eval a X.env) :: backTo pos (starEach [.Name y p2] X.env))) _ _ s
  refine Calls.spliced_cons (thn (ha.run R tk pins s σ F H ρ m _ I st h) fun u s1 ⟨x, pv, F1, H1, m1, I1, st1, ex1, r1, rp1, q1⟩ => ?_)
  show wpAny _ _ (spliced ((false, eval (.Name y p2) X.env) :: backTo pos (starEach [] X.env))) _ _ s1
  refine Calls.spliced_cons (ld_blt I1 hgy hy hvy ?_ hny hdy)
  refine Calls.spliced_nil ?_
  obtain ⟨t, ht, q⟩ := unRaw_of q1
  exact thn (call_isi pins s1 σ H1 [x, .ty T] [u, .type T] (EPQ X B σ ρ F1 H1 m1 (fun z => Q z m1)) I1 (.cons r1 (.cons rfl .nil)) ⟨x, .ty T, .type t, .type T, f pv, rfl, .ty T, rep_ty st1.sub rp1 ht, kit_ty (hT pv t ht), epq_now st1 (.bl _) q⟩) fun _ _ h => epg ex1 (epg_of h)

/-! ### len, list, tuple, int, max, min, all, any, sum -/
@[simp] def gLen : GC := fun ps Q => match ps with
  | [.lst xs] => Q (.int xs.length)
  | [.tup xs] => Q (.int xs.length)
  | [.scr ns] => Q (.int ns.length)
  | [.str z] => z.length ≤ 1000000 ∧ Q (.int z.length)
  | _ => False
theorem rep1 {K : PySem.W.Frag} {F : Hp} {vs : List V} {p : PV} (r : RepAll K F vs [p]) : ∃ v, vs = [v] ∧ Rep K F v p := by
  cases r with
  | cons r t => cases t; exact ⟨_, rfl, r⟩
theorem rep2 {K : PySem.W.Frag} {F : Hp} {vs : List V} {p q : PV} (r : RepAll K F vs [p, q]) : ∃ v u, vs = [v, u] ∧ Rep K F v p ∧ Rep K F u q := by
  cases r with
  | cons r t =>
    cases t with
    | cons r2 t => cases t; exact ⟨_, _, rfl, r, r2⟩
theorem c_len : OpC X (.builtin "len") gLen := by
  intro B pins s σ F H ρ m xs us ps Q I st rv rp hg
  unfold gLen at hg
  split at hg
  · obtain ⟨v, rfl, r⟩ := rep1 rp
    cases r with
    | lst e r => exact thn (call_len pins s σ H _ us (EPQ X B σ ρ F H m Q) I rv ⟨_, _, rfl, .inl ⟨_, SqL.of (st.sub _ _ e), rfl⟩, epq_now st (.int _) (by rw [r.length]; exact hg)⟩) fun _ _ h => epg_of h
  · obtain ⟨v, rfl, r⟩ := rep1 rp
    cases r with
    | tup e r => exact thn (call_len pins s σ H _ us (EPQ X B σ ρ F H m Q) I rv ⟨_, _, rfl, .inr ⟨_, same_t st.sub e, rfl⟩, epq_now st (.int _) (by rw [r.length]; exact hg)⟩) fun _ _ h => epg_of h
  · obtain ⟨v, rfl, r⟩ := rep1 rp
    cases r with
    | scr e => exact thn (call_len pins s σ H _ us (EPQ X B σ ρ F H m Q) I rv ⟨_, _, rfl, .inl ⟨_, st.sub.seq e, rfl⟩, epq_now st (.int _) (by rw [List.length_map]; exact hg)⟩) fun _ _ h => epg_of h
  · obtain ⟨v, rfl, r⟩ := rep1 rp
    cases r
    exact thn (call_len pins s σ H _ us (EPQ X B σ ρ F H m Q) I rv ⟨_, _, rfl, ⟨line6 hg.1, rfl⟩, epq_now st (.int _) hg.2⟩) fun _ _ h => epg_of h
  · exact hg.elim
@[simp] def gList : GC := fun ps Q => match ps with
  | [.lst xs] => Q (.lst xs)
  | [.tup xs] => Q (.lst xs)
  | _ => False
theorem c_list : OpC X (.type "list") gList := by
  intro B pins s σ F H ρ m xs us ps Q I st rv rp hg
  unfold gList at hg
  split at hg
  · obtain ⟨v, rfl, r⟩ := rep1 rp
    cases r with
    | lst e r => exact thn (call_list_of pins s σ H _ us (EPQ X B σ ρ F H m Q) I rv ⟨_, _, rfl, .inl (SqL.of (st.sub _ _ e)), epq_lst st r hg⟩) fun _ _ h => epg_of h
  · obtain ⟨v, rfl, r⟩ := rep1 rp
    cases r with
    | tup e r => exact thn (call_list_of pins s σ H _ us (EPQ X B σ ρ F H m Q) I rv ⟨_, _, rfl, .inr (same_t st.sub e), epq_lst st r hg⟩) fun _ _ h => epg_of h
  · exact hg.elim
@[simp] def gTuple : GC := fun ps Q => match ps with
  | [.lst xs] => Q (.tup xs)
  | [.tup xs] => Q (.tup xs)
  | _ => False
theorem c_tuple : OpC X (.type "tuple") gTuple := by
  intro B pins s σ F H ρ m xs us ps Q I st rv rp hg
  unfold gTuple at hg
  split at hg
  · obtain ⟨v, rfl, r⟩ := rep1 rp
    cases r with
    | lst e r => exact thn (call_tuple_of pins s σ H _ us (EPQ X B σ ρ F H m Q) I rv ⟨_, _, rfl, .inl ⟨SqL.of (st.sub _ _ e), epq_tup st r hg⟩⟩) fun _ _ h => epg_of h
  · obtain ⟨v, rfl, r⟩ := rep1 rp
    cases r with
    | tup e r => exact thn (call_tuple_of pins s σ H _ us (EPQ X B σ ρ F H m Q) I rv ⟨_, _, rfl, .inr ⟨same_t st.sub e, epq_now st (.tup e r) hg⟩⟩) fun _ _ h => epg_of h
  · exact hg.elim
@[simp] def gInt : GC := fun ps Q => match ps with
  | [.int i] => Q (.int i)
  | [.bl b] => Q (.int (if b then 1 else 0))
  | _ => False
theorem c_int : OpC X (.type "int") gInt := by
  intro B pins s σ F H ρ m xs us ps Q I st rv rp hg
  unfold gInt at hg
  split at hg
  · obtain ⟨v, rfl, r⟩ := rep1 rp
    cases r
    exact thn (call_int1 pins s σ H _ us (EPQ X B σ ρ F H m Q) I rv (.inl ⟨_, rfl, epq_now st (.int _) hg⟩)) fun _ _ h => epg_of h
  · obtain ⟨v, rfl, r⟩ := rep1 rp
    cases r
    exact thn (call_int1 pins s σ H _ us (EPQ X B σ ρ F H m Q) I rv (.inr ⟨_, rfl, epq_now st (.int _) hg⟩)) fun _ _ h => epg_of h
  · exact hg.elim
/-- the ints of a list of ints -/
def intsOf : List PV → Option (List Int)
  | [] => some []
  | .int i :: ps => (intsOf ps).map (i :: ·)
  | _ :: _ => none
theorem intsOf_rep {K : PySem.W.Frag} {F : Hp} : ∀ {xs : List V} {ps : List PV} {ns : List Int}, RepAll K F xs ps → intsOf ps = some ns → xs = ns.map V.int
  | _, _, _, .nil, h => by simp [intsOf] at h; subst h; rfl
  | _, _, ns, .cons (p := p) r t, h => by
    cases p <;> simp only [intsOf] at h <;> try cases h
    rename_i i
    cases e : intsOf _ with
    | none => rw [e] at h; cases h
    | some ms =>
      rw [e] at h
      simp at h
      subst h
      cases r
      simp [intsOf_rep t e]
def blsOf : List PV → Option (List Bool)
  | [] => some []
  | .bl i :: ps => (blsOf ps).map (i :: ·)
  | _ :: _ => none
theorem blsOf_rep {K : PySem.W.Frag} {F : Hp} : ∀ {xs : List V} {ps : List PV} {ns : List Bool}, RepAll K F xs ps → blsOf ps = some ns → xs = ns.map V.bl
  | _, _, _, .nil, h => by simp [blsOf] at h; subst h; rfl
  | _, _, ns, .cons (p := p) r t, h => by
    cases p <;> simp only [blsOf] at h <;> try cases h
    rename_i i
    cases e : blsOf _ with
    | none => rw [e] at h; cases h
    | some ms =>
      rw [e] at h
      simp at h
      subst h
      cases r
      simp [blsOf_rep t e]
@[simp] def gMax : GC := fun ps Q => match ps with
  | [.int i, .int j] => Q (.int (if j > i then j else i))
  | [.lst xs] => ∃ ns, intsOf xs = some ns ∧ 0 < ns.length ∧ ∀ k, k ∈ ns → (∀ y, y ∈ ns → y ≤ k) → Q (.int k)
  | _ => False
theorem c_max (hc : X.calm = true) : OpC X (.builtin "max") gMax := by
  intro B pins s σ F H ρ m xs us ps Q I st rv rp hg
  unfold gMax at hg
  split at hg
  · obtain ⟨v, u, rfl, r1, r2⟩ := rep2 rp
    cases r1; cases r2
    exact thn (call_max2 hc pins s σ H _ us (EPQ X B σ ρ F H m Q) I rv ⟨_, _, rfl, epq_now st (.int _) hg⟩) fun _ _ h => epg_of h
  · obtain ⟨v, rfl, r⟩ := rep1 rp
    obtain ⟨ns, hn, hl, hq⟩ := hg
    cases r with
    | lst e r =>
      have e2 := intsOf_rep r hn
      subst e2
      exact thn (cr_max hc pins s σ H _ us (EPQ X B σ ρ F H m Q) I rv ⟨_, ns, rfl, SqL.of (st.sub _ _ e), hl, fun k h1 h2 => epq_now st (.int _) (hq k h1 h2)⟩) fun _ _ h => epg_of h
  · exact hg.elim
@[simp] def gMin : GC := fun ps Q => match ps with
  | [.int i, .int j] => Q (.int (if j < i then j else i))
  | [.lst xs] => ∃ ns, intsOf xs = some ns ∧ 0 < ns.length ∧ ∀ k, k ∈ ns → (∀ y, y ∈ ns → k ≤ y) → Q (.int k)
  | _ => False
theorem c_min (hc : X.calm = true) : OpC X (.builtin "min") gMin := by
  intro B pins s σ F H ρ m xs us ps Q I st rv rp hg
  unfold gMin at hg
  split at hg
  · obtain ⟨v, u, rfl, r1, r2⟩ := rep2 rp
    cases r1; cases r2
    exact thn (call_min2 hc pins s σ H _ us (EPQ X B σ ρ F H m Q) I rv ⟨_, _, rfl, epq_now st (.int _) hg⟩) fun _ _ h => epg_of h
  · obtain ⟨v, rfl, r⟩ := rep1 rp
    obtain ⟨ns, hn, hl, hq⟩ := hg
    cases r with
    | lst e r =>
      have e2 := intsOf_rep r hn
      subst e2
      exact thn (cr_min hc pins s σ H _ us (EPQ X B σ ρ F H m Q) I rv ⟨_, ns, rfl, SqL.of (st.sub _ _ e), hl, fun k h1 h2 => epq_now st (.int _) (hq k h1 h2)⟩) fun _ _ h => epg_of h
  · exact hg.elim
@[simp] def gBls (f : List Bool → Bool) : GC := fun ps Q => match ps with
  | [.lst xs] => ∃ bs, blsOf xs = some bs ∧ Q (.bl (f bs))
  | _ => False
theorem c_all (hc : X.calm = true) : OpC X (.builtin "all") (gBls fun bs => bs.all id) := by
  intro B pins s σ F H ρ m xs us ps Q I st rv rp hg
  unfold gBls at hg
  split at hg
  · obtain ⟨v, rfl, r⟩ := rep1 rp
    obtain ⟨bs, hn, hq⟩ := hg
    cases r with
    | lst e r =>
      have e2 := blsOf_rep r hn
      subst e2
      exact thn (cr_all hc pins s σ H _ us (EPQ X B σ ρ F H m Q) I rv ⟨_, bs, rfl, SqL.of (st.sub _ _ e), epq_now st (.bl _) hq⟩) fun _ _ h => epg_of h
  · exact hg.elim
theorem c_any (hc : X.calm = true) : OpC X (.builtin "any") (gBls fun bs => bs.any id) := by
  intro B pins s σ F H ρ m xs us ps Q I st rv rp hg
  unfold gBls at hg
  split at hg
  · obtain ⟨v, rfl, r⟩ := rep1 rp
    obtain ⟨bs, hn, hq⟩ := hg
    cases r with
    | lst e r =>
      have e2 := blsOf_rep r hn
      subst e2
      exact thn (cr_any hc pins s σ H _ us (EPQ X B σ ρ F H m Q) I rv ⟨_, bs, rfl, SqL.of (st.sub _ _ e), epq_now st (.bl _) hq⟩) fun _ _ h => epg_of h
  · exact hg.elim
@[simp] def gSum : GC := fun ps Q => match ps with
  | [.lst xs] => ∃ ns, intsOf xs = some ns ∧ Q (.int ns.sum)
  | _ => False
theorem c_sum (hc : X.calm = true) : OpC X (.builtin "sum") gSum := by
  intro B pins s σ F H ρ m xs us ps Q I st rv rp hg
  unfold gSum at hg
  split at hg
  · obtain ⟨v, rfl, r⟩ := rep1 rp
    obtain ⟨ns, hn, hq⟩ := hg
    cases r with
    | lst e r =>
      have e2 := intsOf_rep r hn
      subst e2
      exact thn (cr_sum hc pins s σ H _ us (EPQ X B σ ρ F H m Q) I rv ⟨_, ns, rfl, SqL.of (st.sub _ _ e), epq_now st (.int _) hq⟩) fun _ _ h => epg_of h
  · exact hg.elim
end
end PL


namespace PL
open PySem PySem.Spec PyProof.Rows L2

section
variable {X : Cx} {B : Bs} {pins : List (Addr × Obj)} {F H : Hp} {σ : L2.St} {ρ : PEnv} {m : Mem}
/-- the state without the frame's slots -/
structure GSt (w : World) (K : PySem.W.Frag) (B : Bs) (F H : Hp) (m : Mem) : Prop where
  sub : Same F H
  nt : ∀ a o, F a = some o → noTbl o
  mem : ∀ a c, m a = some c → F a = none ∧ RepC K F H a c
  ext : Ext B.F B.H B.m F H m
  tab : LamX.Tabs B.T H
theorem PSt.g {w : World} {K : PySem.W.Frag} (st : PSt w K B F σ H ρ m) : GSt w K B F H m := ⟨st.sub, st.nt, st.mem, st.ext, st.tab⟩
def SPP (X : Cx) (B : Bs) (pins : List (Addr × Obj)) (F : Hp) (D : PEnds) (f : Flow) (s' : Shared) : Prop := match f with
  | .next => ∃ σ' F' H' ρ' m', Inv X pins σ' H' s' ∧ PSt X.w X.K B F' σ' H' ρ' m' ∧ Same F F' ∧ D.nx ρ' m'
  | .brk => ∃ σ' F' H' ρ' m', Inv X pins σ' H' s' ∧ PSt X.w X.K B F' σ' H' ρ' m' ∧ Same F F' ∧ D.bk ρ' m'
  | .cont => ∃ σ' F' H' ρ' m', Inv X pins σ' H' s' ∧ PSt X.w X.K B F' σ' H' ρ' m' ∧ Same F F' ∧ D.ct ρ' m'
  | .ret u => ∃ v p σ' F' H' m', Inv X pins σ' H' s' ∧ GSt X.w X.K B F' H' m' ∧ RelV v u ∧ Rep X.K F' v p ∧ D.rt p m'
structure JS (X : Cx) (B : Bs) (st : Stmt) (t : DS) : Prop where
  run : ∀ (D : PEnds), L2N.Takes X (WR X B D.ex) → ∀ (pins : List (Addr × Obj)) (s : Shared) (σ : L2.St) (F H : Hp) (ρ : PEnv) (m : Mem), Inv X pins σ H s → PSt X.w X.K B F σ H ρ m → t ρ m D →
    wpAny (model X.prog X.w) X.A (exec st X.env) (SPP X B pins F D) X.xe s
structure JB (X : Cx) (B : Bs) (st : List Stmt) (t : DS) : Prop where
  run : ∀ (D : PEnds), L2N.Takes X (WR X B D.ex) → ∀ (pins : List (Addr × Obj)) (s : Shared) (σ : L2.St) (F H : Hp) (ρ : PEnv) (m : Mem), Inv X pins σ H s → PSt X.w X.K B F σ H ρ m → t ρ m D →
    wpAny (model X.prog X.w) X.A (execs st X.env) (SPP X B pins F D) X.xe s
theorem SPP.mono {F0 : Hp} {D : PEnds} {f : Flow} {s' : Shared} (e : Same F0 F) (h : SPP X B pins F D f s') : SPP X B pins F0 D f s' := by
  cases f with
  | next => obtain ⟨σ', F', H', ρ', m', I, st, e2, q⟩ := h; exact ⟨σ', F', H', ρ', m', I, st, e.trans e2, q⟩
  | brk => obtain ⟨σ', F', H', ρ', m', I, st, e2, q⟩ := h; exact ⟨σ', F', H', ρ', m', I, st, e.trans e2, q⟩
  | cont => obtain ⟨σ', F', H', ρ', m', I, st, e2, q⟩ := h; exact ⟨σ', F', H', ρ', m', I, st, e.trans e2, q⟩
  | ret u => exact h

/-! ### blocks -/
@[simp] def wNext : DS := fun ρ m D => D.nx ρ m
@[simp] def wSeq (t u : DS) : DS := fun ρ m D => t ρ m { D with nx := fun ρ' m' => u ρ' m' D }
theorem jb_nil : JB X B [] wNext := ⟨fun D tk pins s σ F H ρ m I st h => wpAny_execs_nil ⟨σ, F, H, ρ, m, I, st, Same.refl F, h⟩⟩
theorem jb_cons {st : Stmt} {rest : List Stmt} {t u : DS} (h1 : JS X B st t) (h2 : JB X B rest u) : JB X B (st :: rest) (wSeq t u) := by
  refine ⟨fun D tk pins s σ F H ρ m I st h => ?_⟩
  refine wpAny_execs_cons (thn (h1.run { D with nx := fun ρ' m' => u ρ' m' D } tk pins s σ F H ρ m I st h) fun f s1 q => ?_)
  cases f with
  | next =>
    obtain ⟨σ', F', H', ρ', m', I', st', e, q⟩ := q
    exact thn (h2.run D tk pins s1 σ' F' H' ρ' m' I' st' q) fun f s2 q2 => q2.mono e
  | ret v => exact q
  | brk => exact q
  | cont => exact q
theorem jb_one {st : Stmt} {t : DS} (h1 : JS X B st t) : JB X B [st] t := by
  refine ⟨fun D tk pins s σ F H ρ m I st h => ?_⟩
  refine wpAny_execs_cons (thn (h1.run D tk pins s σ F H ρ m I st h) fun f s1 q => ?_)
  cases f with
  | next => exact wpAny_execs_nil q
  | ret v => exact q
  | brk => exact q
  | cont => exact q
/-- a ghost step: what is known is told otherwise -/
theorem jb_ghost {sts : List Stmt} {t u : DS} (h2 : JB X B sts u) (h : ∀ (D : PEnds) (pins : List (Addr × Obj)) (s : Shared) (σ : L2.St) (F H : Hp) (ρ : PEnv) (m : Mem), Inv X pins σ H s → PSt X.w X.K B F σ H ρ m → t ρ m D → ∃ F' ρ' m', PSt X.w X.K B F' σ H ρ' m' ∧ Same F F' ∧ u ρ' m' D) : JB X B sts t := by
  refine ⟨fun D tk pins s σ F H ρ m I st hw => ?_⟩
  obtain ⟨F', ρ', m', st', e, hu⟩ := h D pins s σ F H ρ m I st hw
  exact thn (h2.run D tk pins s σ F' H ρ' m' I st' hu) fun f s2 q2 => q2.mono e
@[simp] def wPass : DS := wNext
theorem js_pass {pos : Pos} : JS X B (.Pass pos) wNext := ⟨fun D tk pins s σ F H ρ m I st h => wpAny_Pass ⟨σ, F, H, ρ, m, I, st, Same.refl F, h⟩⟩
@[simp] def wBreak : DS := fun ρ m D => D.bk ρ m
@[simp] def wCont : DS := fun ρ m D => D.ct ρ m
theorem js_break {pos : Pos} : JS X B (.Break pos) wBreak := ⟨fun D tk pins s σ F H ρ m I st h => wpAny_Break ⟨σ, F, H, ρ, m, I, st, Same.refl F, h⟩⟩
theorem js_cont {pos : Pos} : JS X B (.Continue pos) wCont := ⟨fun D tk pins s σ F H ρ m I st h => wpAny_Continue ⟨σ, F, H, ρ, m, I, st, Same.refl F, h⟩⟩
variable {e : Expr} {te : DE} {pos : Pos}
@[simp] def wDrop (te : DE) : DS := fun ρ m D => te ρ m (fun _ m1 => D.nx ρ m1) (D.ex ρ)
theorem js_expr (he : JE X B e te) (hs : swapsWith e none pos.line X.env = pure false := by rfl) : JS X B (.Expr e pos) (wDrop te) := by
  refine ⟨fun D tk pins s σ F H ρ m I st h => ?_⟩
  exact wpAny_Expr_any (thn (he.run D.ex tk pins s σ F H ρ m _ I st h) fun v s1 ⟨x, p, F1, H1, m1, I1, st1, ex1, r1, rp1, q1⟩ => ⟨σ, F1, H1, ρ, m1, I1, st1, ex1.fz, q1⟩) I.quiet hs
@[simp] def wRet (te : DE) : DS := fun ρ m D => te ρ m D.rt (D.ex ρ)
theorem js_ret (he : JE X B e te) : JS X B (.Return (some e) pos) (wRet te) := by
  refine ⟨fun D tk pins s σ F H ρ m I st h => ?_⟩
  exact wpAny_Return_some (thn (he.run D.ex tk pins s σ F H ρ m _ I st h) fun v s1 ⟨x, p, F1, H1, m1, I1, st1, ex1, r1, rp1, q1⟩ => ⟨x, p, σ, F1, H1, m1, I1, st1.g, r1, rp1, q1⟩)
@[simp] def wIfS (c : DT) (t u : DS) : DS := fun ρ m D => c ρ m (fun b m1 => match b with | true => t ρ m1 D | false => u ρ m1 D) (D.ex ρ)
theorem js_if {c : Expr} {a b : List Stmt} {tc : DT} {t u : DS} (hc : JT X B c tc) (ha : JB X B a t) (hb : JB X B b u) : JS X B (.If c a b pos) (wIfS tc t u) := by
  refine ⟨fun D tk pins s σ F H ρ m I st h => ?_⟩
  refine wpAny_If (thn (hc.run D.ex tk pins s σ F H ρ m _ I st h) fun d s1 ⟨F1, H1, m1, I1, st1, ex1, q1⟩ => ?_)
  cases d with
  | true => exact thn (ha.run D tk pins s1 σ F1 H1 ρ m1 I1 st1 q1) fun f s2 q2 => q2.mono ex1.fz
  | false => exact thn (hb.run D tk pins s1 σ F1 H1 ρ m1 I1 st1 q1) fun f s2 q2 => q2.mono ex1.fz

/-! ### assignments -/
theorem set_ne' {α : Type} {l : List α} {i j : Nat} {a b : α} (h : i ≠ j) (e : (l.set i a)[j]? = some b) : l[j]? = some b := by rw [List.getElem?_set_ne h] at e; exact e
/-- a slot gets a value -/
theorem PSt.put {w : World} {K : PySem.W.Frag} {i : Nat} {v : V} {p : PV} (st : PSt w K B F σ H ρ m) (hi : i < σ.length) (rp : Rep K F v p) : PSt w K B F (σ.set i (some v)) H (put ρ i (some (.val p))) m := by
  rw [put_set]
  refine ⟨by rw [List.length_set, List.length_set]; exact st.len, st.sub, st.nt, fun j q h => ?_, fun j o h => ?_, fun j k o o' a hjk h1 h2 h3 => ?_, st.mem, st.ext, st.tab⟩
  · by_cases hj : i = j
    · subst hj
      rw [List.getElem?_set_self (by rw [st.len]; exact hi)] at h
      cases h
      exact ⟨v, by rw [List.getElem?_set_self hi], rp⟩
    · rw [List.getElem?_set_ne hj]
      exact st.val j q (set_ne' hj h)
  · have hj : i ≠ j := by
      rintro rfl
      rw [List.getElem?_set_self (by rw [st.len]; exact hi)] at h
      cases h
    rw [List.getElem?_set_ne hj]
    exact st.own j o (set_ne' hj h)
  · have hj : i ≠ j := by
      rintro rfl
      rw [List.getElem?_set_self (by rw [st.len]; exact hi)] at h1
      cases h1
    have hk : i ≠ k := by
      rintro rfl
      rw [List.getElem?_set_self (by rw [st.len]; exact hi)] at h2
      cases h2
    rw [List.getElem?_set_ne hj] at h3
    rw [List.getElem?_set_ne hk]
    exact st.apart j k o o' a hjk (set_ne' hj h1) (set_ne' hk h2) h3
theorem slot_lt {w : World} {K : PySem.W.Frag} {i : Nat} {x : Str} {s : Shared} (I : Inv X pins σ H s) (hi : X.N[i]? = some x) : i < σ.length := by rw [I.len]; exact (List.getElem?_eq_some_iff.mp hi).1
@[simp] def wSet (i : Nat) (te : DE) : DS := fun ρ m D => te ρ m (fun p m1 => D.nx (put ρ i (some (.val p))) m1) (D.ex ρ)
theorem js_set {x : Str} {pos' : Pos} (i : Nat) (hN : X.N.Nodup) (he : JE X B e te) (hi : X.N[i]? = some x := by rfl) (hx : Loc X.env.scope x := by first | exact Or.inl rfl | exact Or.inr rfl) (hs : swapsWith e (some (.Name x pos')) pos.line X.env = pure false := by rfl) (hf : X.fn x = true ∨ X.env.scope.names.lookup x = some .local := by first | exact .inl rfl | exact .inr rfl | assumption) :
    JS X B (.Assign [.Name x pos'] e pos) (wSet i te) := by
  refine ⟨fun D tk pins s σ F H ρ m I st h => ?_⟩
  refine wpAny_Assign_Name (thn (he.run D.ex tk pins s σ F H ρ m _ I st h) fun v s1 ⟨y, p, F1, H1, m1, I1, st1, ex1, r1, rp1, q1⟩ => ?_) hs
  exact store_ok I1 hN hi hx r1 (fun s2 I2 => ⟨_, F1, H1, _, m1, I2, st1.put (slot_lt (w := X.w) (K := X.K) I1 hi) rp1, ex1.fz, q1⟩) hf
/-! targets -/
abbrev DG := PV → PEnv → (PEnv → Prop) → Prop
abbrev DGs := List PV → PEnv → (PEnv → Prop) → Prop
/-- the slots at vs forgotten make the two alike -/
def Wip (is : List Nat) (σ σ' : L2.St) : Prop := ∀ vs : List Nat, (∀ i ∈ is, i ∈ vs) → wipe σ' vs = wipe σ vs
theorem wipe_set {i : Nat} {v : Option V} : ∀ {vs : List Nat} {σ : L2.St}, i ∈ vs → wipe (σ.set i v) vs = wipe σ vs
  | [], _, h => by simp at h
  | j :: vs, σ, h => by
    by_cases hj : i ∈ vs
    · simp only [wipe]
      rw [wipe_set hj]
    · have e : i = j := by
        rcases List.mem_cons.mp h with e | e
        · exact e
        · exact absurd e hj
      subst e
      simp only [wipe]
      have h2 : ∀ (vs : List Nat) (σ : L2.St), i ∉ vs → wipe (σ.set i v) vs = (wipe σ vs).set i v := by
        intro vs
        induction vs with
        | nil => intro σ _; rfl
        | cons k vs ih =>
          intro σ hk
          simp only [List.mem_cons, not_or] at hk
          simp only [wipe]
          rw [ih _ hk.2, List.set_comm _ _ hk.1]
      rw [h2 vs σ hj, List.set_set]
structure JG (X : Cx) (B : Bs) (target : Expr) (is : List Nat) (t : DG) : Prop where
  run : ∀ (pins : List (Addr × Obj)) (s : Shared) (σ : L2.St) (F H : Hp) (ρ : PEnv) (m : Mem) (v : V) (u : Value) (p : PV) (Q : PEnv → Prop), Inv X pins σ H s → PSt X.w X.K B F σ H ρ m → RelV v u → Rep X.K F v p → t p ρ Q →
    wpAny (model X.prog X.w) X.A (assign target X.env u) (fun _ s' => ∃ σ' ρ', Inv X pins σ' H s' ∧ PSt X.w X.K B F σ' H ρ' m ∧ Wip is σ σ' ∧ Q ρ') X.xe s
structure JGs (X : Cx) (B : Bs) (ts : List Expr) (is : List Nat) (t : DGs) : Prop where
  run : ∀ (pins : List (Addr × Obj)) (s : Shared) (σ : L2.St) (F H : Hp) (ρ : PEnv) (m : Mem) (vs : List V) (us : List Value) (ps : List PV) (Q : PEnv → Prop), Inv X pins σ H s → PSt X.w X.K B F σ H ρ m → Vals vs us → RepAll X.K F vs ps → t ps ρ Q →
    wpAny (model X.prog X.w) X.A (assignInOrder ((assignEach ts X.env).map (·.2)) us) (fun _ s' => ∃ σ' ρ', Inv X pins σ' H s' ∧ PSt X.w X.K B F σ' H ρ' m ∧ Wip is σ σ' ∧ Q ρ') X.xe s
@[simp] def gN (i : Nat) : DG := fun p ρ Q => Q (put ρ i (some (.val p)))
theorem jg_name {x : Str} {pos' : Pos} (i : Nat) (hN : X.N.Nodup) (hi : X.N[i]? = some x := by rfl) (hx : Loc X.env.scope x := by first | exact Or.inl rfl | exact Or.inr rfl) (hf : X.fn x = true ∨ X.env.scope.names.lookup x = some .local := by first | exact .inl rfl | exact .inr rfl | assumption) : JG X B (.Name x pos') [i] (gN i) := by
  refine ⟨fun pins s σ F H ρ m v u p Q I st r rp h => ?_⟩
  exact wpAny_assign_Name (store_ok I hN hi hx r (fun s' I' => ⟨_, _, I', st.put (slot_lt (w := X.w) (K := X.K) I hi) rp, fun vs hv => wipe_set (hv i (by simp)), h⟩) hf)
@[simp] def gsNil : DGs := fun ps ρ Q => match ps with
  | [] => Q ρ
  | _ => False
@[simp] def gsCons (t : DG) (u : DGs) : DGs := fun ps ρ Q => match ps with
  | p :: r => t p ρ fun ρ' => u r ρ' Q
  | [] => False
theorem jgs_nil : JGs X B [] [] gsNil := by
  refine ⟨fun pins s σ F H ρ m vs us ps Q I st r rp h => ?_⟩
  unfold gsNil at h
  split at h
  · cases rp; cases r
    exact assignInOrder_nil ⟨σ, ρ, I, st, fun _ _ => rfl, h⟩
  · exact h.elim
theorem jgs_cons {e : Expr} {es : List Expr} {is js : List Nat} {t : DG} {u : DGs} (h1 : JG X B e is t) (h2 : JGs X B es js u)
    (hs : (assignEach (e :: es) X.env).map (·.2) = assign e X.env :: (assignEach es X.env).map (·.2) := by rfl) : JGs X B (e :: es) (is ++ js) (gsCons t u) := by
  refine ⟨fun pins s σ F H ρ m vs us ps Q I st r rp h => ?_⟩
  unfold gsCons at h
  split at h
  · cases rp with
    | cons rp1 rp2 =>
      cases r with
      | cons r1 r2 =>
        rw [hs]
        refine assignInOrder_cons (thn (h1.run pins s σ F H ρ m _ _ _ _ I st r1 rp1 h) fun _ s1 ⟨σ1, ρ1, I1, st1, w1, q1⟩ => ?_)
        exact thn (h2.run pins s1 σ1 F H ρ1 m _ _ _ Q I1 st1 r2 rp2 q1) fun _ s2 ⟨σ2, ρ2, I2, st2, w2, q2⟩ => ⟨σ2, ρ2, I2, st2, fun vs hv => (w2 vs fun i hi => hv i (List.mem_append_right _ hi)).trans (w1 vs fun i hi => hv i (List.mem_append_left _ hi)), q2⟩
  · exact h.elim
@[simp] def gT (n : Nat) (t : DGs) : DG := fun p ρ Q => match p with
  | .tup ps => ps.length = n ∧ t ps ρ Q
  | _ => False
theorem jg_tup {es : List Expr} {is : List Nat} {k : Nat} {t : DGs} {n : Nat} (hc : X.calm = true) (h : JGs X B es is t)
    (hn : (assignEach es X.env).length = n := by rfl) (hst : (assignEach es X.env).findIdx? (·.1) = none := by rfl) : JG X B (.Tuple es k pos) is (gT n t) := by
  refine ⟨fun pins s σ F H ρ m v u p Q I st r rp hw => ?_⟩
  unfold gT at hw
  split at hw
  · obtain ⟨hl, hw⟩ := hw
    cases rp with
    | tup e rr =>
      cases r
      obtain ⟨its, rv, ht, hz⟩ := I.tuple (same_t st.sub e)
      refine assign_Tuple_tuple (I.ok.hd hc) ht (by simp [hn, ← hl, ← rr.length, rv.length]) hst fun h' hx => ?_
      have I1 : Inv X pins σ H { s with heap := h' } := I.kept (t' := s.toks) fun b o e => hx b o (Nat.ne_of_lt (Heap.lt_size e)) e
      exact h.run pins _ σ F H ρ m _ _ _ Q I1 st (by simpa using rv) rr hw
  · exact hw.elim
/-- target = value -/
@[simp] def wAsg (te : DE) (g : DG) : DS := fun ρ m D => te ρ m (fun p m1 => g p ρ fun ρ' => D.nx ρ' m1) (D.ex ρ)
theorem js_asg {tg : Expr} {is : List Nat} {g : DG} (he : JE X B e te) (hg : JG X B tg is g) (hs : swapsWithSole [tg] e pos.line X.env = pure false := by rfl) (hw : swappedStores [tg] e X.env = pure none := by rfl)
    (h1 : (assignEach [tg] X.env).map (·.2) = [assign tg X.env] := by rfl) : JS X B (.Assign [tg] e pos) (wAsg te g) := by
  refine ⟨fun D tk pins s σ F H ρ m I st h => ?_⟩
  refine wpAny_Assign_stores (thn (he.run D.ex tk pins s σ F H ρ m _ I st h) fun v s1 ⟨x, p, F1, H1, m1, I1, st1, ex1, r1, rp1, q1⟩ => ?_) hs hw
  rw [h1]
  exact thn (hg.run pins s1 σ F1 H1 ρ m1 x v p _ I1 st1 r1 rp1 q1) fun _ s2 ⟨σ2, ρ2, I2, st2, _, q2⟩ => ⟨σ2, F1, H1, ρ2, m1, I2, st2, ex1.fz, q2⟩
/-- a, b = x, y with two plain local names -/
@[simp] def wPar (i j : Nat) (ta : DA) : DS := fun ρ m D => ta ρ m (fun ps m1 => match ps with
  | [p, q] => D.nx (put (put ρ i (some (.val p))) j (some (.val q))) m1
  | _ => False) (D.ex ρ)
theorem js_par {x y : Str} {a b : Expr} {ta : DA} {px py pt : Pos} {kt k2 pt2} (i j : Nat) (hc : X.calm = true) (hN : X.N.Nodup) (ha : JA X B [a, b] ta) (hi : X.N[i]? = some x := by rfl) (hj : X.N[j]? = some y := by rfl) (hij : i ≠ j := by decide)
    (hx : X.env.scope.names.lookup x = some .local := by rfl) (hy : X.env.scope.names.lookup y = some .local := by rfl)
    (hw : swappedStores [.Tuple [.Name x px, .Name y py] kt pt] (.Tuple [a, b] k2 pt2) X.env = pure (some [x, y]) := by rfl)
    (hs : swapsWithSole [.Tuple [.Name x px, .Name y py] kt pt] (.Tuple [a, b] k2 pt2) pos.line X.env = pure false := by rfl) :
    JS X B (.Assign [.Tuple [.Name x px, .Name y py] kt pt] (.Tuple [a, b] k2 pt2) pos) (wPar i j ta) := by
  refine ⟨fun D tk pins s σ F H ρ m I st h => ?_⟩
  rw [exec_Assign_arm]
  refine wpAny_bind (wpAny_standAt ?_)
  rw [hs]
  refine wpAny_bind (wpAny_pure ?_)
  rw [if_neg (by decide)]
  refine wpAny_bind (Tuple_ (thn (ha.run D.ex tk _ pins s σ F H ρ m _ I st h) fun us s1 ⟨vs, ps, F1, H1, m1, I1, st1, ex1, r1, rp1, _, q1⟩ => ?_))
  try simp only at q1
  split at q1
  · obtain ⟨v, w, rfl, rpv, rpw⟩ := rep2 rp1
    obtain ⟨u1, u2, rfl, rv, rw'⟩ : ∃ u1 u2, us = [u1, u2] ∧ RelV v u1 ∧ RelV w u2 := by
      cases r1 with
      | cons p q =>
        cases q with
        | cons p' q' =>
          cases q'
          exact ⟨_, _, rfl, p, p'⟩
    refine wpAny_newObj_type ?_ (by show 2 ≤ sizeLine; decide)
    have I2 : Inv X pins σ H1 { s1 with heap := s1.heap.push { cls := .type "tuple", data := .seq [u1, u2].toArray } } := I1.kept (t' := s1.toks) fun b o e => Heap.get?_push_of_some _ e
    rw [hw]
    refine wpAny_bind (wpAny_pure ?_)
    show wpAny (model X.prog X.w) X.A (do rule "assign.swapped-stores"; let items ← unpackItems (.ref s1.heap.objs.size) 2 none; assignInOrder [fun v => bindName X.env y v, fun v => bindName X.env x v] items.reverse; pure Flow.next) _ _ _
    refine wpAny_bind (wpAny_rule (wpAny_bind (unpackItems_tuple (items := #[u1, u2]) (I.ok.hd hc) (IsTup.new s1.heap _) fun h' hx' => ?_)))
    have I3 := I2.kept (h' := h') (t' := s1.toks) fun b o e => hx' b o (Nat.ne_of_lt (Heap.lt_size e)) e
    show wpAny _ _ (assignInOrder [fun v => bindName X.env y v, fun v => bindName X.env x v] [u2, u1] >>= fun _ => pure Flow.next) _ _ _
    refine wpAny_bind (assignInOrder_cons (wpAny_bindName (store_ok I3 hN hj (.inl hy) rw' (fun s2 I4 => ?_) (.inr hy))))
    refine assignInOrder_cons (wpAny_bindName (store_ok I4 hN hi (.inl hx) rv (fun s3 I5 => assignInOrder_nil (wpAny_pure ?_)) (.inr hx)))
    rw [List.set_comm _ _ (Ne.symm hij)] at I5
    have hli := slot_lt (w := X.w) (K := X.K) I1 hi
    have hlj := slot_lt (w := X.w) (K := X.K) I1 hj
    exact ⟨_, F1, H1, _, m1, I5, (st1.put hli rpv).put (by rw [List.length_set]; exact hlj) rpw, ex1.fz, q1⟩
  · exact q1.elim
/-- x += e, x -= e for ints -/
@[simp] def wAug (i : Nat) (f : Int → Int → Int) (te : DE) : DS := fun ρ m D => match at' ρ i with
  | some (.val (.int a)) => te ρ m (fun p m1 => match p with | .int b => D.nx (put ρ i (some (.val (.int (f a b))))) m1 | _ => False) (D.ex ρ)
  | _ => False
theorem js_aug {x : Str} {pos' : Pos} {op : Operator} {f : Int → Int → Int} (i : Nat) (hN : X.N.Nodup) (ho : PIp X op (ipI f)) (he : JE X B e te) (hi : X.N[i]? = some x := by rfl) (hx : Loc X.env.scope x := by first | exact Or.inl rfl | exact Or.inr rfl) (hf : X.fn x = true ∨ X.env.scope.names.lookup x = some .local := by first | exact .inl rfl | exact .inr rfl | assumption) :
    JS X B (.AugAssign (.Name x pos') op e pos) (wAug i f te) := by
  refine ⟨fun D tk pins s σ F H ρ m I st h => ?_⟩
  unfold wAug at h
  split at h
  · rename_i a ea
    obtain ⟨v0, e1, rp0⟩ := st.val i _ (at_get ea)
    cases rp0
    have pa := ps_aug (te := fun σ' H' Q => σ' = σ ∧ H' = H ∧ ∀ v F1 H1 m1, PSt X.w X.K B F1 σ H1 ρ m1 → Ext F H m F1 H1 m1 → (∃ b, v = .int b ∧ D.nx (put ρ i (some (.val (.int (f a b))))) m1) → Q v H1) (pos := pos) (pos' := pos') (i := i) (x := x) (e := e) hN hi hx ⟨fun pins s σ' H' Q I' ⟨e1, e2, k⟩ => by
      subst e1 e2
      refine thn (he.run D.ex tk pins s σ' F H' ρ m _ I' st h) fun u s1 ⟨y, p, F1, H1, m1, I1, st1, ex1, r1, rp1, q1⟩ => ⟨y, H1, I1, r1, k y F1 H1 m1 st1 ex1 ?_⟩
      try simp only at q1
      split at q1
      · cases rp1; exact ⟨_, rfl, q1⟩
      · exact q1.elim⟩ ho hf
    refine thn (pa.run pins s σ H { nx := fun σ' H' => ∃ F' ρ' m', PSt X.w X.K B F' σ' H' ρ' m' ∧ Same F F' ∧ D.nx ρ' m', rt := fun _ _ => False } I ⟨.int a, e1, rfl, rfl, fun v F1 H1 m1 st1 ex1 ⟨b, ev, q⟩ => ?_⟩) fun fl s1 q => ?_
    · subst ev
      exact ⟨a, b, rfl, rfl, F1, _, m1, st1.put (slot_lt (w := X.w) (K := X.K) I hi) (.int _), ex1.fz, q⟩
    · cases fl with
      | next => obtain ⟨σ', H', I', F', ρ', m', st', e, q⟩ := q; exact ⟨σ', F', H', ρ', m', I', st', e, q⟩
      | ret u => obtain ⟨_, _, _, _, _, q⟩ := q; exact q.elim
      | brk => obtain ⟨_, _, _, q⟩ := q; exact q.elim
      | cont => obtain ⟨_, _, _, q⟩ := q; exact q.elim
  · exact h.elim
end
end PL


namespace PL
open PySem PySem.Spec PyProof.Rows L2

/-! ### readings of the hand layer -/
section
variable {X : Cx} {B : Bs}
def tS (X : Cx) (B : Bs) (Ex : PX) (t : DS) : TS := fun Dh σ H => ∃ F ρ m, ∃ D : PEnds, D.ex = Ex ∧ PSt X.w X.K B F σ H ρ m ∧ t ρ m D ∧
  (∀ σ' F' H' ρ' m', PSt X.w X.K B F' σ' H' ρ' m' → Same F F' → D.nx ρ' m' → Dh.nx σ' H') ∧
  (∀ v p F' H' m', GSt X.w X.K B F' H' m' → Rep X.K F' v p → D.rt p m' → Dh.rt v H') ∧
  (∀ σ' F' H' ρ' m', PSt X.w X.K B F' σ' H' ρ' m' → Same F F' → D.bk ρ' m' → Dh.bk σ' H') ∧
  (∀ σ' F' H' ρ' m', PSt X.w X.K B F' σ' H' ρ' m' → Same F F' → D.ct ρ' m' → Dh.ct σ' H')
theorem SPP.sp {pins : List (Addr × Obj)} {F : Hp} {D : PEnds} {Dh : Ends} {f : Flow} {s' : Shared} (h : SPP X B pins F D f s')
    (h1 : ∀ σ' F' H' ρ' m', PSt X.w X.K B F' σ' H' ρ' m' → Same F F' → D.nx ρ' m' → Dh.nx σ' H')
    (h2 : ∀ v p F' H' m', GSt X.w X.K B F' H' m' → Rep X.K F' v p → D.rt p m' → Dh.rt v H')
    (h3 : ∀ σ' F' H' ρ' m', PSt X.w X.K B F' σ' H' ρ' m' → Same F F' → D.bk ρ' m' → Dh.bk σ' H')
    (h4 : ∀ σ' F' H' ρ' m', PSt X.w X.K B F' σ' H' ρ' m' → Same F F' → D.ct ρ' m' → Dh.ct σ' H') : SP X pins Dh f s' := by
  cases f with
  | next => obtain ⟨σ', F', H', ρ', m', I, st, e, q⟩ := h; exact ⟨σ', H', I, h1 _ _ _ _ _ st e q⟩
  | brk => obtain ⟨σ', F', H', ρ', m', I, st, e, q⟩ := h; exact ⟨σ', H', I, h3 _ _ _ _ _ st e q⟩
  | cont => obtain ⟨σ', F', H', ρ', m', I, st, e, q⟩ := h; exact ⟨σ', H', I, h4 _ _ _ _ _ st e q⟩
  | ret u => obtain ⟨v, p, σ', F', H', m', I, g, r, rp, q⟩ := h; exact ⟨v, σ', H', I, r, h2 _ _ _ _ _ g rp q⟩
theorem JB.pss {st : List Stmt} {t : DS} (h : JB X B st t) {Ex : PX} (tk : L2N.Takes X (WR X B Ex)) : PSs X st (tS X B Ex t) := by
  refine ⟨fun pins s σ H Dh I ⟨F, ρ, m, D, e, st, ht, h1, h2, h3, h4⟩ => ?_⟩
  subst e
  exact thn (h.run D tk pins s σ F H ρ m I st ht) fun f s' q => q.sp h1 h2 h3 h4
def tG (X : Cx) (B : Bs) (is : List Nat) (t : DG) : TG := fun v σ H Q => ∃ F ρ m p Qp, PSt X.w X.K B F σ H ρ m ∧ Rep X.K F v p ∧ t p ρ Qp ∧ ∀ σ' ρ', PSt X.w X.K B F σ' H ρ' m → Wip is σ σ' → Qp ρ' → Q σ' H
theorem JG.pg {tg : Expr} {is : List Nat} {t : DG} (h : JG X B tg is t) : PG X tg (tG X B is t) := by
  refine ⟨fun pins s σ H v u Q I r ⟨F, ρ, m, p, Qp, st, rp, ht, k⟩ => ?_⟩
  exact thn (h.run pins s σ F H ρ m v u p Qp I st r rp ht) fun _ s' ⟨σ', ρ', I', st', w, q⟩ => ⟨σ', H, I', k σ' ρ' st' w q⟩
def tA (X : Cx) (B : Bs) (R : PX) (n : Nat) (t : DA) : TA := fun σ H Q => ∃ F ρ m Qp, PSt X.w X.K B F σ H ρ m ∧ t ρ m Qp (R ρ) ∧
  ∀ vs ps F' H' m', PSt X.w X.K B F' σ H' ρ m' → Ext F H m F' H' m' → RepAll X.K F' vs ps → ps.length = n → Qp ps m' → Q vs H'
theorem JA.pa {es : List Expr} {t : DA} (h : JA X B es t) {R : PX} (tk : L2N.Takes X (WR X B R)) : PA X es (tA X B R es.length t) := by
  refine ⟨fun pos pins s σ H Q I ⟨F, ρ, m, Qp, st, ht, k⟩ => ?_⟩
  exact thn (h.run R tk pos pins s σ F H ρ m Qp I st ht) fun us s' ⟨vs, ps, F', H', m', I', st', ex, r, rp, hl, q⟩ => ⟨vs, H', I', r, k vs ps F' H' m' st' ex rp hl q⟩

/-! ### what is walked -/
/-- a walk yields the values ps, one a turn, while what is frozen stands -/
structure Wk (X : Cx) (B : Bs) (J : It) (F1 : Hp) (ps : List PV) : Prop where
  go : ∀ i F H, Same F1 F → Same F H → i < ps.length → J.go i H
  yld : ∀ i F H x H' (σ : L2.St) ρ m, Same F1 F → PSt X.w X.K B F σ H ρ m → J.yld i H x H' → i < ps.length → ∃ F' p, PSt X.w X.K B F' σ H' ρ m ∧ Ext F H m F' H' m ∧ ps[i]? = some p ∧ Rep X.K F' x p
  stop : ∀ i F H, Same F1 F → Same F H → ps.length ≤ i → J.stop i H
abbrev DI := PEnv → Mem → (List PV → Mem → Prop) → KX → Prop
structure JI (X : Cx) (B : Bs) (tg iter : Expr) (t : DI) : Prop where
  pi : ∀ (R : PX), L2N.Takes X (WR X B R) → ∃ wi, PI X tg iter wi ∧ ∀ F σ H ρ m Q (RR : It → Hp → Prop), PSt X.w X.K B F σ H ρ m → t ρ m Q (R ρ) →
    (∀ J F1 H1 m1 ps, PSt X.w X.K B F1 σ H1 ρ m1 → Ext F H m F1 H1 m1 → Wk X B J F1 ps → ps.length ≤ sizeLine → Q ps m1 → RR J H1) → wi σ H RR
theorem wk_list {a : Addr} {F1 : Hp} {vs : List V} {ps : List PV} (e : F1 a = some (.lst vs)) (r : RepAll X.K F1 vs ps) : Wk X B (Itl X.K a) F1 ps where
  go := fun i F H e1 e2 hi => by
    obtain ⟨v, hv, _⟩ := r.get (i := i) (p := ps[i]) (by simp [hi])
    exact ⟨vs, v, SqL.of (e2 _ _ (e1 _ _ e)), hv⟩
  yld := fun i F H x H' σ ρ m e1 st hy hi => by
    obtain ⟨v, hv, rv⟩ := r.get (i := i) (p := ps[i]) (by simp [hi])
    obtain ⟨eH, h⟩ := hy
    subst eH
    have := h vs (SqL.of (st.sub _ _ (e1 _ _ e)))
    rw [hv] at this
    cases this
    exact ⟨F, ps[i], st, Ext.refl _ _ _, by simp [hi], rv.mono e1⟩
  stop := fun i F H e1 e2 hi => ⟨vs, SqL.of (e2 _ _ (e1 _ _ e)), by rw [r.length]; exact hi⟩
theorem wk_tup {a : Addr} {F1 : Hp} {vs : List V} {ps : List PV} (e : SqT X.K F1 a vs) (r : RepAll X.K F1 vs ps) : Wk X B (Itt X.K a) F1 ps where
  go := fun i F H e1 e2 hi => by
    obtain ⟨v, hv, _⟩ := r.get (i := i) (p := ps[i]) (by simp [hi])
    exact ⟨vs, v, same_t e2 (same_t e1 e), hv⟩
  yld := fun i F H x H' σ ρ m e1 st hy hi => by
    obtain ⟨v, hv, rv⟩ := r.get (i := i) (p := ps[i]) (by simp [hi])
    obtain ⟨eH, h⟩ := hy
    subst eH
    have := h vs (same_t st.sub (same_t e1 e))
    rw [hv] at this
    cases this
    exact ⟨F, ps[i], st, Ext.refl _ _ _, by simp [hi], rv.mono e1⟩
  stop := fun i F H e1 e2 hi => ⟨vs, same_t e2 (same_t e1 e), by rw [r.length]; exact hi⟩
/-- lo, lo + 1, .. as values -/
def rngP (lo : Int) (n : Nat) : List PV := (List.range n).map fun (i : Nat) => .int (lo + (i : Int))
theorem rngP_len (lo : Int) (n : Nat) : (rngP lo n).length = n := by simp [rngP]
theorem rngP_get {lo : Int} {n i : Nat} (h : i < n) : (rngP lo n)[i]? = some (.int (lo + (i : Int))) := by simp [rngP, h]
theorem wk_rng {F1 : Hp} (lo : Int) (n : Nat) : Wk X B (Itr lo n) F1 (rngP lo n) where
  go := fun i F H _ _ hi => by rw [rngP_len] at hi; exact hi
  yld := fun i F H x H' σ ρ m e1 st hy hi => by
    rw [rngP_len] at hi
    obtain ⟨eH, h⟩ := hy
    subst eH h
    exact ⟨F, _, st, Ext.refl _ _ _, rngP_get hi, .int _⟩
  stop := fun i F H _ _ hi => by rw [rngP_len] at hi; exact hi
/-- enumerate's pairs -/
def enumP (ps : List PV) : List PV := (List.range ps.length).map fun (i : Nat) => .tup [.int (i : Int), ps.getD i .non]
theorem enumP_len (ps : List PV) : (enumP ps).length = ps.length := by simp [enumP]
theorem wk_enum {a : Addr} {F1 : Hp} {vs : List V} {ps : List PV} (e : F1 a = some (.lst vs)) (r : RepAll X.K F1 vs ps) : Wk X B (Ite X.K a) F1 (enumP ps) where
  go := fun i F H e1 e2 hi => by
    rw [enumP_len] at hi
    obtain ⟨v, hv, _⟩ := r.get (i := i) (p := ps[i]) (by simp [hi])
    exact ⟨vs, v, SqL.of (e2 _ _ (e1 _ _ e)), hv⟩
  yld := fun i F H x H' σ ρ m e1 st hy hi => by
    rw [enumP_len] at hi
    obtain ⟨v, hv, rv⟩ := r.get (i := i) (p := ps[i]) (by simp [hi])
    obtain ⟨T, x', e1', e2', e3', h⟩ := hy
    subst e1' e3'
    have := h vs (SqL.of (st.sub _ _ (e1 _ _ e)))
    rw [hv] at this
    cases this
    obtain ⟨st2, ex2⟩ := st.new (o := .tup [.int (i : Nat), v]) e2' (fun ps z => nomatch z)
    exact ⟨_, .tup [.int (i : Int), ps[i]], st2, ex2, by simp [enumP, hi], .tup (SqT.of upd_same) (.cons (.int _) (.cons ((rv.mono e1).mono ex2.fz) .nil))⟩
  stop := fun i F H e1 e2 hi => ⟨vs, SqL.of (e2 _ _ (e1 _ _ e)), by rw [r.length]; rw [enumP_len] at hi; exact hi⟩

variable {tg l : Expr} {tl : DE}
@[simp] def wIL (t : DE) : DI := fun ρ m Q R => t ρ m (fun p m1 => match p with | .lst ps => ps.length ≤ 1000000 ∧ Q ps m1 | _ => False) R
theorem ji_list (hl : JE X B l tl) : JI X B tg l (wIL tl) := by
  refine ⟨fun R tk => ⟨_, pi_list (hl.pe tk), fun F σ H ρ m Q RR st h k => ⟨F, ρ, m, _, st, h, fun v p F' H' m' st' ex rp q => ?_⟩⟩⟩
  try simp only at q
  split at q
  · cases rp with
    | lst e r => exact ⟨_, rfl, ⟨_, SqL.of (st'.sub _ _ e)⟩, k _ F' _ m' _ st' ex (wk_list e r) (line6 q.1) q.2⟩
  · exact q.elim
@[simp] def wIT (t : DE) : DI := fun ρ m Q R => t ρ m (fun p m1 => match p with | .tup ps => ps.length ≤ 1000000 ∧ Q ps m1 | _ => False) R
theorem ji_tup (hl : JE X B l tl) : JI X B tg l (wIT tl) := by
  refine ⟨fun R tk => ⟨_, pi_tup (hl.pe tk), fun F σ H ρ m Q RR st h k => ⟨F, ρ, m, _, st, h, fun v p F' H' m' st' ex rp q => ?_⟩⟩⟩
  try simp only at q
  split at q
  · cases rp with
    | tup e r => exact ⟨_, rfl, ⟨_, same_t st'.sub e⟩, k _ F' _ m' _ st' ex (wk_tup e r) (line6 q.1) q.2⟩
  · exact q.elim
@[simp] def wIR1 (t : DA) : DI := fun ρ m Q R => t ρ m (fun ps m1 => match ps with | [.int j] => (-1000000 ≤ j ∧ j ≤ 1000000) ∧ Q (rngP 0 j.toNat) m1 | _ => False) R
theorem ji_rng1 {a : Expr} {ta : DA} {p pos : Pos} (hm : X.mg "range" = none) (ha : JA X B [a] ta) (hg : Gl X "range" := by rfl) (hs : starEach [a] X.env = [(false, eval a X.env)] := by rfl) : JI X B tg (.Call (.Name "range" p) [a] [] pos) (wIR1 ta) := by
  refine ⟨fun R tk => ⟨_, pi_range1 hg hm (ha.pa tk) hs, fun F σ H ρ m Q RR st h k => ⟨F, ρ, m, _, st, h, fun vs ps F' H' m' st' ex rp _ q => ?_⟩⟩⟩
  try simp only at q
  split at q
  · obtain ⟨v, rfl, r⟩ := rep1 rp
    cases r
    exact ⟨_, rfl, by omega, by omega, k _ F' _ m' _ st' ex (wk_rng 0 _) (by rw [rngP_len]; exact line6 (by omega)) q.2⟩
  · exact q.elim
@[simp] def wIR2 (t : DA) : DI := fun ρ m Q R => t ρ m (fun ps m1 => match ps with | [.int i, .int j] => (-1000000000000000 ≤ i ∧ i ≤ 1000000000000000 ∧ -1000000000000000 ≤ j ∧ j ≤ 1000000000000000 ∧ j - i ≤ 1000000) ∧ Q (rngP i (j - i).toNat) m1 | _ => False) R
theorem ji_rng2 {a b : Expr} {ta : DA} {p pos : Pos} (hm : X.mg "range" = none) (ha : JA X B [a, b] ta) (hg : Gl X "range" := by rfl) (hs : starEach [a, b] X.env = [(false, eval a X.env), (false, eval b X.env)] := by rfl) (hs2 : starEach [b] X.env = [(false, eval b X.env)] := by rfl) : JI X B tg (.Call (.Name "range" p) [a, b] [] pos) (wIR2 ta) := by
  refine ⟨fun R tk => ⟨_, pi_range2 hg hm (ha.pa tk) hs hs2, fun F σ H ρ m Q RR st h k => ⟨F, ρ, m, _, st, h, fun vs ps F' H' m' st' ex rp _ q => ?_⟩⟩⟩
  try simp only at q
  split at q
  · obtain ⟨v, u, rfl, r, r2⟩ := rep2 rp
    cases r; cases r2
    exact ⟨_, _, rfl, by omega, k _ F' _ m' _ st' ex (wk_rng _ _) (by rw [rngP_len]; exact line6 (by omega)) q.2⟩
  · exact q.elim
@[simp] def wIE (t : DA) : DI := fun ρ m Q R => t ρ m (fun ps m1 => match ps with | [.lst xs] => xs.length ≤ 1000000 ∧ Q (enumP xs) m1 | _ => False) R
theorem ji_enum {e : Expr} {ta : DA} {p pos tpos : Pos} {elts : List Expr} {kk : Nat} (hm : X.mg "enumerate" = none) (ha : JA X B [e] ta) (hg : Gl X "enumerate" := by rfl) (hs : starEach [e] X.env = [(false, eval e X.env)] := by rfl) :
    JI X B (.Tuple elts kk tpos) (.Call (.Name "enumerate" p) [e] [] pos) (wIE ta) := by
  refine ⟨fun R tk => ⟨_, pi_enum hg hm (ha.pa tk) hs, fun F σ H ρ m Q RR st h k => ⟨F, ρ, m, _, st, h, fun vs ps F' H' m' st' ex rp _ q => ?_⟩⟩⟩
  try simp only at q
  split at q
  · obtain ⟨v, rfl, r⟩ := rep1 rp
    cases r with
    | lst e r => exact ⟨_, _, rfl, SqL.of (st'.sub _ _ e), k _ F' _ m' _ st' ex (wk_enum e r) (by rw [enumP_len]; exact line6 q.1) q.2⟩
  · exact q.elim

/-! ### for -/
def forW (g : DG) (tb : DS) : List PV → PEnv → Mem → PEnds → Prop
  | [], ρ, m, D => D.nx ρ m
  | x :: xs, ρ, m, D => g x ρ fun ρ1 => tb ρ1 m { D with nx := fun ρ' m' => forW g tb xs ρ' m' D, ct := fun ρ' m' => forW g tb xs ρ' m' D, bk := D.nx }
@[simp] def wFor (ti : DI) (g : DG) (tb : DS) : DS := fun ρ m D => ti ρ m (fun ps m1 => forW g tb ps ρ m1 D) (D.ex ρ)
theorem drop_get {α : Type} {l : List α} {i : Nat} {x : α} (h : l[i]? = some x) : l.drop i = x :: l.drop (i + 1) := by
  obtain ⟨hi, e⟩ := List.getElem?_eq_some_iff.mp h
  rw [List.drop_eq_getElem_cons hi, e]
theorem js_for {iter : Expr} {body : List Stmt} {is : List Nat} {ti : DI} {g : DG} {tb : DS} {pos : Pos} (hp : PassesOwn (model X.prog X.w) X.A X.env X.xe) (hc : X.calm = true) (hi : JI X B tg iter ti) (hg : JG X B tg is g) (hb : JB X B body tb)
    (hs : ∀ x, foldedSetIterable iter X.env x = pure x := by intro _; rfl) : JS X B (.For tg iter body [] pos) (wFor ti g tb) := by
  refine ⟨fun D tk pins s σ F H ρ m I st h => ?_⟩
  obtain ⟨wi, hpi, hk⟩ := hi.pi D.ex tk
  have pf := ps_for (pos := pos) hp hc hpi hg.pg (hb.pss tk) hs
  let Dh : Ends := { nx := fun σ' H' => ∃ F' ρ' m', PSt X.w X.K B F' σ' H' ρ' m' ∧ Same F F' ∧ D.nx ρ' m', rt := fun v H' => ∃ p F' m', GSt X.w X.K B F' H' m' ∧ Rep X.K F' v p ∧ D.rt p m', bk := fun σ' H' => ∃ F' ρ' m', PSt X.w X.K B F' σ' H' ρ' m' ∧ Same F F' ∧ D.bk ρ' m', ct := fun σ' H' => ∃ F' ρ' m', PSt X.w X.K B F' σ' H' ρ' m' ∧ Same F F' ∧ D.ct ρ' m' }
  refine thn (pf.run pins s σ H Dh I ?_) fun fl s1 q => ?_
  · refine hk F σ H ρ m _ _ st h fun J F1 H1 m1 ps st1 ex1 wk _ hw => ?_
    refine ⟨fun i n σ H => n = ps.length - i ∧ i ≤ ps.length ∧ ∃ F2 ρ2 m2, PSt X.w X.K B F2 σ H ρ2 m2 ∧ Same F1 F2 ∧ forW g tb (ps.drop i) ρ2 m2 D, ⟨ps.length, by simp, Nat.zero_le _, F1, ρ, m1, st1, Same.refl F1, hw⟩, ?_⟩
    rintro i n σ2 H2 ⟨rfl, hi, F2, ρ2, m2, st2, e2, hf⟩
    by_cases hlt : i < ps.length
    · refine .inr ⟨wk.go i F2 H2 e2 st2.sub hlt, fun σ' H' => ∃ F3 ρ3 m3, PSt X.w X.K B F3 σ' H' ρ3 m3 ∧ Same F1 F3 ∧ forW g tb (ps.drop (i + 1)) ρ3 m3 D, fun σ' H' ⟨F3, ρ3, m3, st3, e3, h3⟩ => ⟨ps.length - (i + 1), by omega, rfl, hlt, F3, ρ3, m3, st3, e3, h3⟩, fun x H' hy => ?_⟩
      obtain ⟨F3, p, st3, ex3, hp, rp⟩ := wk.yld i F2 H2 x H' σ2 ρ2 m2 e2 st2 hy hlt
      rw [drop_get hp] at hf
      refine ⟨F3, ρ2, m2, p, _, st3, rp, hf, fun σ4 ρ4 st4 _ h4 => ?_⟩
      refine ⟨F3, ρ4, m2, { D with nx := fun ρ' m' => forW g tb (ps.drop (i + 1)) ρ' m' D, ct := fun ρ' m' => forW g tb (ps.drop (i + 1)) ρ' m' D, bk := D.nx }, rfl, st4, h4, fun σ' F' H' ρ' m' st' e' q => ⟨F', ρ', m', st', (e2.trans ex3.fz).trans e', q⟩, fun v p F' H' m' g rp q => ⟨p, F', m', g, rp, q⟩, fun σ' F' H' ρ' m' st' e' q => ⟨F', ρ', m', st', ((ex1.fz.trans e2).trans ex3.fz).trans e', q⟩, fun σ' F' H' ρ' m' st' e' q => ⟨F', ρ', m', st', (e2.trans ex3.fz).trans e', q⟩⟩
    · have ei : i = ps.length := by omega
      subst ei
      rw [List.drop_length] at hf
      exact .inl ⟨wk.stop _ F2 H2 e2 st2.sub (Nat.le_refl _), F2, ρ2, m2, st2, ex1.fz.trans e2, hf⟩
  · cases fl with
    | next => obtain ⟨σ', H', I', F', ρ', m', st', e, q⟩ := q; exact ⟨σ', F', H', ρ', m', I', st', e, q⟩
    | ret u => obtain ⟨v, σ', H', I', r, p, F', m', g, rp, q⟩ := q; exact ⟨v, p, σ', F', H', m', I', g, r, rp, q⟩
    | brk => obtain ⟨σ', H', I', F', ρ', m', st', e, q⟩ := q; exact ⟨σ', F', H', ρ', m', I', st', e, q⟩
    | cont => obtain ⟨σ', H', I', F', ρ', m', st', e, q⟩ := q; exact ⟨σ', F', H', ρ', m', I', st', e, q⟩
end
end PL


namespace PL
open PySem PySem.Spec PyProof.Rows L2

/-! ### list comprehensions -/
@[simp] def wipeP (ρ : PEnv) : List Nat → PEnv
  | [] => ρ
  | v :: vs => put (wipeP ρ vs) v none
abbrev xBot : KX := fun _ _ => False
abbrev pBot : PX := fun _ => xBot
def compW (g : DG) (c : DT) (t : DE) (ρw : PEnv) : List PV → List PV → Mem → (List PV → Mem → Prop) → Prop
  | [], acc, m, Q => Q acc m
  | x :: xs, acc, m, Q => g x ρw fun ρ2 => c ρ2 m (fun b m3 => match b with
    | true => t ρ2 m3 (fun y m4 => compW g c t ρw xs (acc ++ [y]) m4 Q) xBot
    | false => compW g c t ρw xs acc m3 Q) xBot
@[simp] def wYes : DT := fun _ m Q _ => Q true m
@[simp] def wLc (ti : DI) (g : DG) (c : DT) (t : DE) (vs : List Nat) : DE := fun ρ m Q R => ti ρ m (fun ps m1 => compW g c t (wipeP ρ vs) ps [] m1 (fun acc m2 => Q (.lst acc) m2)) R
section
variable {X : Cx} {B : Bs} {F H : Hp} {σ : L2.St} {ρ : PEnv} {m : Mem}
theorem takes_bot : L2N.Takes X (WR X B pBot) := fun u s' ⟨a, Bh, sI, pins, σ, H, cls, d, e, I, nb, up, sky, na, os, ag, w⟩ => by
  obtain ⟨_, _, _, _, _, _, _, z⟩ := w
  exact z.elim
/-- a slot is forgotten -/
theorem PSt.clear {w : World} {K : PySem.W.Frag} (i : Nat) (st : PSt w K B F σ H ρ m) : PSt w K B F (σ.set i none) H (PL.put ρ i none) m := by
  rw [put_set]
  have key : ∀ {j : Nat} {v : SV}, (ρ.set i none)[j]? = some (some v) → i ≠ j ∧ ρ[j]? = some (some v) := fun {j v} h => by
    by_cases hj : i = j
    · subst hj
      by_cases hi : i < ρ.length
      · rw [List.getElem?_set_self hi] at h; cases h
      · rw [List.getElem?_eq_none (by rw [List.length_set]; omega)] at h; cases h
    · exact ⟨hj, set_ne' hj h⟩
  refine ⟨by rw [List.length_set, List.length_set]; exact st.len, st.sub, st.nt, fun j q h => ?_, fun j o h => ?_, fun j k o o' a hjk h1 h2 h3 => ?_, st.mem, st.ext, st.tab⟩
  · obtain ⟨hj, h⟩ := key h
    rw [List.getElem?_set_ne hj]
    exact st.val j q h
  · obtain ⟨hj, h⟩ := key h
    rw [List.getElem?_set_ne hj]
    exact st.own j o h
  · obtain ⟨hj, h1⟩ := key h1
    obtain ⟨hk, h2⟩ := key h2
    rw [List.getElem?_set_ne hj] at h3
    rw [List.getElem?_set_ne hk]
    exact st.apart j k o o' a hjk h1 h2 h3
theorem PSt.wipe {w : World} {K : PySem.W.Frag} (st : PSt w K B F σ H ρ m) : ∀ vs : List Nat, PSt w K B F (L2.wipe σ vs) H (wipeP ρ vs) m
  | [] => st
  | v :: vs => (PSt.wipe st vs).clear v
/-- nobody of the frame holds the object at D -/
def Free (B : Bs) (F H : Hp) (σ : L2.St) (ρ : PEnv) (m : Mem) (D : Addr) : Prop := F D = none ∧ m D = none ∧ NoB B.H D ∧ (∃ o, H D = some o ∧ noTbl o) ∧ ∀ (i : Nat) (o : OO), ρ[i]? = some (some (.own o)) → σ[i]? ≠ some (some (.ref D))
theorem tabs_upd {T : List (Addr × Str)} {D : Addr} {o u : HO} (t : LamX.Tabs T H) (h : H D = some u) (n : noTbl u) (nc : ∀ c q, u ≠ LamX.CodeO c q) : LamX.Tabs T (upd H D o) := fun p hp => by
  obtain ⟨ps, h1, h2, h3⟩ := t p hp
  have ne : p.1 ≠ D := fun z => n ps (Option.some.inj (h.symm.trans (z ▸ h1)))
  refine ⟨ps, by rw [upd_ne ne]; exact h1, h2, fun pos cv hc => ?_⟩
  obtain ⟨c, e1, e2⟩ := h3 pos cv hc
  refine ⟨c, e1, ?_⟩
  have ne2 : c ≠ D := by
    rintro rfl
    exact nc c p.2 (Option.some.inj (h.symm.trans e2))
  rw [upd_ne ne2]; exact e2
/-- the object at D, nobody's, is changed -/
theorem PSt.upd {w : World} {K : PySem.W.Frag} {D : Addr} {o u : HO} (st : PSt w K B F σ H ρ m) (f : Free B F H σ ρ m D) (h : H D = some u) (nc : ∀ c q, u ≠ LamX.CodeO c q) (n : noTbl u) (nown : ∀ a, u ≠ .own a) : PSt w K B F σ (L2.upd H D o) ρ m := by
  obtain ⟨f1, f2, f3, _, f5⟩ := f
  have neF : ∀ a u', F a = some u' → a ≠ D := fun a u' e z => by subst z; rw [f1] at e; cases e
  refine ⟨st.len, fun a u' e => by rw [upd_ne (neF a u' e)]; exact st.sub a u' e, st.nt, st.val, fun i o' h' => ?_, st.apart, fun a c e => ?_, ?_, tabs_upd st.tab h n nc⟩
  · obtain ⟨a, h1, h2, h3, h4, h5⟩ := st.own i o' h'
    have ne : a ≠ D := fun z => f5 i o' h' (z ▸ h1)
    exact ⟨a, h1, h2, h3, h4, h5.keep (Same.refl F) fun u' hu _ => by rw [upd_ne ne]; exact hu⟩
  · obtain ⟨h1, h2⟩ := st.mem a c e
    have ne : a ≠ D := fun z => by subst z; rw [f2] at e; cases e
    refine ⟨h1, ?_⟩
    cases c with
    | dice => obtain ⟨i, j, e1⟩ := h2; exact ⟨i, j, by rw [upd_ne ne]; exact e1⟩
    | lst xs => obtain ⟨vs, e1, r⟩ := h2; exact ⟨vs, by rw [upd_ne ne]; exact e1, r⟩
    | ins C fs =>
      obtain ⟨dx, fv, e1, e0, e2, e3⟩ := h2
      have ne2 : dx ≠ D := by
        rintro rfl
        exact nown a (Option.some.inj (h.symm.trans e0))
      exact ⟨dx, fv, by rw [upd_ne ne]; exact e1, by rw [upd_ne ne2]; exact e0, e2, e3⟩
  · refine ⟨st.ext.fz, fun a u' e n' e' => ?_, st.ext.ff, st.ext.mf, fun a u' e n' => ?_⟩
    · have ne : a ≠ D := fun z => f3 u' (z ▸ e) n'
      rw [upd_ne ne]; exact st.ext.kp a u' e n' e'
    · have ne : a ≠ D := fun z => f3 u' (z ▸ e) n'
      rw [upd_ne ne]; exact st.ext.st a u' e n'
/-- .. is frozen -/
theorem PSt.freeze {w : World} {K : PySem.W.Frag} {D : Addr} {u : HO} (st : PSt w K B F σ H ρ m) (f : Free B F H σ ρ m D) (h : H D = some u) (n : noTbl u) (nown : ∀ a, u ≠ .own a) : PSt w K B (L2.upd F D u) σ H ρ m := by
  obtain ⟨f1, f2, f3, _, f5⟩ := f
  have e : Same F (L2.upd F D u) := fun a u' e => by rw [upd_ne (ne_of_none e f1)]; exact e
  refine ⟨st.len, fun a u' e => ?_, fun a u' e => ?_, fun i p h' => ?_, fun i o' h' => ?_, st.apart, fun a c e' => ?_, ?_, st.tab⟩
  · by_cases z : a = D
    · subst z; rw [upd_same] at e; cases e; exact h
    · rw [upd_ne z] at e; exact st.sub a u' e
  · by_cases z : a = D
    · subst z; rw [upd_same] at e; cases e; exact n
    · rw [upd_ne z] at e; exact st.nt a u' e
  · obtain ⟨v, h1, h2⟩ := st.val i p h'
    exact ⟨v, h1, h2.mono e⟩
  · obtain ⟨a, h1, h2, h3, h4, h5⟩ := st.own i o' h'
    have ne : a ≠ D := fun z => f5 i o' h' (z ▸ h1)
    exact ⟨a, h1, by rw [upd_ne ne]; exact h2, h3, h4, h5.keep e fun u' hu _ => hu⟩
  · obtain ⟨h1, h2⟩ := st.mem a c e'
    have ne : a ≠ D := fun z => by subst z; rw [f2] at e'; cases e'
    refine ⟨by rw [upd_ne ne]; exact h1, h2.keep e (fun b u' hu _ => hu) fun b y hb ho => ?_⟩
    have ne2 : b ≠ D := by
      rintro rfl
      exact nown y (Option.some.inj (h.symm.trans ho))
    rw [upd_ne ne2]; exact hb
  · exact ⟨st.ext.fz.trans e, st.ext.kp, fun a u' e n' e' => by
      rw [upd_ne (show a ≠ D from fun z => f3 u' (z ▸ e) n')]; exact st.ext.ff a u' e n' e', st.ext.mf, st.ext.st⟩

theorem PSt.newH {w : World} {K : PySem.W.Frag} {D : Addr} {o : HO} (st : PSt w K B F σ H ρ m) (h : H D = none) : PSt w K B F σ (L2.upd H D o) ρ m := by
  refine st.step (fun a u e => by rw [upd_ne (ne_of_none (st.sub a u e) h)]; exact st.sub a u e) st.nt (Ext.newH st.sub h) (fun a c e => ?_) (st.tab.ext fun a u e => by rw [upd_ne (ne_of_none e h)]; exact e)
  obtain ⟨h1, h2⟩ := st.mem a c e
  exact ⟨h1, h2.keep (Same.refl F) (fun b u hu _ => by rw [upd_ne (ne_of_none hu h)]; exact hu) fun b y hb _ => hb⟩
theorem Ext.updN {F' H' : Hp} {m' : Mem} {D : Addr} {o : HO} (ex : Ext F H m F' H' m') (h : NoB H D) : Ext F H m F' (L2.upd H' D o) m' :=
  ⟨ex.fz, fun a u e n e' => by rw [upd_ne (show a ≠ D from fun z => h u (z ▸ e) n)]; exact ex.kp a u e n e', ex.ff, ex.mf, fun a u e n => by rw [upd_ne (show a ≠ D from fun z => h u (z ▸ e) n)]; exact ex.st a u e n⟩
theorem Ext.frzN {F' H' : Hp} {m' : Mem} {D : Addr} {o : HO} (ex : Ext F H m F' H' m') (h : NoB H D) (hF : F' D = none) : Ext F H m (L2.upd F' D o) H' m' :=
  ⟨ex.fz.trans fun a u e => by rw [upd_ne (ne_of_none e hF)]; exact e, ex.kp, fun a u e n e' => by rw [upd_ne (show a ≠ D from fun z => h u (z ▸ e) n)]; exact ex.ff a u e n e', ex.mf, ex.st⟩
theorem wipe_wipe (σ : L2.St) (vs : List Nat) : L2.wipe (L2.wipe σ vs) vs = L2.wipe σ vs := by
  have key : ∀ (ws vs : List Nat) (σ : L2.St), (∀ i ∈ ws, i ∈ vs) → L2.wipe (L2.wipe σ ws) vs = L2.wipe σ vs := by
    intro ws
    induction ws with
    | nil => intro vs σ _; rfl
    | cons i ws ih =>
      intro vs σ h
      show L2.wipe ((L2.wipe σ ws).set i none) vs = _
      rw [wipe_set (h i (by simp)), ih vs σ fun j hj => h j (by simp [hj])]
  exact key vs vs σ fun _ h => h
/-- nothing known of the frame is at a new address -/
theorem PSt.own_ne {w : World} {K : PySem.W.Frag} {D : Addr} (st : PSt w K B F σ H ρ m) (h : H D = none) : ∀ (i : Nat) (o : OO), ρ[i]? = some (some (.own o)) → σ[i]? ≠ some (some (.ref D)) := fun i o e z => by
  obtain ⟨a, h1, _, _, _, h5⟩ := st.own i o e
  rw [z] at h1
  cases h1
  obtain ⟨u, hu, _⟩ := RepO.at h5
  rw [h] at hu
  cases hu
theorem PSt.mem_none {w : World} {K : PySem.W.Frag} {D : Addr} (st : PSt w K B F σ H ρ m) (h : H D = none) : m D = none := by
  cases e : m D with
  | none => rfl
  | some c =>
    obtain ⟨_, h2⟩ := st.mem D c e
    cases c with
    | dice => obtain ⟨i, j, e1⟩ := h2; rw [h] at e1; cases e1
    | lst xs => obtain ⟨vs, e1, _⟩ := h2; rw [h] at e1; cases e1
    | ins C fs => obtain ⟨dx, fv, e1, _⟩ := h2; rw [h] at e1; cases e1
/-- a clause's tests -/
structure JTs (X : Cx) (B : Bs) (ifs : List Expr) (t : DT) : Prop where
  pts : ∀ (R : PX), L2N.Takes X (WR X B R) → PTs X ifs (tT X B R t)
theorem jts_nil : JTs X B [] wYes := ⟨fun R tk => ⟨fun pins s σ H Q I ⟨F, ρ, m, Qp, st, ht, k⟩ => wpAny_tests_nil ⟨H, I, k true F H m st (Ext.refl _ _ _) ht⟩⟩⟩
theorem jts_one {c : Expr} {t : DT} (h : JT X B c t) : JTs X B [c] t := ⟨fun R tk => pts_one (h.pt tk)⟩
theorem lst_nt {xs : List V} : noTbl (.lst xs) := fun ps z => nomatch z
theorem lst_nc {xs : List V} : ∀ c q, HO.lst xs ≠ LamX.CodeO c q := fun c q z => by unfold LamX.CodeO at z; cases z
theorem lst_no {xs : List V} : ∀ a, HO.lst xs ≠ .own a := fun a z => nomatch z
theorem lc_read {R : PX} {wi : TI} {vs : List Nat} {is : List Nat} {ti : DI} {g : DG} {tt : DT} {te : DE} {Q : KV'} {Qh : VK}
    (hk : ∀ F σ H ρ m Q (RR : It → Hp → Prop), PSt X.w X.K B F σ H ρ m → ti ρ m Q (R ρ) →
      (∀ J F1 H1 m1 ps, PSt X.w X.K B F1 σ H1 ρ m1 → Ext F H m F1 H1 m1 → Wk X B J F1 ps → ps.length ≤ sizeLine → Q ps m1 → RR J H1) → wi σ H RR)
    (his : ∀ i ∈ is, i ∈ vs) (st : PSt X.w X.K B F σ H ρ m) (h : wLc ti g tt te vs ρ m Q (R ρ))
    (k : ∀ v p F' H' m', PSt X.w X.K B F' σ H' ρ m' → Ext F H m F' H' m' → Rep X.K F' v p → Q p m' → Qh v H') : tLc wi (tG X B is g) (tT X B pBot tt) (tE X B pBot te) vs σ H Qh := by
  refine hk F σ H ρ m _ _ st h fun J F1 H1 m1 ps st1 ex1 wk hlen hw => ?_
  intro D hD
  have hF1 : F1 D = none := st1.sub.free hD
  have hBD : NoB B.H D := st1.ext.free hD
  have hm1 : m1 D = none := st1.mem_none hD
  have hHD : NoB H D := ex1.free hD
  have stw := st1.wipe vs
  have own0 := st1.own_ne hD
  have ownw := stw.own_ne hD
  refine ⟨fun i n Hc => n = ps.length - i ∧ i ≤ ps.length ∧ ∃ F2 m2 acc pacc, Hc D = some (.lst acc) ∧ acc.length ≤ i ∧ PSt X.w X.K B F2 (wipe σ vs) Hc (wipeP ρ vs) m2 ∧ Ext F1 H1 m1 F2 Hc m2 ∧ F2 D = none ∧ m2 D = none ∧ RepAll X.K F2 acc pacc ∧
    compW g tt te (wipeP ρ vs) (ps.drop i) pacc m2 (fun acc m2 => Q (.lst acc) m2), ⟨ps.length, by simp, Nat.zero_le _, F1, m1, [], [], upd_same, Nat.le_refl _, stw.newH hD, Ext.newH st1.sub hD, hF1, hm1, .nil, hw⟩, ?_⟩
  rintro i n Hc ⟨rfl, hi, F2, m2, acc, pacc, hDc, hal, st2, ex2, hF2, hm2, rpa, hcomp⟩
  by_cases hlt : i < ps.length
  · refine .inr ⟨wk.go i F2 Hc ex2.fz st2.sub hlt, fun Hc => i + 1 ≤ ps.length ∧ ∃ F2 m2 acc pacc, Hc D = some (.lst acc) ∧ acc.length ≤ i + 1 ∧ PSt X.w X.K B F2 (wipe σ vs) Hc (wipeP ρ vs) m2 ∧ Ext F1 H1 m1 F2 Hc m2 ∧ F2 D = none ∧ m2 D = none ∧ RepAll X.K F2 acc pacc ∧
      compW g tt te (wipeP ρ vs) (ps.drop (i + 1)) pacc m2 (fun acc m2 => Q (.lst acc) m2), fun H' q => ⟨ps.length - (i + 1), by omega, rfl, q⟩, fun x H' hy => ?_⟩
    obtain ⟨F3, p, st3, ex3, hp, rp⟩ := wk.yld i F2 Hc x H' _ _ m2 ex2.fz st2 hy hlt
    have hD3 := ex3.kp D _ hDc lst_nt hm2
    have hF3 := ex3.ff D _ hDc lst_nt hF2
    rw [drop_get hp] at hcomp
    refine ⟨F3, wipeP ρ vs, m2, p, _, st3, rp, hcomp, fun σ4 ρ4 st4 wip h4 => ⟨(wip vs his).trans (wipe_wipe σ vs), ?_⟩⟩
    refine ⟨F3, ρ4, m2, _, st4, h4, fun b F5 H5 m5 st5 ex5 q5 => ?_⟩
    have hD5 := ex5.kp D _ hD3 lst_nt hm2
    have hF5 := ex5.ff D _ hD3 lst_nt hF3
    have hm5 := ex5.mf D _ hD3 lst_nt hm2
    have st5w := st3.step st5.sub st5.nt ex5 st5.mem st5.tab
    cases b with
    | false => exact ⟨hlt, F5, m5, acc, pacc, hD5, Nat.le_succ_of_le hal, st5w, (ex2.trans ex3).trans ex5, hF5, hm5, rpa.mono (ex3.fz.trans ex5.fz), q5⟩
    | true =>
      refine ⟨F5, ρ4, m5, _, st5, q5, fun v y F6 H6 m6 st6 ex6 rp6 q6 => ?_⟩
      have hD6 := ex6.kp D _ hD5 lst_nt hm5
      have hF6 := ex6.ff D _ hD5 lst_nt hF5
      have hm6 := ex6.mf D _ hD5 lst_nt hm5
      have st6w := st5w.step st6.sub st6.nt ex6 st6.mem st6.tab
      refine ⟨acc, hD6, Nat.lt_of_lt_of_le (Nat.lt_of_le_of_lt hal hlt) hlen, hlt, F6, m6, acc ++ [v], pacc ++ [y], upd_same, by simp; omega, ?_, (((ex2.trans ex3).trans ex5).trans ex6).updN (fun u e => absurd e (by rw [hD]; exact fun z => nomatch z)), hF6, hm6, (rpa.mono ((ex3.fz.trans ex5.fz).trans ex6.fz)).append (.cons rp6 .nil), q6⟩
      exact st6w.upd ⟨hF6, hm6, hBD, ⟨_, hD6, lst_nt⟩, ownw⟩ hD6 lst_nc lst_nt lst_no
  · have ei : i = ps.length := by omega
    subst ei
    rw [List.drop_length] at hcomp
    refine .inl ⟨wk.stop _ F2 Hc ex2.fz st2.sub (Nat.le_refl _), k (.ref D) (.lst pacc) (L2.upd F2 D (.lst acc)) Hc m2 ?_ ((ex1.trans ex2).frzN hHD hF2) (.lst upd_same (rpa.mono fun a u e => by rw [upd_ne (ne_of_none e hF2)]; exact e)) hcomp⟩
    exact (st1.step st2.sub st2.nt ex2 st2.mem st2.tab).freeze ⟨hF2, hm2, hBD, ⟨_, hDc, lst_nt⟩, own0⟩ hDc lst_nt lst_no
theorem je_lc {elt tg iter : Expr} {ifs : List Expr} {scope : Scope} {own : List (Str × Nat)} {pos : Pos} {is : List Nat} {ti : DI} {g : DG} {tt : DT} {te : DE} (hc : X.calm = true) (hN : X.N.Nodup) (hi : JI X B tg iter ti) (ok : BlkOk X.N X.env.scope scope own)
    (hg : ∀ (s : Shared) (H : Hp) (C : Addr) (cl : List (Str × Addr)) (fp : List Addr), JG (X.blk s H scope (compEnvC scope cl C X.env) fp) B tg is g) (ht : ∀ (s : Shared) (H : Hp) (C : Addr) (cl : List (Str × Addr)) (fp : List Addr), JTs (X.blk s H scope (compEnvC scope cl C X.env) fp) B ifs tt)
    (he : ∀ (s : Shared) (H : Hp) (C : Addr) (cl : List (Str × Addr)) (fp : List Addr), JE (X.blk s H scope (compEnvC scope cl C X.env) fp) B elt te) (his : ∀ i ∈ is, i ∈ own.map (·.2) := by decide) (hs : ∀ x, foldedSetIterable iter X.env x = pure x := by intro _; rfl) :
    JE X B (.ListComp elt [⟨tg, iter, ifs, 0⟩] scope pos) (wLc ti g tt te (own.map (·.2))) := by
  refine ⟨fun R tk pins s σ F H ρ m Q I st h => ?_⟩
  obtain ⟨wi, hpi, hk⟩ := hi.pi R tk
  have pl := pe_lc (pos := pos) (g := tG X B is g) (tt := tT X B pBot tt) (te := tE X B pBot te) hc hN hpi ok (fun s H C cl fp => (hg s H C cl fp).pg) (fun s H C cl fp => (ht s H C cl fp).pts pBot takes_bot) (fun s H C cl fp => (he s H C cl fp).pe takes_bot) hs
  refine thn (pl.run pins s σ H (fun v H' => ∃ p F' m', PSt X.w X.K B F' σ H' ρ m' ∧ Ext F H m F' H' m' ∧ Rep X.K F' v p ∧ Q p m') I ?_) fun u s' ⟨v, H', I', r, p, F', m', st', ex, rp, q⟩ => ⟨v, p, F', H', m', I', st', ex, r, rp, q⟩
  exact lc_read (R := R) (Q := Q) hk his st h fun v p F' H' m' st' ex rp q => ⟨p, F', m', st', ex, rp, q⟩
/-- name = [..] on one line, the name a local -/
theorem js_setLc {y : Str} {py : Pos} {elt tg iter : Expr} {ifs : List Expr} {scope : Scope} {own : List (Str × Nat)} {pos spos : Pos} {is : List Nat} {ti : DI} {g : DG} {tt : DT} {te : DE} (i : Nat) (hc : X.calm = true) (hN : X.N.Nodup) (hi : JI X B tg iter ti) (ok : BlkOk X.N X.env.scope scope own)
    (hg : ∀ (s : Shared) (H : Hp) (C : Addr) (cl : List (Str × Addr)) (fp : List Addr), JG (X.blk s H scope (compEnvC scope cl C X.env) fp) B tg is g) (ht : ∀ (s : Shared) (H : Hp) (C : Addr) (cl : List (Str × Addr)) (fp : List Addr), JTs (X.blk s H scope (compEnvC scope cl C X.env) fp) B ifs tt)
    (he : ∀ (s : Shared) (H : Hp) (C : Addr) (cl : List (Str × Addr)) (fp : List Addr), JE (X.blk s H scope (compEnvC scope cl C X.env) fp) B elt te) (his : ∀ i ∈ is, i ∈ own.map (·.2) := by decide) (hy : X.N[i]? = some y := by rfl) (hyl : X.env.scope.names.lookup y = some .local := by rfl)
    (hsw : swapsWith (.ListComp elt [⟨tg, iter, ifs, 0⟩] scope pos) (some (.Name y py)) spos.line X.env = pure true := by exact sw_true rfl rfl rfl (by decide +kernel)) (hs : ∀ x, foldedSetIterable iter X.env x = pure x := by intro _; rfl) :
    JS X B (.Assign [.Name y py] (.ListComp elt [⟨tg, iter, ifs, 0⟩] scope pos) spos) (wSet i (wLc ti g tt te (own.map (·.2)))) := by
  refine ⟨fun D tk pins s σ F H ρ m I st h => ?_⟩
  obtain ⟨wi, hpi, hk⟩ := hi.pi D.ex tk
  have pl := ps_setLc (pos := pos) (g := tG X B is g) (tt := tT X B pBot tt) (te := tE X B pBot te) hc hN hy hyl hsw hpi ok (fun s H C cl fp => (hg s H C cl fp).pg) (fun s H C cl fp => (ht s H C cl fp).pts pBot takes_bot) (fun s H C cl fp => (he s H C cl fp).pe takes_bot) hs
  refine thn (pl.run pins s σ H { nx := fun σ' H' => ∃ F' ρ' m', PSt X.w X.K B F' σ' H' ρ' m' ∧ Same F F' ∧ D.nx ρ' m', rt := fun _ _ => False } I ?_) fun fl s1 q => ?_
  · exact lc_read (R := D.ex) (Q := fun p m1 => D.nx (PL.put ρ i (some (.val p))) m1) hk his st h fun v p F' H' m' st' ex rp q => ⟨F', _, m', st'.put (slot_lt (w := X.w) (K := X.K) I hy) rp, ex.fz, q⟩
  · cases fl with
    | next => obtain ⟨σ', H', I', F', ρ', m', st', e, q⟩ := q; exact ⟨σ', F', H', ρ', m', I', st', e, q⟩
    | ret u => obtain ⟨_, _, _, _, _, q⟩ := q; exact q.elim
    | brk => obtain ⟨_, _, _, q⟩ := q; exact q.elim
    | cont => obtain ⟨_, _, _, q⟩ := q; exact q.elim
end
end PL


namespace PL
open PySem PySem.Spec PyProof.Rows L2

/-! ### a def by its body -/
@[simp] def startP (N : List Str) (ps : List PV) : PEnv := ps.map (fun p => some (.val p)) ++ List.replicate (N.length - ps.length) none
section
variable {P : Program} {w : World} {K : PySem.W.Frag} {mg : Str → Option Value} {base : Heap} {T : List (Addr × Str)}
theorem pst_start {N : List Str} {vs : List V} {ps : List PV} {F H : Hp} {m : Mem} (hs : Same F H) (nt : ∀ a o, F a = some o → noTbl o) (hm : ∀ a c, m a = some c → F a = none ∧ RepC K F H a c) (ht : LamX.Tabs T H) (rp : RepAll K F vs ps) :
    PSt w K ⟨P, F, H, m, T⟩ F (L2.start N vs) H (startP N ps) m := by
  have hl := rp.length
  have key : ∀ {i : Nat} {v : SV}, (startP N ps)[i]? = some (some v) → ∃ p, v = .val p ∧ ps[i]? = some p := fun {i v} h => by
    unfold startP at h
    by_cases hi : i < ps.length
    · rw [List.getElem?_append_left (by simpa using hi), List.getElem?_map] at h
      cases e : ps[i]? with
      | none => rw [e] at h; cases h
      | some p => rw [e] at h; simp at h; exact ⟨p, h.symm, rfl⟩
    · rw [List.getElem?_append_right (by simpa using hi), List.getElem?_replicate] at h
      split at h <;> cases h
  refine ⟨by simp [startP, L2.start, hl], hs, nt, fun i p h => ?_, fun i o h => ?_, fun i j o o' a hij h => ?_, hm, Ext.refl _ _ _, ht⟩
  · obtain ⟨q, e, hq⟩ := key h
    cases e
    obtain ⟨v, hv, r⟩ := rp.get hq
    refine ⟨v, ?_, r⟩
    unfold L2.start
    have hi := (List.getElem?_eq_some_iff.mp hv).1
    rw [List.getElem?_append_left (by simpa using hi), List.getElem?_map, hv]
    rfl
  · obtain ⟨q, e, _⟩ := key h
    cases e
  · obtain ⟨q, e, _⟩ := key h
    cases e
/-- THE RULE for a def, its code object told -/
theorem fn_okC {x qual : Str} {st : Stmt} {f : Addr} {fd : FuncData} {N ps : List Str} {k : Nat} {S : SpP} (F : Fun K x qual st f fd) (Sc : FnScope N ps (defScope st))
    (hbody : ∀ (cdv : Value) (A : Around) (outer : List Env) (s : Shared) (H H0 F0 : Hp) (m0 : Mem) (E : XK), fd.code = cdv → Room k (A.deeper (envOfC qual (defScope st) s.heap.objs.size f cdv)) →
      ∃ t, JB (cxOf (L2N.CX P w) P w K mg base N qual (defScope st) f cdv A outer s H E) ⟨P, F0, H0, m0, T⟩ (defBody st) t ∧ ∀ qs m Q R, S qs m Q R → qs.length = ps.length → t (startP N qs) m { nx := fun _ m' => Q .non m', rt := Q, ex := fun _ => R }) :
    FnOk P w K mg base (L2N.CX P w) (k + 1) f fd ps (spOf w K T ps.length S) := by
  obtain ⟨oc, od, kV, doc, pm, an, cdv, ct, osl, rfl, lk, hcd⟩ := F.ex
  refine fn_of lk hcd Sc (fun vs H Q E h => ?_) (fun A outer s H vs Q E hr h => ?_)
  · obtain ⟨_, _, _, _, _, h, _⟩ := h
    exact h
  · obtain ⟨F0, m, qs, Qp, Rp, hl, hs, nt, hm, ht, rp, hS, hQ, hR⟩ := h
    obtain ⟨t, hj, hk⟩ := hbody cdv A outer s H H F0 m E rfl hr
    have hw := hk qs m Qp Rp hS (by rw [← rp.length]; exact hl)
    have tk : L2N.Takes (cxOf (L2N.CX P w) P w K mg base N qual (defScope st) f cdv A outer s H E) (WR (cxOf (L2N.CX P w) P w K mg base N qual (defScope st) f cdv A outer s H E) ⟨P, F0, H, m, T⟩ (fun _ => Rp)) :=
      (L2N.takes_of (E := E) rfl rfl rfl rfl).imp fun c d σ H' ⟨F', ρ', m', C, e1, e2, st', q⟩ => by
        subst e1 e2
        exact hR C F' H' m' st'.sub st'.nt st'.mem st'.tab st'.ext q
    refine ⟨_, hj.pss tk, F0, startP N qs, m, _, rfl, pst_start hs nt hm ht rp, hw, fun σ' F' H' ρ' m' st' _ q => ?_, fun v p F' H' m' g r q => ?_, fun _ _ _ _ _ _ _ q => q.elim, fun _ _ _ _ _ _ _ q => q.elim⟩
    · exact hQ .non .non F' H' m' st'.sub st'.nt st'.mem st'.tab st'.ext .non q
    · exact hQ v p F' H' m' g.sub g.nt g.mem g.tab g.ext r q
/-- THE RULE for a def -/
theorem fn_ok {x qual : Str} {st : Stmt} {f : Addr} {fd : FuncData} {N ps : List Str} {k : Nat} {S : SpP} (F : Fun K x qual st f fd) (Sc : FnScope N ps (defScope st))
    (hbody : ∀ (cdv : Value) (A : Around) (outer : List Env) (s : Shared) (H H0 F0 : Hp) (m0 : Mem) (E : XK), Room k (A.deeper (envOfC qual (defScope st) s.heap.objs.size f cdv)) →
      ∃ t, JB (cxOf (L2N.CX P w) P w K mg base N qual (defScope st) f cdv A outer s H E) ⟨P, F0, H0, m0, T⟩ (defBody st) t ∧ ∀ qs m Q R, S qs m Q R → qs.length = ps.length → t (startP N qs) m { nx := fun _ m' => Q .non m', rt := Q, ex := fun _ => R }) :
    FnOk P w K mg base (L2N.CX P w) (k + 1) f fd ps (spOf w K T ps.length S) := fn_okC F Sc fun cdv A outer s H H0 F0 m0 E _ hr => hbody cdv A outer s H H0 F0 m0 E hr
theorem passes_own {X : Cx} {Kf : Value → Shared → Prop} {E₁ : Value → Shared → Prop} (hx : X.xe = fun e s' => wpAny (model X.prog X.w) X.A (leaving X.env e) (fun _ s'' => Kf e s'') E₁ s' := by rfl) : PassesOwn (model X.prog X.w) X.A X.env X.xe := passes_of hx
theorem CalM.mono {k j : Nat} {x : Str} {n : Nat} {S : SpP} (c : CalM P w K mg base T k x n S) (h : k ≤ j) : CalM P w K mg base T j x n S := by
  obtain ⟨f, fd, ps, Fn, r⟩ := c.ex
  exact ⟨f, fd, ps, Fn.mono h, r⟩
theorem CalM.imp {k : Nat} {x : Str} {n : Nat} {S S' : SpP} (c : CalM P w K mg base T k x n S) (h : ∀ ps m Q R, S' ps m Q R → S ps m Q R) : CalM P w K mg base T k x n S' := by
  obtain ⟨f, fd, ps, Fn, r⟩ := c.ex
  refine ⟨f, fd, ps, Fn.imp fun vs H Q E q => ?_, r⟩
  obtain ⟨F0, m, qs, Qp, Rp, h1, h2, h3, h4, h5, h6, hS, hQ⟩ := q
  exact ⟨F0, m, qs, Qp, Rp, h1, h2, h3, h4, h5, h6, h _ _ _ _ hS, hQ⟩
end

/-! ### raise -/
section
variable {X : Cx} {B : Bs} {pos pos' : Pos}
/-- the class X of the program's own, over ValueError, as raise wants it -/
structure ExcP (K : PySem.W.Frag) (mg : Str → Option Value) (x : Str) (C : Addr) : Prop where
  gl : mg x = some (.ref C)
  ex : PySem.W.excIn K C [.type "ValueError", .type "Exception", .type "BaseException", .type "object"] "ValueError.__new__" = true
  kp : PySem.W.keepIn K (.ref C) = true
  sb : PySem.W.subIn K (.ref C) (.type "BaseException") = some true
  ty : PySem.W.typeIn K (.ref C) = some (.type "type")
@[simp] def wRaise (C : Addr) : DS := fun ρ m D => D.ex ρ C m
theorem js_raise {x msg : Str} {j : Nat} {p p2 : Pos} {C : Addr} (E : ExcP X.K X.mg x C) (hc : X.calm = true) (hg : Gl X x := by rfl) (hdb : (x == ("__debug__" : Str)) = false := by decide) :
    JS X B (.Raise (some (.Call (.Name x p) [.Constant (.str msg) j p2] [] pos)) none pos') (wRaise C) := by
  refine ⟨fun D tk pins s σ F H ρ m I st h => ?_⟩
  have pr := L2N.ps_raise (pos := pos') hc tk (L2N.pmk_own (m := msg) (j := j) (p := p) (p2 := p2) (pos := pos) PySem.F.excBase_ValueError E.ex E.gl E.kp (raises_own E.sb E.ty) hg hdb)
  refine thn (pr.run pins s σ H { nx := fun _ _ => False, rt := fun _ _ => False } I ⟨F, ρ, m, C, rfl, rfl, st, h⟩) fun fl s1 q => ?_
  cases fl with
  | next => obtain ⟨_, _, _, q⟩ := q; exact q.elim
  | ret u => obtain ⟨_, _, _, _, _, q⟩ := q; exact q.elim
  | brk => obtain ⟨_, _, _, q⟩ := q; exact q.elim
  | cont => obtain ⟨_, _, _, q⟩ := q; exact q.elim
end
end PL


namespace PL
open PySem PySem.Spec PyProof.Rows L2

/-! ### what a name holds alone -/
section
variable {X : Cx} {B : Bs} {pins : List (Addr × Obj)} {F H : Hp} {σ : L2.St} {ρ : PEnv} {m : Mem}
theorem PSt.putOwn {w : World} {K : PySem.W.Frag} {i : Nat} {D : Addr} {o : OO} (st : PSt w K B F σ H ρ m) (hi : i < σ.length) (f : Free B F H σ ρ m D) (r : RepO B.P w K F H D o) : PSt w K B F (σ.set i (some (.ref D))) H (PL.put ρ i (some (.own o))) m := by
  rw [put_set]
  obtain ⟨f1, f2, f3, _, f5⟩ := f
  have hiρ : i < ρ.length := by rw [st.len]; exact hi
  refine ⟨by rw [List.length_set, List.length_set]; exact st.len, st.sub, st.nt, fun j q h => ?_, fun j o h => ?_, fun j k o o' a hjk h1 h2 h3 => ?_, st.mem, st.ext, st.tab⟩
  · have hj : i ≠ j := by
      rintro rfl
      rw [List.getElem?_set_self hiρ] at h
      cases h
    rw [List.getElem?_set_ne hj]
    exact st.val j q (set_ne' hj h)
  · by_cases hj : i = j
    · subst hj
      rw [List.getElem?_set_self hiρ] at h
      cases h
      exact ⟨D, by rw [List.getElem?_set_self hi], f1, f2, f3, r⟩
    · rw [List.getElem?_set_ne hj]
      exact st.own j o (set_ne' hj h)
  · by_cases hj : i = j
    · subst hj
      have hk : i ≠ k := hjk
      rw [List.getElem?_set_self hi] at h3
      cases h3
      rw [List.getElem?_set_ne hk]
      exact f5 k o' (set_ne' hk h2)
    · rw [List.getElem?_set_ne hj] at h3
      by_cases hk : i = k
      · subst hk
        rw [List.getElem?_set_self hi]
        intro z
        cases z
        exact f5 j o (set_ne' hj h1) h3
      · rw [List.getElem?_set_ne hk]
        exact st.apart j k o o' a hjk (set_ne' hj h1) (set_ne' hk h2) h3
/-- the object that a name holds alone is changed -/
theorem PSt.setOwn {w : World} {K : PySem.W.Frag} {i : Nat} {D : Addr} {o o' : OO} {u : HO} (st : PSt w K B F σ H ρ m) (ho : ρ[i]? = some (some (.own o))) (hσ : σ[i]? = some (some (.ref D))) (nc : ∀ c q, H c = some (LamX.CodeO c q) → c ≠ D)
    (r : RepO B.P w K F (L2.upd H D u) D o') : PSt w K B F σ (L2.upd H D u) (PL.put ρ i (some (.own o'))) m := by
  rw [put_set]
  have hiρ : i < ρ.length := (List.getElem?_eq_some_iff.mp ho).1
  obtain ⟨a, h1, h2, h3, h4, h5⟩ := st.own i o ho
  rw [hσ] at h1
  cases h1
  obtain ⟨v, hv, vnt, vno⟩ := h5.at
  have neF : ∀ a u', F a = some u' → a ≠ D := fun a u' e z => by subst z; rw [h2] at e; cases e
  have stay : ∀ {a : Addr}, a ≠ D → ∀ u', H a = some u' → L2.upd H D u a = some u' := fun ne u' hu => by rw [upd_ne ne]; exact hu
  refine ⟨by rw [List.length_set]; exact st.len, fun a u' e => stay (neF a u' e) u' (st.sub a u' e), st.nt, fun j q h => ?_, fun j o2 h => ?_, fun j k o2 o3 a hjk g1 g2 g3 => ?_, fun a c e => ?_, ?_, ?_⟩
  · have hj : i ≠ j := by
      rintro rfl
      rw [List.getElem?_set_self hiρ] at h
      cases h
    exact st.val j q (set_ne' hj h)
  · by_cases hj : i = j
    · subst hj
      rw [List.getElem?_set_self hiρ] at h
      cases h
      exact ⟨D, hσ, h2, h3, h4, r⟩
    · have e := set_ne' hj h
      obtain ⟨b, b1, b2, b3, b4, b5⟩ := st.own j o2 e
      have ne : b ≠ D := by
        rintro rfl
        exact st.apart i j o o2 b hj ho e hσ b1
      exact ⟨b, b1, b2, b3, b4, b5.keep (Same.refl F) fun u' hu _ => stay ne u' hu⟩
  · have e1 : ∃ o2', ρ[j]? = some (some (.own o2')) := by
      by_cases hj : i = j
      · subst hj; exact ⟨o, ho⟩
      · exact ⟨o2, set_ne' hj g1⟩
    have e2 : ∃ o3', ρ[k]? = some (some (.own o3')) := by
      by_cases hk : i = k
      · subst hk; exact ⟨o, ho⟩
      · exact ⟨o3, set_ne' hk g2⟩
    obtain ⟨_, e1⟩ := e1
    obtain ⟨_, e2⟩ := e2
    exact st.apart j k _ _ a hjk e1 e2 g3
  · obtain ⟨g1, g2⟩ := st.mem a c e
    have ne : a ≠ D := fun z => by subst z; rw [h3] at e; cases e
    refine ⟨g1, ?_⟩
    cases c with
    | dice => obtain ⟨i, j, e1⟩ := g2; exact ⟨i, j, stay ne _ e1⟩
    | lst xs => obtain ⟨vs, e1, r⟩ := g2; exact ⟨vs, stay ne _ e1, r⟩
    | ins C fs =>
      obtain ⟨dx, fv, e1, e0, e2, e3⟩ := g2
      have ne2 : dx ≠ D := by
        rintro rfl
        exact vno a (Option.some.inj (hv.symm.trans e0))
      exact ⟨dx, fv, stay ne _ e1, stay ne2 _ e0, e2, e3⟩
  · refine ⟨st.ext.fz, fun a u' e n' e' => ?_, st.ext.ff, st.ext.mf, fun a u' e n' => ?_⟩
    · have ne : a ≠ D := fun z => h4 u' (z ▸ e) n'
      exact stay ne _ (st.ext.kp a u' e n' e')
    · obtain ⟨u2, e2, n2⟩ := st.ext.st a u' e n'
      have ne : a ≠ D := fun z => h4 u' (z ▸ e) n'
      exact ⟨u2, stay ne _ e2, n2⟩
  · intro p hp
    obtain ⟨ps, q1, q2, q3⟩ := st.tab p hp
    have ne : p.1 ≠ D := fun z => vnt ps (Option.some.inj (hv.symm.trans (z ▸ q1)))
    refine ⟨ps, stay ne _ q1, q2, fun pos cv hc => ?_⟩
    obtain ⟨c, e1, e2⟩ := q3 pos cv hc
    exact ⟨c, e1, stay (nc c _ e2) _ e2⟩
/-- an object of data is no code object -/
theorem nc_of {s : Shared} (I : Inv X pins σ H s) {D : Addr} (h : ∃ o, s.heap.get? D = some o ∧ ∀ vs, o.data ≠ .fields vs) : ∀ c q, H c = some (LamX.CodeO c q) → c ≠ D := fun c q e z => by
  subst z
  obtain ⟨⟨oc, vs, t, h1, h2, h3⟩, _⟩ := I.hok c _ e
  obtain ⟨o, h4, h5⟩ := h
  rw [h1] at h4
  cases h4
  exact h5 vs h2

/-! ### lists of one's own -/
/-- a new list, held by nobody yet -/
structure JN (X : Cx) (B : Bs) (e : Expr) (t : DA) : Prop where
  run : ∀ (R : PX), L2N.Takes X (WR X B R) → ∀ (pins : List (Addr × Obj)) (s : Shared) (σ : L2.St) (F H : Hp) (ρ : PEnv) (m : Mem) (Q : List PV → Mem → Prop), Inv X pins σ H s → PSt X.w X.K B F σ H ρ m → t ρ m Q (R ρ) →
    wpAny (model X.prog X.w) X.A (eval e X.env) (fun u s' => ∃ D vs ps F' H' m', u = .ref D ∧ Inv X pins σ H' s' ∧ PSt X.w X.K B F' σ H' ρ m' ∧ Ext F H m F' H' m' ∧ Free B F' H' σ ρ m' D ∧ H' D = some (.lst vs) ∧ RepAll X.K F' vs ps ∧ Q ps m') X.xe s
variable {e : Expr} {te : DE} {pos : Pos}
@[simp] def wLst' (t : DA) : DA := fun ρ m Q R => t ρ m (fun ps m1 => ps.length ≤ 1000 ∧ Q ps m1) R
theorem jn_lst {es : List Expr} {t : DA} (h : JA X B es t) : JN X B (.List es pos) (wLst' t) := by
  refine ⟨fun R tk pins s σ F H ρ m Q I st hq => ?_⟩
  refine wpAny_List_spliced (thn (h.run R tk pos pins s σ F H ρ m _ I st hq) fun us s1 ⟨xs, ps, F1, H1, m1, I1, st1, ex1, r, rp, _, hz, q⟩ => ⟨by rw [← r.length, rp.length]; exact line1000 hz, ?_⟩)
  have hf : H1 s1.heap.objs.size = none := I1.hok.fresh (Nat.le_refl _)
  refine ⟨s1.heap.objs.size, xs, ps, F1, _, m1, rfl, I1.laid (t' := s1.toks) (o := .lst xs) (fun b u e => Heap.get?_push_of_some _ e) (Nat.le_refl _) ?_, st1.newH hf, ex1.trans (Ext.newH st1.sub hf), ⟨st1.sub.free hf, st1.mem_none hf, st1.ext.free hf, ⟨_, upd_same, lst_nt⟩, st1.own_ne hf⟩, upd_same, rp, q⟩
  exact ⟨by rw [rp.length]; exact line1000 hz, us, 0, r, Heap.get?_push_size _ rfl⟩
@[simp] def wOwnL (i : Nat) (t : DA) : DS := fun ρ m D => t ρ m (fun ps m1 => D.nx (put ρ i (some (.own (.lst ps)))) m1) (D.ex ρ)
theorem js_ownL {x : Str} {pos' : Pos} {t : DA} (i : Nat) (hN : X.N.Nodup) (he : JN X B e t) (hi : X.N[i]? = some x := by rfl) (hx : Loc X.env.scope x := by first | exact Or.inl rfl | exact Or.inr rfl) (hs : swapsWith e (some (.Name x pos')) pos.line X.env = pure false := by rfl) (hf : X.fn x = true ∨ X.env.scope.names.lookup x = some .local := by first | exact .inl rfl | exact .inr rfl | assumption) :
    JS X B (.Assign [.Name x pos'] e pos) (wOwnL i t) := by
  refine ⟨fun D tk pins s σ F H ρ m I st h => ?_⟩
  refine wpAny_Assign_Name (thn (he.run D.ex tk pins s σ F H ρ m _ I st h) fun v s1 ⟨a, vs, ps, F1, H1, m1, ev, I1, st1, ex1, fr, hD, rp, q1⟩ => ?_) hs
  subst ev
  exact store_ok (v := .ref a) I1 hN hi hx rfl (fun s2 I2 => ⟨_, F1, H1, _, m1, I2, st1.putOwn (o := .lst ps) (slot_lt (w := X.w) (K := X.K) I1 hi) fr ⟨vs, hD, rp⟩, ex1.fz, q1⟩) hf
/-- x.append(e) -/
@[simp] def wApp (i : Nat) (te : DE) : DS := fun ρ m D => match at' ρ i with
  | some (.own (.lst xs)) => te ρ m (fun p m1 => xs.length ≤ 1000000 ∧ D.nx (put ρ i (some (.own (.lst (xs ++ [p]))))) m1) (D.ex ρ)
  | _ => False
theorem js_app {x : Str} {px apos cpos : Pos} (i : Nat) (he : JE X B e te) (hi : X.N[i]? = some x := by rfl) (hv : Vis X.env.scope x := by first | exact Or.inl rfl | exact Or.inr (Or.inl rfl) | exact Or.inr (Or.inr rfl))
    (hd : (x == ("__debug__" : Str)) = false := by decide) (hcd : (x == ("__classdict__" : Str)) = false := by decide)
    (hbase : attributeBase (.Name x px) "append" X.env (eval (.Name x px) X.env) = eval (.Name x px) X.env := by rfl)
    (hfew : ((backTo cpos (starEach [e] X.env)).all (fun x => !x.1) && (backToKw cpos (keywordEach [] X.env)).all (fun x => x.1.isSome)
      && decide (([e] : List Expr).length + ([] : List Keyword).length + (if ([] : List Keyword).isEmpty then 0 else 1) < 30)) = true := by rfl)
    (hline : (apos.endLine == cpos.line) = true := by rfl) (hst : starEach [e] X.env = (false, eval e X.env) :: starEach [] X.env := by rfl) (hplain : (backTo cpos (starEach [] X.env)).any (·.1) = false := by rfl)
    (hs : swapsWith (.Call (.Attribute (.Name x px) "append" apos) [e] [] cpos) none pos.line X.env = pure false := by rfl) :
    JS X B (.Expr (.Call (.Attribute (.Name x px) "append" apos) [e] [] cpos) pos) (wApp i te) := by
  refine ⟨fun D tk pins s σ F H ρ m I st h => ?_⟩
  -- the list stands, whatever the argument does
  have pe := pe_bm PySem.F.plainAttrs_list PySem.F.slot_list_append PySem.F.type_list_append mt_append (pe_var (pos := px) (i := i) hi hv hd hcd) (pa_cons (he.pe tk) pa_nil hst) hbase hfew hline hst hplain
  have ps := ps_expr (pos := pos) pe hs
  unfold wApp at h
  split at h
  · rename_i xs ho
    have ho' := at_get ho
    obtain ⟨a, h1, h2, h3, h4, vs, hH, rp⟩ := st.own i _ ho'
    refine thn (ps.run pins s σ H { nx := fun σ' H' => ∃ F' ρ' m', PSt X.w X.K B F' σ' H' ρ' m' ∧ Same F F' ∧ D.nx ρ' m', rt := fun _ _ => False } I ⟨.ref a, h1, .inl ⟨rfl, vs, SqL.of hH⟩, F, ρ, m, _, st, h, fun v p F' H' m' st' ex rp' q => ?_⟩) fun fl s1 q => ?_
    · obtain ⟨hz, q⟩ := q
      obtain ⟨a', g1, g2, g3, g4, vs', gH, grp⟩ := st'.own i _ ho'
      rw [h1] at g1
      cases g1
      refine ⟨a, vs', v, rfl, rfl, gH, by rw [grp.length]; exact Nat.lt_of_le_of_lt hz (by decide), F', _, m', ?_, ex.fz, q⟩
      exact st'.setOwn ho' h1 (fun c q e z => by subst z; rw [gH] at e; unfold LamX.CodeO at e; cases e) ⟨vs' ++ [v], upd_same, grp.append (.cons rp' .nil)⟩
    · cases fl with
      | next => obtain ⟨σ', H', I', F', ρ', m', st', e, q⟩ := q; exact ⟨σ', F', H', ρ', m', I', st', e, q⟩
      | ret u => obtain ⟨_, _, _, _, _, q⟩ := q; exact q.elim
      | brk => obtain ⟨_, _, _, q⟩ := q; exact q.elim
      | cont => obtain ⟨_, _, _, q⟩ := q; exact q.elim
  · exact h.elim
/-- the list that a name holds alone, as a value: it's told so from now on -/
@[simp] def wFrz (i : Nat) (u : DS) : DS := fun ρ m D => match at' ρ i with
  | some (.own (.lst xs)) => u (put ρ i (some (.val (.lst xs)))) m D
  | _ => False
theorem jb_frz {sts : List Stmt} {u : DS} (i : Nat) (h2 : JB X B sts u) : JB X B sts (wFrz i u) := by
  refine jb_ghost h2 fun D pins s σ F H ρ m I st h => ?_
  unfold wFrz at h
  split at h
  · rename_i xs ho
    have ho' := at_get ho
    obtain ⟨a, h1, h2, h3, h4, vs, hH, rp⟩ := st.own i _ ho'
    have hi := (List.getElem?_eq_some_iff.mp h1).1
    have st2 := (st.clear i).freeze (D := a) ⟨h2, h3, h4, ⟨_, hH, lst_nt⟩, fun j o e z => ?_⟩ hH lst_nt lst_no
    · have e : Same F (L2.upd F a (.lst vs)) := fun b u e => by rw [upd_ne (ne_of_none e h2)]; exact e
      have st3 := st2.put (v := .ref a) (p := .lst xs) (by rw [List.length_set]; exact hi) (.lst upd_same (rp.mono e))
      rw [List.set_set] at st3
      have eσ : σ.set i (some (.ref a)) = σ := by
        apply List.ext_getElem?
        intro j
        by_cases hj : i = j
        · subst hj; rw [List.getElem?_set_self hi, h1]
        · rw [List.getElem?_set_ne hj]
      rw [eσ] at st3
      refine ⟨_, _, m, st3, e, ?_⟩
      rw [put_set, put_set, List.set_set, ← put_set]
      exact h
    · rw [put_set] at e
      have hj : i ≠ j := by
        rintro rfl
        rw [List.getElem?_set_self (by rw [st.len]; exact hi)] at e
        cases e
      rw [List.getElem?_set_ne hj] at z
      exact st.apart i j _ o a hj ho' (set_ne' hj e) h1 z
  · exact h.elim
end
end PL


/-! The pure layer: dicts that a name holds alone. -/
namespace PL
open PySem PySem.Spec PyProof.Rows L2

/-! ### keys and tables -/
section
variable {κ : Type} [DecidableEq κ]
def pput (kvs : List (κ × PV)) (k : κ) (p : PV) : List (κ × PV) :=
  if (kvs.any fun kv => decide (kv.1 = k)) = true then kvs.map (fun kv => if kv.1 = k then (kv.1, p) else kv) else kvs ++ [(k, p)]
def pval (kvs : List (κ × PV)) (k : κ) : Option PV := (kvs.find? fun kv => decide (kv.1 = k)).map (·.2)
theorem pput_len (kvs : List (κ × PV)) (k : κ) (p : PV) : (pput kvs k p).length ≤ kvs.length + 1 := by
  unfold pput
  split
  · rw [List.length_map]; exact Nat.le_succ _
  · rw [List.length_append, List.length_singleton]; exact Nat.le_refl _
end
@[simp] def pvK : PV → Option (Option Key)
  | .non => some none
  | .int i => some (some (.inl i))
  | .str x => some (some (.inr x))
  | _ => none
@[simp] def kPV : Option Key → PV
  | none => .non
  | some (.inl i) => .int i
  | some (.inr x) => .str x
@[simp] def pvB : PV → Option (Option Bool)
  | .non => some none
  | .bl b => some (some b)
  | _ => none
@[simp] def bPV : Option Bool → PV
  | none => .non
  | some b => .bl b
def pvKs : List PV → Option (List (Option Key))
  | [] => some []
  | p :: ps => match pvK p, pvKs ps with
    | some k, some ks => some (k :: ks)
    | _, _ => none
@[simp] def pvT : PV → Option (List (Option Key))
  | .tup ps => pvKs ps
  | _ => none
section
variable {K : PySem.W.Frag} {F : Hp} {P : Program} {w : World}
theorem pvK_is {p : PV} {k : Option Key} {v : V} {u : Value} (h : pvK p = some k) (r : Rep K F v p) (rv : RelV v u) : (noneKind P w).is k u = true := by
  cases r with
  | non => cases h; cases (show u = Value.none from rv); rfl
  | int i => cases h; obtain ⟨t, rfl⟩ := (show ∃ t, u = Value.int i t from rv); exact mixKind_int P w i t
  | str x => cases h; obtain ⟨t, rfl⟩ := (show ∃ t, u = Value.str x t from rv); exact mixKind_str P w x t
  | _ => cases h
theorem pvK_nk {p : PV} {k : Option Key} {v : V} (h : pvK p = some k) (r : Rep K F v p) : v = nkV k := by
  cases r with
  | non => cases h; rfl
  | int i => cases h; rfl
  | str x => cases h; rfl
  | _ => cases h
theorem pvKs_nk : ∀ {ps : List PV} {ks : List (Option Key)} {vs : List V}, pvKs ps = some ks → RepAll K F vs ps → vs = ks.map nkV
  | [], ks, _, h, .nil => by cases h; rfl
  | p :: ps, ks, _, h, .cons r t => by
    simp only [pvKs] at h
    split at h
    · rename_i k ks' h1 h2
      cases h
      rw [pvK_nk h1 r, pvKs_nk h2 t, List.map_cons]
    · cases h
theorem nk_is {k : Option Key} {u : Value} (rv : RelV (nkV k) u) : (noneKind P w).is k u = true := by
  cases k with
  | none => cases (show u = Value.none from rv); rfl
  | some k => exact kV_is (P := P) (w := w) rv
theorem nks_are : ∀ {ks : List (Option Key)} {us : List Value}, Vals (ks.map nkV) us → ItemsAre (noneKind P w) ks us
  | [], _, r => by rw [List.map_nil] at r; cases r; exact .nil
  | k :: ks, _, r => by
    rw [List.map_cons] at r
    cases r with
    | cons h t => exact .cons (nk_is h) (nks_are t)
theorem pvB_is {p : PV} {k : Option Bool} {v : V} {u : Value} (h : pvB p = some k) (r : Rep K F v p) (rv : RelV v u) : (bnKind P w).is k u = true := by
  cases r with
  | non => cases h; cases (show u = Value.none from rv); rfl
  | bl b => cases h; cases (show u = Value.bool b from rv); exact BEq.rfl
  | _ => cases h
theorem k_rep {k : Option Key} {u : Value} (h : (noneKind P w).is k u = true) : ∃ v, RelV v u ∧ Rep K F v (kPV k) := by
  cases k with
  | none => cases nk_none h; exact ⟨.non, rfl, .non⟩
  | some k =>
    rcases keyIs_shape h with ⟨i, t, rfl, rfl⟩ | ⟨x, t, rfl, rfl⟩
    · exact ⟨.int i, ⟨t, rfl⟩, .int i⟩
    · exact ⟨.str x, ⟨t, rfl⟩, .str x⟩
theorem b_rep {k : Option Bool} {u : Value} (h : (bnKind P w).is k u = true) : ∃ v, RelV v u ∧ Rep K F v (bPV k) := by
  cases bn_shape h
  cases k with
  | none => exact ⟨.non, rfl, .non⟩
  | some b => exact ⟨.bl b, rfl, .bl b⟩
theorem nkV_rep : ∀ k : Option Key, Rep K F (nkV k) (kPV k)
  | none => .non
  | some (.inl i) => .int i
  | some (.inr x) => .str x
theorem nkVs_rep : ∀ ks : List (Option Key), RepAll K F (ks.map nkV) (ks.map kPV)
  | [] => .nil
  | k :: ks => .cons (nkV_rep k) (nkVs_rep ks)
end
section
variable {κ : Type} [DecidableEq κ] {K : PySem.W.Frag} {F : Hp}
theorem DPair.any {kvs : List (κ × PV)} {vs : List (κ × Value)} (r : DPair K F kvs vs) (k : κ) : (kvs.any fun kv => decide (kv.1 = k)) = vs.any fun kv => decide (kv.1 = k) := by
  unfold DPair at r
  induction r with
  | nil => rfl
  | cons h t ih => rw [List.any_cons, List.any_cons, ih, h.1]
theorem DPair.put {kvs : List (κ × PV)} {vs : List (κ × Value)} (r : DPair K F kvs vs) (k : κ) {y : V} {p : PV} {u : Value} (ry : RelV y u) (rp : Rep K F y p) : DPair K F (pput kvs k p) (stored vs k u) := by
  unfold pput stored
  rw [r.any k]
  split
  · unfold DPair at r ⊢
    rename_i e0
    clear e0
    induction r with
    | nil => exact .nil
    | @cons a b as bs h t ih =>
      rw [List.map_cons, List.map_cons]
      refine .cons ?_ ih
      obtain ⟨h1, h2⟩ := h
      by_cases e : a.1 = k
      · rw [if_pos e, if_pos (h1.symm.trans e)]; exact ⟨h1, y, ry, rp⟩
      · rw [if_neg e, if_neg (fun z => e (h1.trans z))]; exact ⟨h1, h2⟩
  · exact Paired.snoc r ⟨rfl, y, ry, rp⟩
theorem DPair.val {kvs : List (κ × PV)} {vs : List (κ × Value)} (r : DPair K F kvs vs) (k : κ) : (valueAt vs k = none ∧ pval kvs k = none) ∨ ∃ u v p, valueAt vs k = some u ∧ pval kvs k = some p ∧ RelV v u ∧ Rep K F v p := by
  unfold DPair at r
  induction r with
  | nil => exact .inl ⟨rfl, rfl⟩
  | @cons a b as bs h t ih =>
    obtain ⟨h1, v, h2, h3⟩ := h
    by_cases e : a.1 = k
    · refine .inr ⟨b.2, v, a.2, ?_, ?_, h2, h3⟩
      · simp [valueAt, List.find?_cons, ← h1, e]
      · simp [pval, List.find?_cons, e]
    · have e' : ¬ b.1 = k := fun z => e (h1.trans z)
      have b1 : valueAt (b :: bs) k = valueAt bs k := by simp [valueAt, List.find?_cons, e']
      have b2 : pval (a :: as) k = pval as k := by simp [pval, List.find?_cons, e]
      rw [b1, b2]
      exact ih
end
section
variable {K : PySem.W.Frag} {F : Hp}
theorem DPairT.val {kvs : List (List (Option Key) × PV)} {xs : List (List (Option Key) × Addr × Value)} (r : DPairT K F kvs xs) (k : List (Option Key)) :
    (atKey xs k = none ∧ pval kvs k = none) ∨ ∃ b u v p, atKey xs k = some (b, u) ∧ pval kvs k = some p ∧ RelV v u ∧ Rep K F v p := by
  unfold DPairT at r
  induction r with
  | nil => exact .inl ⟨rfl, rfl⟩
  | @cons a b as bs h t ih =>
    obtain ⟨h1, h0, v, h2, h3⟩ := h
    by_cases e : a.1 = k
    · refine .inr ⟨b.2.1, b.2.2, v, a.2, ?_, ?_, h2, h3⟩
      · simp [atKey, List.find?_cons, ← h1, e]
      · simp [pval, List.find?_cons, e]
    · have e' : ¬ b.1 = k := fun z => e (h1.trans z)
      have b1 : atKey (b :: bs) k = atKey bs k := by simp [atKey, List.find?_cons, e']
      have b2 : pval (a :: as) k = pval as k := by simp [pval, List.find?_cons, e]
      rw [b1, b2]
      exact ih
theorem DPairT.put {kvs : List (List (Option Key) × PV)} {xs : List (List (Option Key) × Addr × Value)} (r : DPairT K F kvs xs) (k : List (Option Key)) {b : Addr} {y : V} {p : PV} {u : Value} (hb : SqT K F b (k.map nkV)) (ry : RelV y u) (rp : Rep K F y p) :
    DPairT K F (pput kvs k p) (storedH xs k b u) := by
  have e : (kvs.any fun kv => decide (kv.1 = k)) = (atKey xs k).isSome := by
    clear hb ry rp
    unfold DPairT at r
    induction r with
    | nil => rfl
    | @cons a b as bs h t ih =>
      obtain ⟨h1, _⟩ := h
      rw [List.any_cons, ih]
      by_cases e : a.1 = k
      · simp [atKey, List.find?_cons, ← h1, e]
      · have e' : ¬ b.1 = k := fun z => e (h1.trans z)
        simp [atKey, List.find?_cons, e, e']
  unfold pput storedH
  rw [e]
  split
  · unfold DPairT at r ⊢
    clear e
    rename_i e0
    clear e0 hb
    induction r with
    | nil => exact .nil
    | @cons a b as bs h t ih =>
      rw [List.map_cons, List.map_cons]
      refine .cons ?_ ih
      obtain ⟨h1, h0, h2⟩ := h
      unfold putAt
      by_cases e : a.1 = k
      · rw [if_pos e, if_pos (h1.symm.trans e)]; exact ⟨h1, h0, y, ry, rp⟩
      · rw [if_neg e, if_neg (fun z => e (h1.trans z))]; exact ⟨h1, h0, h2⟩
  · exact Paired.snoc r ⟨rfl, hb, y, ry, rp⟩
end

/-! ### what they do, on owned dicts -/
@[simp] def pPut : OO → PV → PV → Option OO
  | .dct kvs, kp, v => match pvK kp with
    | some k => if kvs.length < 1000000 then some (.dct (pput kvs k v)) else none
    | none => none
  | .dcb kvs, kp, v => match pvB kp with
    | some k => if kvs.length < 1000000 then some (.dcb (pput kvs k v)) else none
    | none => none
  | .dcT kvs, kp, v => match pvT kp with
    | some k => if kvs.length < 1000000 then some (.dcT (pput kvs k v)) else none
    | none => none
  | _, _, _ => none
/-- what stands at a key: none: no key; some none: not there -/
@[simp] def pGet : OO → PV → Option (Option PV)
  | .dct kvs, kp => (pvK kp).map (pval kvs)
  | .dcb kvs, kp => (pvB kp).map (pval kvs)
  | .dcT kvs, kp => (pvT kp).map (pval kvs)
  | _, _ => none
@[simp] def pKeys : OO → Option (List PV)
  | .dct kvs => some (kvs.map fun kv => kPV kv.1)
  | .dcb kvs => some (kvs.map fun kv => bPV kv.1)
  | .dcT kvs => some (kvs.map fun kv => .tup (kv.1.map kPV))
  | _ => none

section
variable {X : Cx} {B : Bs} {pins : List (Addr × Obj)} {F H : Hp} {σ : L2.St} {ρ : PEnv} {m : Mem} {s : Shared}
theorem dictOf_stay {κ : Type} [DecidableEq κ] {P : Program} {w : World} {knd : PySem.KeyKind P w κ} {a : Addr} {vs : List (κ × Value)} : ∀ h1 h2 : Heap, h1.DictOf knd a vs → (∀ o, h1.get? a = some o → h2.get? a = some o) → h2.DictOf knd a vs := by
  rintro h1 h2 ⟨o, es, ep, ho, r⟩ k
  exact ⟨o, es, ep, k o ho, r⟩
theorem key_ofT {ks : List (Option Key)} {a : Addr} (I : Inv X pins σ H s) (h : SqT X.K H a (ks.map nkV)) : (tupleKind (noneKind X.prog X.w)).is s.heap ks a := by
  obtain ⟨its, r, ⟨o, h1, h2, n, h3⟩, _⟩ := I.tuple h
  exact ⟨o, its.toArray, n, h1, h2, h3, by simpa using nks_are r⟩
theorem dt_ofT {a : Addr} {kvs : List (List (Option Key) × PV)} {xs : List (List (Option Key) × Addr × Value)} (I : Inv X pins σ H s) (sub : Same F H) (h : H a = some (dictT X.prog X.w a xs)) (r : DPairT X.K F kvs xs) : s.heap.DictOfH (tupleKind (noneKind X.prog X.w)) a xs := by
  obtain ⟨o, es, ep, h1, h2, h3, h4, h5⟩ := (show ObjOk X.prog X.w H s.heap a (.ext _) from I.hok a _ h).1
  refine ⟨o, es, ep, h1, h2, h3, h4, fun x hx => ?_, h5⟩
  clear h h4 h5
  unfold DPairT at r
  induction r with
  | nil => exact nomatch hx
  | @cons p q ps qs hq t ih =>
    rcases List.mem_cons.mp hx with e | hx
    · subst e
      refine key_ofT I ?_
      rw [← hq.1]
      exact same_t sub hq.2.1
    · exact ih hx
theorem sys_ne {s : Shared} (I : Inv X pins σ H s) : (s.heap.objs.size == sysModules) = false := beq_eq_false_iff_ne.mpr (Ne.symm (Nat.ne_of_lt I.big))

variable {A : Around} {E : Value → Shared → Prop}
/-- d[k] = v at an owned dict -/
theorem own_put (hP : B.P = X.prog) (hu : A.units + 1 < cLine) {i : Nat} {o o' : OO} {D : Addr} {kp vp : PV} {kv vv : V} {ku vu : Value} {Q : Unit → Shared → Prop} (I : Inv X pins σ H s) (st : PSt X.w X.K B F σ H ρ m) (ho : ρ[i]? = some (some (.own o))) (hσ : σ[i]? = some (some (.ref D)))
    (rk : RelV kv ku) (rkp : Rep X.K F kv kp) (rv : RelV vv vu) (rvp : Rep X.K F vv vp) (hp : pPut o kp vp = some o')
    (h : ∀ s' H', Inv X pins σ H' s' → PSt X.w X.K B F σ H' (put ρ i (some (.own o'))) m → Q () s') : wpAny (model X.prog X.w) A (setItem (.ref D) ku vu) Q E s := by
  obtain ⟨a, h1, h2, h3, h4, h5⟩ := st.own i o ho
  rw [hσ] at h1
  cases h1
  cases o with
  | lst xs => cases hp
  | dct kvs =>
    obtain ⟨vs, hH, hs, hl, r⟩ := h5
    rw [hP] at hH
    simp only [pPut] at hp
    split at hp <;> try (cases hp; done)
    rename_i k hk
    split at hp <;> cases hp
    rename_i hl2
    obtain ⟨dd, hx, hst⟩ := (show ObjOk X.prog X.w H s.heap D (.ext _) from I.hok D _ hH)
    refine wpAny_setItem_pairs (knd := noneKind X.prog X.w) (hsz := Nat.le_trans (Paired.length r ▸ hl) (by decide)) (pvK_is hk rkp rk) dd fun h' dd' hsb => h _ _ (I.write (t' := _) (x := D) (e := D) (o := dictO X.prog X.w D (stored vs k vu)) (by rw [hH]; exact True.intro) (.inl rfl) (fun b q hb z => (hsb.2 b hb).trans z) (let ⟨q, _, _, hq, _⟩ := dd'; ⟨q, hq⟩) ⟨dd', let ⟨q, _, _, hq, _⟩ := dd'; ⟨q, hq⟩, dictOf_stay⟩) ?_
    refine st.setOwn ho hσ (nc_of I ?_) ⟨_, by rw [hP]; exact upd_same, hs, Nat.le_trans (pput_len _ _ _) hl2, r.put k rv rvp⟩
    obtain ⟨q, _, _, hq, _, hd, _⟩ := dd
    exact ⟨q, hq, fun vs z => by rw [hd] at z; cases z⟩
  | dcb kvs =>
    obtain ⟨vs, hH, hs, hl, r⟩ := h5
    rw [hP] at hH
    simp only [pPut] at hp
    split at hp <;> try (cases hp; done)
    rename_i k hk
    split at hp <;> cases hp
    rename_i hl2
    obtain ⟨dd, hx, hst⟩ := (show ObjOk X.prog X.w H s.heap D (.ext _) from I.hok D _ hH)
    refine wpAny_setItem_pairs (knd := bnKind X.prog X.w) (hsz := Nat.le_trans (Paired.length r ▸ hl) (by decide)) (pvB_is hk rkp rk) dd fun h' dd' hsb => h _ _ (I.write (t' := _) (x := D) (e := D) (o := dictB X.prog X.w D (stored vs k vu)) (by rw [hH]; exact True.intro) (.inl rfl) (fun b q hb z => (hsb.2 b hb).trans z) (let ⟨q, _, _, hq, _⟩ := dd'; ⟨q, hq⟩) ⟨dd', let ⟨q, _, _, hq, _⟩ := dd'; ⟨q, hq⟩, dictOf_stay⟩) ?_
    refine st.setOwn ho hσ (nc_of I ?_) ⟨_, by rw [hP]; exact upd_same, hs, Nat.le_trans (pput_len _ _ _) hl2, r.put k rv rvp⟩
    obtain ⟨q, _, _, hq, _, hd, _⟩ := dd
    exact ⟨q, hq, fun vs z => by rw [hd] at z; cases z⟩
  | dcT kvs =>
    obtain ⟨xs, hH, hs, hl, r⟩ := h5
    rw [hP] at hH
    simp only [pPut] at hp
    split at hp <;> try (cases hp; done)
    rename_i k hk
    split at hp <;> cases hp
    rename_i hl2
    have dd := dt_ofT I st.sub hH r
    cases rkp with
    | @tup b ys ps hb ra =>
      have ey := pvKs_nk (show pvKs ps = some k from hk) ra
      subst ey
      obtain rfl : ku = Value.ref b := rk
      refine wpAny_setItem_heap (hsz := Nat.le_trans (Paired.length r ▸ hl) (by decide)) (tupleKind_room_in1 hu) (key_ofT I (same_t st.sub hb)) dd fun h' dd' hsb => h _ _ (I.write (t' := _) (x := D) (e := D) (o := dictT X.prog X.w D (storedH xs k b vu)) (by rw [hH]; exact True.intro) (.inl rfl) (fun b q hb z => (hsb.2 b hb).trans z) (let ⟨q, _, _, hq, _⟩ := dd'; ⟨q, hq⟩) ?_) ?_
      · obtain ⟨q, es, ep, hq, g1, g2, g3, _, g4⟩ := dd'
        refine ⟨⟨q, es, ep, hq, g1, g2, g3, g4⟩, ⟨q, hq⟩, ?_⟩
        rintro h1 h2 ⟨o, es, ep, ho, r⟩ k
        exact ⟨o, es, ep, k o ho, r⟩
      · refine st.setOwn ho hσ (nc_of I ?_) ⟨_, by rw [hP]; exact upd_same, hs, Nat.le_trans (pput_len _ _ _) hl2, r.put k hb rv rvp⟩
        obtain ⟨q, _, _, hq, _, hd, _⟩ := dd
        exact ⟨q, hq, fun vs z => by rw [hd] at z; cases z⟩
    | _ => cases hk
end
end PL


namespace PL
open PySem PySem.Spec PyProof.Rows L2

section
variable {X : Cx} {B : Bs} {pins : List (Addr × Obj)} {F H : Hp} {σ : L2.St} {ρ : PEnv} {m : Mem} {s : Shared} {A : Around} {E : Value → Shared → Prop}
theorem own_type (hP : B.P = X.prog) {i : Nat} {o : OO} {D : Addr} (I : Inv X pins σ H s) (st : PSt X.w X.K B F σ H ρ m) (ho : ρ[i]? = some (some (.own o))) (hσ : σ[i]? = some (some (.ref D))) (nl : ∀ xs, o ≠ .lst xs) : s.TypeIs (.ref D) "dict" := by
  obtain ⟨a, h1, h2, h3, h4, h5⟩ := st.own i o ho
  rw [hσ] at h1
  cases h1
  cases o with
  | lst xs => exact absurd rfl (nl xs)
  | dct kvs =>
    obtain ⟨vs, hH, _⟩ := h5
    rw [hP] at hH
    exact (show ObjOk X.prog X.w H s.heap D (.ext _) from I.hok D _ hH).1.typeIs
  | dcb kvs =>
    obtain ⟨vs, hH, _⟩ := h5
    rw [hP] at hH
    exact (show ObjOk X.prog X.w H s.heap D (.ext _) from I.hok D _ hH).1.typeIs
  | dcT kvs =>
    obtain ⟨vs, hH, _, _, r⟩ := h5
    rw [hP] at hH
    exact (dt_ofT I st.sub hH r).typeIs
theorem own_get (hP : B.P = X.prog) (hu : A.units + 1 < cLine) {i : Nat} {o : OO} {D : Addr} {kp p : PV} {kv : V} {ku : Value} {Q : Value → Shared → Prop} (I : Inv X pins σ H s) (st : PSt X.w X.K B F σ H ρ m) (ho : ρ[i]? = some (some (.own o))) (hσ : σ[i]? = some (some (.ref D)))
    (rk : RelV kv ku) (rkp : Rep X.K F kv kp) (hp : pGet o kp = some (some p)) (h : ∀ w' v s', Inv X pins σ H s' → RelV v w' → Rep X.K F v p → Q w' s') : wpAny (model X.prog X.w) A (getItem (.ref D) ku) Q E s := by
  obtain ⟨a, h1, h2, h3, h4, h5⟩ := st.own i o ho
  rw [hσ] at h1
  cases h1
  cases o with
  | lst xs => cases hp
  | dct kvs =>
    obtain ⟨vs, hH, hs, hl, r⟩ := h5
    rw [hP] at hH
    simp only [pGet, Option.map_eq_some_iff] at hp
    obtain ⟨k, hk, hv⟩ := hp
    obtain ⟨dd, hx, hst⟩ := (show ObjOk X.prog X.w H s.heap D (.ext _) from I.hok D _ hH)
    rcases r.val k with ⟨_, e⟩ | ⟨u, v, q, e1, e2, rv, rq⟩
    · rw [e] at hv; cases hv
    · rw [e2] at hv; cases hv
      exact wpAny_getItem_of (knd := noneKind X.prog X.w) (pvK_is hk rkp rk) dd.mapOf e1 (h u v _ (I.tok _) rv rq)
  | dcb kvs =>
    obtain ⟨vs, hH, hs, hl, r⟩ := h5
    rw [hP] at hH
    simp only [pGet, Option.map_eq_some_iff] at hp
    obtain ⟨k, hk, hv⟩ := hp
    obtain ⟨dd, hx, hst⟩ := (show ObjOk X.prog X.w H s.heap D (.ext _) from I.hok D _ hH)
    rcases r.val k with ⟨_, e⟩ | ⟨u, v, q, e1, e2, rv, rq⟩
    · rw [e] at hv; cases hv
    · rw [e2] at hv; cases hv
      exact wpAny_getItem_of (knd := bnKind X.prog X.w) (pvB_is hk rkp rk) dd.mapOf e1 (h u v _ (I.tok _) rv rq)
  | dcT kvs =>
    obtain ⟨xs, hH, hs, hl, r⟩ := h5
    rw [hP] at hH
    simp only [pGet, Option.map_eq_some_iff] at hp
    obtain ⟨k, hk, hv⟩ := hp
    have dd := dt_ofT I st.sub hH r
    cases rkp with
    | @tup b ys ps hb ra =>
      have ey := pvKs_nk (show pvKs ps = some k from hk) ra
      subst ey
      obtain rfl : ku = Value.ref b := rk
      rcases r.val k with ⟨_, e⟩ | ⟨b', u, v, q, e1, e2, rv, rq⟩
      · rw [e] at hv; cases hv
      · rw [e2] at hv; cases hv
        exact wpAny_getItem_heap (tupleKind_room_in1 hu) (key_ofT I (same_t st.sub hb)) dd e1 (h u v _ (I.tok _) rv rq)
    | _ => cases hk
theorem own_in (hP : B.P = X.prog) (hu : A.units + 1 < cLine) {i : Nat} {o : OO} {D : Addr} {kp : PV} {r : Option PV} {kv : V} {ku : Value} {Q : Value → Shared → Prop} (I : Inv X pins σ H s) (st : PSt X.w X.K B F σ H ρ m) (ho : ρ[i]? = some (some (.own o))) (hσ : σ[i]? = some (some (.ref D)))
    (rk : RelV kv ku) (rkp : Rep X.K F kv kp) (hp : pGet o kp = some r) :
    ((∀ s', Inv X pins σ H s' → Q (.bool r.isSome) s') → wpAny (model X.prog X.w) A (compareOp .In ku (.ref D)) Q E s) ∧
    ((∀ s', Inv X pins σ H s' → Q (.bool (!r.isSome)) s') → wpAny (model X.prog X.w) A (compareOp .NotIn ku (.ref D)) Q E s) := by
  obtain ⟨a, h1, h2, h3, h4, h5⟩ := st.own i o ho
  rw [hσ] at h1
  cases h1
  have some_eq : ∀ {α : Type} {x : Option α} {y : Option PV}, ((x = none ∧ y = none) ∨ (∃ u, x = some u) ∧ ∃ q, y = some q) → x.isSome = y.isSome := by
    rintro α x y (⟨rfl, rfl⟩ | ⟨⟨u, rfl⟩, q, rfl⟩) <;> rfl
  cases o with
  | lst xs => cases hp
  | dct kvs =>
    obtain ⟨vs, hH, hs, hl, rr⟩ := h5
    rw [hP] at hH
    simp only [pGet, Option.map_eq_some_iff] at hp
    obtain ⟨k, hk, hv⟩ := hp
    obtain ⟨dd, hx, hst⟩ := (show ObjOk X.prog X.w H s.heap D (.ext _) from I.hok D _ hH)
    have e : (valueAt vs k).isSome = r.isSome := by
      rw [← hv]; exact some_eq ((rr.val k).imp id fun ⟨u, v, q, e1, e2, _⟩ => ⟨⟨u, e1⟩, q, e2⟩)
    exact ⟨fun h => wpAny_in_of (knd := noneKind X.prog X.w) (pvK_is hk rkp rk) hs dd.mapOf (by rw [e]; exact h _ (I.tok _)), fun h => wpAny_notIn_of (knd := noneKind X.prog X.w) (pvK_is hk rkp rk) hs dd.mapOf (by rw [e]; exact h _ (I.tok _))⟩
  | dcb kvs =>
    obtain ⟨vs, hH, hs, hl, rr⟩ := h5
    rw [hP] at hH
    simp only [pGet, Option.map_eq_some_iff] at hp
    obtain ⟨k, hk, hv⟩ := hp
    obtain ⟨dd, hx, hst⟩ := (show ObjOk X.prog X.w H s.heap D (.ext _) from I.hok D _ hH)
    have e : (valueAt vs k).isSome = r.isSome := by
      rw [← hv]; exact some_eq ((rr.val k).imp id fun ⟨u, v, q, e1, e2, _⟩ => ⟨⟨u, e1⟩, q, e2⟩)
    exact ⟨fun h => wpAny_in_of (knd := bnKind X.prog X.w) (pvB_is hk rkp rk) hs dd.mapOf (by rw [e]; exact h _ (I.tok _)), fun h => wpAny_notIn_of (knd := bnKind X.prog X.w) (pvB_is hk rkp rk) hs dd.mapOf (by rw [e]; exact h _ (I.tok _))⟩
  | dcT kvs =>
    obtain ⟨xs, hH, hs, hl, rr⟩ := h5
    rw [hP] at hH
    simp only [pGet, Option.map_eq_some_iff] at hp
    obtain ⟨k, hk, hv⟩ := hp
    have dd := dt_ofT I st.sub hH rr
    cases rkp with
    | @tup b ys ps hb ra =>
      have ey := pvKs_nk (show pvKs ps = some k from hk) ra
      subst ey
      obtain rfl : ku = Value.ref b := rk
      have e : (atKey xs k).isSome = r.isSome := by
        rw [← hv]; exact some_eq ((rr.val k).imp id fun ⟨b, u, v, q, e1, e2, _⟩ => ⟨⟨_, e1⟩, q, e2⟩)
      exact ⟨fun h => wpAny_in_heap (tupleKind_room_in1 hu) (key_ofT I (same_t st.sub hb)) hs dd (by rw [e]; exact h _ (I.tok _)), fun h => wpAny_notIn_heap (tupleKind_room_in1 hu) (key_ofT I (same_t st.sub hb)) hs dd (by rw [e]; exact h _ (I.tok _))⟩
    | _ => cases hk

/-! ### the keys as a list -/
theorem DPair.keys {κ : Type} {K : PySem.W.Frag} {F : Hp} {kvs : List (κ × PV)} {vs : List (κ × Value)} (r : DPair K F kvs vs) : kvs.map (·.1) = vs.map (·.1) := by
  unfold DPair at r
  induction r with
  | nil => rfl
  | cons h t ih => rw [List.map_cons, List.map_cons, ih, h.1]
theorem vals_ref2 : ∀ xs : List (List (Option Key) × Addr × Value), Vals (xs.map fun x => V.ref x.2.1) (xs.map fun x => Value.ref x.2.1)
  | [] => .nil
  | _ :: r => .cons rfl (vals_ref2 r)
theorem keys_rep {κ : Type} {K : PySem.W.Frag} {is : κ → Value → Bool} {kp : κ → PV} (hk : ∀ k u, is k u = true → ∃ v, RelV v u ∧ Rep K F v (kp k)) : ∀ {us : List Value} {ks : List κ}, us.length = ks.length → (∀ (j : Nat) u, us[j]? = some u → ∃ k, ks[j]? = some k ∧ is k u = true) → ∃ vs, Vals vs us ∧ RepAll K F vs (ks.map kp)
  | [], [], _, _ => ⟨[], .nil, .nil⟩
  | [], _ :: _, h, _ => by simp at h
  | _ :: _, [], h, _ => by simp at h
  | u :: us, k :: ks, h, f => by
    obtain ⟨k', e, hi⟩ := f 0 u rfl
    cases e
    obtain ⟨v, rv, rp⟩ := hk k u hi
    obtain ⟨vs, r1, r2⟩ := keys_rep hk (us := us) (ks := ks) (by simpa using h) fun j w e => f (j + 1) w (by simpa using e)
    exact ⟨v :: vs, .cons rv r1, .cons rp r2⟩
theorem keys_repT {K : PySem.W.Frag} {kvs : List (List (Option Key) × PV)} {xs : List (List (Option Key) × Addr × Value)} (r : DPairT K F kvs xs) : RepAll K F (xs.map fun x => V.ref x.2.1) (kvs.map fun kv => .tup (kv.1.map kPV)) := by
  unfold DPairT at r
  induction r with
  | nil => exact .nil
  | cons h t ih => exact .cons (.tup h.2.1 (nkVs_rep _)) ih
theorem own_list (hP : B.P = X.prog) (hc : X.calm = true) {i : Nat} {o : OO} {D : Addr} {ps : List PV} {Q : Value → Shared → Prop} {E : Value → Shared → Prop} (I : Inv X pins σ H s) (st : PSt X.w X.K B F σ H ρ m) (ho : ρ[i]? = some (some (.own o))) (hσ : σ[i]? = some (some (.ref D)))
    (hp : pKeys o = some ps) (h : ∀ a vs s', Inv X pins σ (L2.upd H a (.lst vs)) s' → H a = none → RepAll X.K F vs ps → Q (.ref a) s') : wpAny (model X.prog X.w) X.A (call (.type "list") [.ref D]) Q E s := by
  obtain ⟨a, h1, h2, h3, h4, h5⟩ := st.own i o ho
  rw [hσ] at h1
  cases h1
  have fin : ∀ {h' : Heap} {tk : Nat} {acc' : Array Value} {c' : Nat} {vs : List V}, (∀ b o, s.heap.get? b = some o → h'.get? b = some o) → h'.get? s.heap.objs.size = some { cls := .type "list", dict := none, data := .seq acc' c', slots := #[] } → Vals vs acc'.toList → vs.length ≤ sizeLine → RepAll X.K F vs ps → Q (.ref s.heap.objs.size) { s with heap := h', toks := tk } := fun {h' tk acc' c' vs} hk hS rv hz rp =>
    h _ vs _ (I.laid (t' := tk) (o := .lst vs) hk (Nat.le_refl _) ⟨hz, acc'.toList, c', rv, by rw [Array.toArray_toList]; exact hS⟩) (I.hok.fresh (Nat.le_refl _)) rp
  cases o with
  | lst xs => cases hp
  | dct kvs =>
    obtain ⟨us, hH, hs, hl, r⟩ := h5
    rw [hP] at hH
    cases hp
    obtain ⟨dd, hx, hst⟩ := (show ObjOk X.prog X.w H s.heap D (.ext _) from I.hok D _ hH)
    obtain ⟨ep, hat⟩ := dd.dictAt
    have e0 : kvs.length = us.length := Paired.length r
    have e1 : kvs.map (·.1) = us.map (·.1) := r.keys
    have hle : us.length ≤ sizeLine := by rw [← e0]; exact line6 hl
    refine PySem.W.kdl_call (PySem.W.kdl_dict (knd := noneKind X.prog X.w) (kvs := us) (ep := ep) hs) (I.ok.hd hc) hat hle fun h' tk acc' c' hk hS hacc => ?_
    obtain ⟨vs, r1, r2⟩ := keys_rep (F := F) (K := X.K) (is := (noneKind X.prog X.w).is) (kp := kPV) (fun k u e => k_rep e) (us := acc'.toList) (ks := kvs.map (·.1)) (by rw [Array.length_toList, hacc.1, List.length_map, e0]) fun j u e => by
      obtain ⟨k, y, g1, g2⟩ := hacc.2 j u (by rw [← Array.getElem?_toList]; exact e)
      exact ⟨k, by rw [e1, List.getElem?_map, g1]; rfl, g2⟩
    rw [List.map_map] at r2
    exact fin hk hS r1 (by rw [r2.length, List.length_map]; exact line6 hl) r2
  | dcb kvs =>
    obtain ⟨us, hH, hs, hl, r⟩ := h5
    rw [hP] at hH
    cases hp
    obtain ⟨dd, hx, hst⟩ := (show ObjOk X.prog X.w H s.heap D (.ext _) from I.hok D _ hH)
    obtain ⟨ep, hat⟩ := dd.dictAt
    have e0 : kvs.length = us.length := Paired.length r
    have e1 : kvs.map (·.1) = us.map (·.1) := r.keys
    have hle : us.length ≤ sizeLine := by rw [← e0]; exact line6 hl
    refine PySem.W.kdl_call (PySem.W.kdl_dict (knd := bnKind X.prog X.w) (kvs := us) (ep := ep) hs) (I.ok.hd hc) hat hle fun h' tk acc' c' hk hS hacc => ?_
    obtain ⟨vs, r1, r2⟩ := keys_rep (F := F) (K := X.K) (is := (bnKind X.prog X.w).is) (kp := bPV) (fun k u e => b_rep e) (us := acc'.toList) (ks := kvs.map (·.1)) (by rw [Array.length_toList, hacc.1, List.length_map, e0]) fun j u e => by
      obtain ⟨k, y, g1, g2⟩ := hacc.2 j u (by rw [← Array.getElem?_toList]; exact e)
      exact ⟨k, by rw [e1, List.getElem?_map, g1]; rfl, g2⟩
    rw [List.map_map] at r2
    exact fin hk hS r1 (by rw [r2.length, List.length_map]; exact line6 hl) r2
  | dcT kvs =>
    obtain ⟨xs, hH, hs, hl, r⟩ := h5
    rw [hP] at hH
    cases hp
    obtain ⟨o, es, ep, ho', hx, hdt, he, hn⟩ := (show ObjOk X.prog X.w H s.heap D (.ext _) from I.hok D _ hH).1
    have l1 : es.size = xs.length := size_of_entries he
    have l2 : kvs.length = xs.length := Paired.length r
    refine PySem.W.kdl_call (kdl_raw hs hx hdt) (I.ok.hd hc) ho' (by rw [l1, ← l2]; exact line6 hl) fun h' tk acc' c' kp e it => ?_
    have ea : acc'.toList = xs.map fun x => Value.ref x.2.1 := by
      have hl : acc'.toList.length = xs.length := by rw [Array.length_toList, it.1]; exact l1
      apply List.ext_getElem?
      intro j
      rw [List.getElem?_map]
      cases hj : acc'.toList[j]? with
      | none => rw [List.getElem?_eq_none (by have := List.getElem?_eq_none_iff.mp hj; omega)]; rfl
      | some v =>
        obtain ⟨en, hen, hv⟩ := it.2 j v (by rw [← Array.getElem?_toList]; exact hj)
        have qe := entry_at he j
        rw [hen] at qe
        cases hb : xs[j]? with
        | none => rw [hb] at qe; exact nomatch (show some en = none from qe)
        | some b =>
          rw [hb] at qe
          rw [hv, Option.some.inj qe]
          rfl
    refine fin kp e (vs := xs.map fun x => V.ref x.2.1) ?_ (by rw [List.length_map, ← l2]; exact line6 hl) (keys_repT r)
    rw [ea]
    exact vals_ref2 xs
end
end PL


namespace PL
open PySem PySem.Spec PyProof.Rows L2

/-! ### owned dicts: {}, d[k] = v, d[k], k in d, list(d) -/
section
variable {X : Cx} {B : Bs} {e e2 : Expr} {te tf : DE} {pos : Pos}
theorem pst_own {pins : List (Addr × Obj)} {w : World} {K : PySem.W.Frag} {F H : Hp} {σ : L2.St} {ρ : PEnv} {m : Mem} {s : Shared} {i : Nat} {o : OO} (st : PSt w K B F σ H ρ m) (h : at' ρ i = some (.own o)) : ρ[i]? = some (some (.own o)) ∧ ∃ D, σ[i]? = some (some (.ref D)) := by
  obtain ⟨a, h1, _⟩ := st.own i o (at_get h)
  exact ⟨at_get h, a, h1⟩
theorem free_fresh {K : PySem.W.Frag} {pins : List (Addr × Obj)} {s : Shared} {F H : Hp} {σ : L2.St} {ρ : PEnv} {m : Mem} {w : World} {a : Addr} {o : HO} (st : PSt w K B F σ H ρ m) (h : H a = none) (nt : noTbl o) : Free B F (L2.upd H a o) σ ρ m a :=
  ⟨st.sub.free h, st.mem_none h, st.ext.free h, ⟨_, upd_same, nt⟩, st.own_ne h⟩
/-- x = {}: o the empty dict of the kind wanted -/
@[simp] def wNewD (i : Nat) (o : OO) : DS := fun ρ m D => (o = .dct [] ∨ o = .dcb [] ∨ o = .dcT []) ∧ D.nx (put ρ i (some (.own o))) m
theorem js_dnew {x : Str} {pos' : Pos} {k : Pos} (i : Nat) (o : OO) (hP : B.P = X.prog) (hN : X.N.Nodup) (hi : X.N[i]? = some x := by rfl) (hx : Loc X.env.scope x := by first | exact Or.inl rfl | exact Or.inr rfl) (hs : swapsWith (.Dict [] [] k) (some (.Name x pos')) pos.line X.env = pure false := by rfl) (hf : X.fn x = true ∨ X.env.scope.names.lookup x = some .local := by first | exact .inl rfl | exact .inr rfl | assumption) :
    JS X B (.Assign [.Name x pos'] (.Dict [] [] k) pos) (wNewD i o) := by
  refine ⟨fun D tk pins s σ F H ρ m I st h => ?_⟩
  obtain ⟨ho, h⟩ := h
  have hfr := I.hok.fresh (Nat.le_refl s.heap.objs.size)
  refine wpAny_Assign_Name (wpAny_Dict_empty ?_) hs
  have fin : ∀ (u : HO), noTbl u → Inv X pins σ (L2.upd H s.heap.objs.size u) { s with heap := s.heap.push { cls := .type "dict", data := .dict #[] } } → RepO B.P X.w X.K F (L2.upd H s.heap.objs.size u) s.heap.objs.size o →
      wpAny (model X.prog X.w) X.A (storeName X.env x (.ref s.heap.objs.size)) (fun _ => SPP X B pins F D .next) X.xe { s with heap := s.heap.push { cls := .type "dict", data := .dict #[] } } := fun u nt I1 r =>
    store_ok (v := .ref s.heap.objs.size) I1 hN hi hx rfl (fun s2 I2 => ⟨_, F, _, _, m, I2, (st.newH hfr).putOwn (o := o) (slot_lt (w := X.w) (K := X.K) I1 hi) (free_fresh (s := s) (pins := pins) st hfr nt) r, Same.refl F, h⟩) hf
  have keep : ∀ (b : Addr) q, s.heap.get? b = some q → (s.heap.push { cls := .type "dict", data := .dict #[] }).get? b = some q := fun _ _ q => Heap.get?_push_of_some _ q
  rcases ho with rfl | rfl | rfl
  · refine fin (dictO X.prog X.w s.heap.objs.size []) (fun ps z => by unfold dictO at z; cases z) (I.laid (t' := s.toks) keep (Nat.le_refl _) ⟨Heap.DictOf.new s.heap, ⟨_, Heap.get?_push_size _ rfl⟩, dictOf_stay⟩) ⟨[], by rw [hP]; exact upd_same, sys_ne I, Nat.zero_le _, .nil⟩
  · refine fin (dictB X.prog X.w s.heap.objs.size []) (fun ps z => by unfold dictB at z; cases z) (I.laid (t' := s.toks) keep (Nat.le_refl _) ⟨Heap.DictOf.new s.heap, ⟨_, Heap.get?_push_size _ rfl⟩, dictOf_stay⟩) ⟨[], by rw [hP]; exact upd_same, sys_ne I, Nat.zero_le _, .nil⟩
  · refine fin (dictT X.prog X.w s.heap.objs.size []) (fun ps z => by unfold dictT at z; cases z) (I.laid (t' := s.toks) keep (Nat.le_refl _) ⟨⟨_, #[], 0, Heap.get?_push_size _ rfl, ⟨rfl, rfl, rfl⟩, rfl, rfl, List.nodup_nil⟩, ⟨_, Heap.get?_push_size _ rfl⟩, ?_⟩) ⟨[], by rw [hP]; exact upd_same, sys_ne I, Nat.zero_le _, .nil⟩
    rintro h1 h2 ⟨o, es, ep, ho, r⟩ k
    exact ⟨o, es, ep, k o ho, r⟩
/-- x[e] = e2 -/
@[simp] def wPut (i : Nat) (te tf : DE) : DS := fun ρ m D => match at' ρ i with
  | some (.own o) => tf ρ m (fun v m1 => te ρ m1 (fun kp m2 => ∃ o', pPut o kp v = some o' ∧ D.nx (put ρ i (some (.own o'))) m2) (D.ex ρ)) (D.ex ρ)
  | _ => False
theorem js_dput {x : Str} {px pos' : Pos} (i : Nat) (hP : B.P = X.prog) (hu : X.A.units + 1 < cLine) (he : JE X B e te) (hf : JE X B e2 tf) (hi : X.N[i]? = some x := by rfl) (hv : Vis X.env.scope x := by first | exact Or.inl rfl | exact Or.inr (Or.inl rfl) | exact Or.inr (Or.inr rfl))
    (hd : (x == ("__debug__" : Str)) = false := by decide) (hcd : (x == ("__classdict__" : Str)) = false := by decide) (hs : swapsWith e2 (some (.Subscript (.Name x px) e pos')) pos.line X.env = pure false := by rfl) :
    JS X B (.Assign [.Subscript (.Name x px) e pos'] e2 pos) (wPut i te tf) := by
  refine ⟨fun D tk pins s σ F H ρ m I st h => ?_⟩
  unfold wPut at h
  split at h
  · rename_i o ho
    refine wpAny_Assign_Subscript (thn (hf.run D.ex tk pins s σ F H ρ m _ I st h) fun u s1 ⟨vv, vp, F1, H1, m1, I1, st1, ex1, r1, rp1, q1⟩ => ?_) hs
    obtain ⟨hoo, a, hσ⟩ := pst_own (pins := pins) (s := s) st1 ho
    refine thn ((pe_var (pos := px) (i := i) hi hv hd hcd).run pins s1 σ H1 (fun v H' => v = .ref a ∧ H' = H1) I1 ⟨_, hσ, rfl, rfl⟩) fun ov s2 ⟨v, H', I2, r2, e1, e3⟩ => ?_
    subst e1 e3
    obtain rfl : ov = Value.ref a := r2
    refine thn (he.run D.ex tk pins s2 σ F1 H' ρ m1 _ I2 st1 q1) fun ku s3 ⟨kv, kp, F2, H2, m2, I3, st3, ex3, r3, rp3, o', hp, q3⟩ => ?_
    exact own_put hP hu I3 st3 hoo hσ r3 rp3 r1 (rp1.mono ex3.fz) hp fun s4 H4 I4 st4 => ⟨σ, F2, H4, _, m2, I4, st4, (ex1.trans ex3).fz, q3⟩
  · exact h.elim
/-- x[e] -/
@[simp] def wDGet (i : Nat) (te : DE) : DE := fun ρ m Q R => match at' ρ i with
  | some (.own o) => te ρ m (fun kp m1 => ∃ p, pGet o kp = some (some p) ∧ Q p m1) R
  | _ => False
theorem je_dget {x : Str} {px : Pos} (i : Nat) (hP : B.P = X.prog) (hu : X.A.units + 1 < cLine) (he : JE X B e te) (hi : X.N[i]? = some x := by rfl) (hv : Vis X.env.scope x := by first | exact Or.inl rfl | exact Or.inr (Or.inl rfl) | exact Or.inr (Or.inr rfl))
    (hd : (x == ("__debug__" : Str)) = false := by decide) (hcd : (x == ("__classdict__" : Str)) = false := by decide) (hs : NoSl e := by exact fun _ _ => rfl) :
    JE X B (.Subscript (.Name x px) e pos) (wDGet i te) := by
  refine ⟨fun R tk pins s σ F H ρ m Q I st h => ?_⟩
  unfold wDGet at h
  split at h
  · rename_i o ho
    obtain ⟨hoo, a, hσ⟩ := pst_own (pins := pins) (s := s) st ho
    refine subD_of PySem.F.slot_dict_getitem.lookup hs (thn ((pe_var (pos := px) (i := i) hi hv hd hcd).run pins s σ H (fun v H' => v = .ref a ∧ H' = H) I ⟨_, hσ, rfl, rfl⟩) fun ov s2 ⟨v, H', I2, r2, e1, e3⟩ => ?_)
    subst e1 e3
    obtain rfl : ov = Value.ref a := r2
    refine thn (he.run R tk pins s2 σ F H' ρ m _ I2 st h) fun ku s3 ⟨kv, kp, F2, H2, m2, I3, st3, ex3, r3, rp3, p, hp, q3⟩ => ?_
    refine ⟨own_type hP I3 st3 hoo hσ (fun xs z => by subst z; cases hp), own_get hP hu I3 st3 hoo hσ r3 rp3 hp fun w' v s4 I4 rv rp => ⟨v, p, F2, H2, m2, I4, st3, ex3, rv, rp, q3⟩⟩
  · exact h.elim
/-- e in x -/
@[simp] def wDIn (i : Nat) (te : DE) : DE := fun ρ m Q R => match at' ρ i with
  | some (.own o) => te ρ m (fun kp m1 => ∃ r, pGet o kp = some r ∧ Q (.bl r.isSome) m1) R
  | _ => False
@[simp] def wDNin (i : Nat) (te : DE) : DE := fun ρ m Q R => match at' ρ i with
  | some (.own o) => te ρ m (fun kp m1 => ∃ r, pGet o kp = some r ∧ Q (.bl (!r.isSome)) m1) R
  | _ => False
theorem je_din {x : Str} {px : Pos} (i : Nat) (hP : B.P = X.prog) (hu : X.A.units + 1 < cLine) (he : JE X B e te) (hi : X.N[i]? = some x := by rfl) (hv : Vis X.env.scope x := by first | exact Or.inl rfl | exact Or.inr (Or.inl rfl) | exact Or.inr (Or.inr rfl))
    (hd : (x == ("__debug__" : Str)) = false := by decide) (hcd : (x == ("__classdict__" : Str)) = false := by decide) :
    JE X B (.Compare e [.In] [.Name x px] pos) (wDIn i te) := by
  refine ⟨fun R tk pins s σ F H ρ m Q I st h => ?_⟩
  unfold wDIn at h
  split at h
  · rename_i o ho
    refine wpAny_Compare1 (thn (he.run R tk pins s σ F H ρ m _ I st h) fun ku s3 ⟨kv, kp, F2, H2, m2, I3, st3, ex3, r3, rp3, r, hp, q3⟩ => ?_) rfl
    obtain ⟨hoo, a, hσ⟩ := pst_own (pins := pins) (s := s) st3 ho
    refine thn ((pe_var (pos := px) (i := i) hi hv hd hcd).run pins s3 σ H2 (fun v H' => v = .ref a ∧ H' = H2) I3 ⟨_, hσ, rfl, rfl⟩) fun ov s2 ⟨v, H', I2, r2, e1, e3⟩ => ?_
    subst e1 e3
    obtain rfl : ov = Value.ref a := r2
    exact (own_in hP hu I2 st3 hoo hσ r3 rp3 hp).1 fun s4 I4 => ⟨.bl _, .bl _, F2, H', m2, I4, st3, ex3, rfl, .bl _, q3⟩
  · exact h.elim
theorem je_dnin {x : Str} {px : Pos} (i : Nat) (hP : B.P = X.prog) (hu : X.A.units + 1 < cLine) (he : JE X B e te) (hi : X.N[i]? = some x := by rfl) (hv : Vis X.env.scope x := by first | exact Or.inl rfl | exact Or.inr (Or.inl rfl) | exact Or.inr (Or.inr rfl))
    (hd : (x == ("__debug__" : Str)) = false := by decide) (hcd : (x == ("__classdict__" : Str)) = false := by decide) :
    JE X B (.Compare e [.NotIn] [.Name x px] pos) (wDNin i te) := by
  refine ⟨fun R tk pins s σ F H ρ m Q I st h => ?_⟩
  unfold wDNin at h
  split at h
  · rename_i o ho
    refine wpAny_Compare1 (thn (he.run R tk pins s σ F H ρ m _ I st h) fun ku s3 ⟨kv, kp, F2, H2, m2, I3, st3, ex3, r3, rp3, r, hp, q3⟩ => ?_) rfl
    obtain ⟨hoo, a, hσ⟩ := pst_own (pins := pins) (s := s) st3 ho
    refine thn ((pe_var (pos := px) (i := i) hi hv hd hcd).run pins s3 σ H2 (fun v H' => v = .ref a ∧ H' = H2) I3 ⟨_, hσ, rfl, rfl⟩) fun ov s2 ⟨v, H', I2, r2, e1, e3⟩ => ?_
    subst e1 e3
    obtain rfl : ov = Value.ref a := r2
    exact (own_in hP hu I2 st3 hoo hσ r3 rp3 hp).2 fun s4 I4 => ⟨.bl _, .bl _, F2, H', m2, I4, st3, ex3, rfl, .bl _, q3⟩
  · exact h.elim
theorem jt_din {x : Str} {px : Pos} (i : Nat) (hP : B.P = X.prog) (hu : X.A.units + 1 < cLine) (he : JE X B e te) (hi : X.N[i]? = some x := by rfl) (hv : Vis X.env.scope x := by first | exact Or.inl rfl | exact Or.inr (Or.inl rfl) | exact Or.inr (Or.inr rfl))
    (hd : (x == ("__debug__" : Str)) = false := by decide) (hcd : (x == ("__classdict__" : Str)) = false := by decide) :
    JT X B (.Compare e [.In] [.Name x px] pos) (wTst (wDIn i te)) := by
  refine ⟨fun R tk pins s σ F H ρ m Q I st h => ?_⟩
  unfold wTst wDIn at h
  split at h
  · rename_i o ho
    refine wpAny_isTrue_Compare1 (thn (he.run R tk pins s σ F H ρ m _ I st h) fun ku s3 ⟨kv, kp, F2, H2, m2, I3, st3, ex3, r3, rp3, r, hp, q3⟩ => ?_) rfl
    obtain ⟨hoo, a, hσ⟩ := pst_own (pins := pins) (s := s) st3 ho
    refine thn ((pe_var (pos := px) (i := i) hi hv hd hcd).run pins s3 σ H2 (fun v H' => v = .ref a ∧ H' = H2) I3 ⟨_, hσ, rfl, rfl⟩) fun ov s2 ⟨v, H', I2, r2, e1, e3⟩ => ?_
    subst e1 e3
    obtain rfl : ov = Value.ref a := r2
    exact (own_in hP hu I2 st3 hoo hσ r3 rp3 hp).1 fun s4 I4 => wpAny_truthy_bool ⟨F2, H', m2, I4, st3, ex3, q3⟩
  · exact h.elim
theorem jt_dnin {x : Str} {px : Pos} (i : Nat) (hP : B.P = X.prog) (hu : X.A.units + 1 < cLine) (he : JE X B e te) (hi : X.N[i]? = some x := by rfl) (hv : Vis X.env.scope x := by first | exact Or.inl rfl | exact Or.inr (Or.inl rfl) | exact Or.inr (Or.inr rfl))
    (hd : (x == ("__debug__" : Str)) = false := by decide) (hcd : (x == ("__classdict__" : Str)) = false := by decide) :
    JT X B (.Compare e [.NotIn] [.Name x px] pos) (wTst (wDNin i te)) := by
  refine ⟨fun R tk pins s σ F H ρ m Q I st h => ?_⟩
  unfold wTst wDNin at h
  split at h
  · rename_i o ho
    refine wpAny_isTrue_Compare1 (thn (he.run R tk pins s σ F H ρ m _ I st h) fun ku s3 ⟨kv, kp, F2, H2, m2, I3, st3, ex3, r3, rp3, r, hp, q3⟩ => ?_) rfl
    obtain ⟨hoo, a, hσ⟩ := pst_own (pins := pins) (s := s) st3 ho
    refine thn ((pe_var (pos := px) (i := i) hi hv hd hcd).run pins s3 σ H2 (fun v H' => v = .ref a ∧ H' = H2) I3 ⟨_, hσ, rfl, rfl⟩) fun ov s2 ⟨v, H', I2, r2, e1, e3⟩ => ?_
    subst e1 e3
    obtain rfl : ov = Value.ref a := r2
    exact (own_in hP hu I2 st3 hoo hσ r3 rp3 hp).2 fun s4 I4 => wpAny_truthy_bool ⟨F2, H', m2, I4, st3, ex3, q3⟩
  · exact h.elim
/-- list(x) -/
@[simp] def wDLst (i : Nat) : DE := fun ρ m Q R => match at' ρ i with
  | some (.own o) => ∃ ps, pKeys o = some ps ∧ Q (.lst ps) m
  | _ => False
theorem je_dlist {x : Str} {px p : Pos} (i : Nat) (hP : B.P = X.prog) (hc : X.calm = true) (hm : X.mg "list" = none) (hi : X.N[i]? = some x := by rfl) (hv : Vis X.env.scope x := by first | exact Or.inl rfl | exact Or.inr (Or.inl rfl) | exact Or.inr (Or.inr rfl))
    (hd : (x == ("__debug__" : Str)) = false := by decide) (hcd : (x == ("__classdict__" : Str)) = false := by decide) (hg : Gl X "list" := by rfl) (he : starEach [.Name x px] X.env = (false, eval (.Name x px) X.env) :: starEach [] X.env := by rfl) :
    JE X B (.Call (.Name "list" p) [.Name x px] [] pos) (wDLst i) := by
  refine ⟨fun R tk pins s σ F H ρ m Q I st h => ?_⟩
  unfold wDLst at h
  split at h
  · rename_i o ho
    obtain ⟨ps, hp, q⟩ := h
    obtain ⟨hoo, a, hσ⟩ := pst_own (pins := pins) (s := s) st ho
    refine wpAny_Call_Name_kw (ld_blt (u := .type "list") I hg hm (by decide +kernel) ?_ (by decide) (by decide))
    refine PyProof.Rows.callWith_type1 ?_ he (by rfl)
    rw [he]
    refine Calls.spliced_cons (thn ((pe_var (pos := px) (i := i) hi hv hd hcd).run pins s σ H (fun v H' => v = .ref a ∧ H' = H) I ⟨_, hσ, rfl, rfl⟩) fun ov s2 ⟨v, H', I2, r2, e1, e3⟩ => ?_)
    subst e1 e3
    obtain rfl : ov = Value.ref a := r2
    refine Calls.spliced_nil ?_
    refine own_list hP hc I2 st hoo hσ hp fun b vs s3 I3 hb rp => ?_
    obtain ⟨st2, ex2⟩ := st.new (o := .lst vs) hb (fun ps z => nomatch z)
    exact ⟨.ref b, .lst ps, _, _, m, I3, st2, ex2, rfl, .lst upd_same (rp.mono ex2.fz), q⟩
  · exact h.elim
end
end PL


namespace PL
open PySem PySem.Spec PyProof.Rows L2

/-! ### dice: two ints, held by several -/
def mset (m : Mem) (a : Addr) (c : MO) : Mem := fun b => if b = a then some c else m b
theorem mset_same (m : Mem) (a : Addr) (c : MO) : mset m a c a = some c := if_pos rfl
theorem mset_ne {m : Mem} {a b : Addr} {c : MO} (h : b ≠ a) : mset m a c b = m b := if_neg h
theorem mset_mset (m : Mem) (a : Addr) (c d : MO) : mset (mset m a c) a d = mset m a d := by
  funext b
  unfold mset
  by_cases h : b = a
  · rw [if_pos h, if_pos h]
  · rw [if_neg h, if_neg h, if_neg h]
theorem mset_id {m : Mem} {a : Addr} {c : MO} (h : m a = some c) : mset m a c = m := by
  funext b
  unfold mset
  by_cases e : b = a
  · rw [if_pos e, e, h]
  · rw [if_neg e]
section
variable {X : Cx} {B : Bs} {pins : List (Addr × Obj)} {F H : Hp} {σ : L2.St} {ρ : PEnv} {m : Mem} {w : World} {K : PySem.W.Frag}
/-- a shared list of two ints is changed -/
theorem PSt.setDice {D : Addr} {i j : Int} (st : PSt w K B F σ H ρ m) (e : m D = some .dice) : PSt w K B F σ (L2.upd H D (.lst [.int i, .int j])) ρ m := by
  obtain ⟨hF, i0, j0, hD⟩ := st.mem D _ e
  have neF : ∀ a u', F a = some u' → a ≠ D := fun a u' e2 z => by subst z; rw [hF] at e2; cases e2
  have stay : ∀ {a : Addr}, a ≠ D → ∀ u', H a = some u' → L2.upd H D (.lst [.int i, .int j]) a = some u' := fun ne u' hu => by rw [upd_ne ne]; exact hu
  refine ⟨st.len, fun a u' e => stay (neF a u' e) u' (st.sub a u' e), st.nt, st.val, fun x o2 h => ?_, st.apart, fun a c ec => ?_, ?_, ?_⟩
  · obtain ⟨b, b1, b2, b3, b4, b5⟩ := st.own x o2 h
    have ne : b ≠ D := fun z => by subst z; rw [b3] at e; cases e
    exact ⟨b, b1, b2, b3, b4, b5.keep (Same.refl F) fun u' hu _ => stay ne u' hu⟩
  · by_cases z : a = D
    · subst z
      rw [e] at ec
      cases ec
      exact ⟨hF, i, j, upd_same⟩
    · obtain ⟨g1, g2⟩ := st.mem a c ec
      refine ⟨g1, ?_⟩
      cases c with
      | dice => obtain ⟨i2, j2, e1⟩ := g2; exact ⟨i2, j2, stay z _ e1⟩
      | lst xs => obtain ⟨vs, e1, r⟩ := g2; exact ⟨vs, stay z _ e1, r⟩
      | ins C fs =>
        obtain ⟨dx, fv, e1, e0, e2, e3⟩ := g2
        have ne2 : dx ≠ D := fun q => by subst q; rw [hD] at e0; cases e0
        exact ⟨dx, fv, stay z _ e1, stay ne2 _ e0, e2, e3⟩
  · have nb : ∀ a u', B.H a = some u' → noTbl u' → B.m a = none → a ≠ D := fun a u' e1 n' e' z => by
      subst z
      have := st.ext.mf a u' e1 n' e'
      rw [this] at e; cases e
    refine ⟨st.ext.fz, fun a u' e1 n' e' => stay (nb a u' e1 n' e') _ (st.ext.kp a u' e1 n' e'), st.ext.ff, st.ext.mf, fun a u' h1 n' => ?_⟩
    · by_cases z : a = D
      · subst z; exact ⟨_, upd_same, lst_nt⟩
      · obtain ⟨u2, e2, n2⟩ := st.ext.st a u' h1 n'
        exact ⟨u2, stay z _ e2, n2⟩
  · intro p hp
    obtain ⟨ps, q1, q2, q3⟩ := st.tab p hp
    have ne : p.1 ≠ D := fun z => by rw [z, hD] at q1; cases q1
    refine ⟨ps, stay ne _ q1, q2, fun pos cv hc => ?_⟩
    obtain ⟨c, e1, e2⟩ := q3 pos cv hc
    exact ⟨c, e1, stay (fun z => by rw [z, hD] at e2; unfold LamX.CodeO at e2; cases e2) _ e2⟩
end
section
variable {X : Cx} {B : Bs} {te : DE} {pos : Pos}
theorem raw_val {w : World} {K : PySem.W.Frag} {F H : Hp} {σ : L2.St} {ρ : PEnv} {m : Mem} {i : Nat} {v : V} (st : PSt w K B F σ H ρ m) (h : at' ρ i = some (.val (.raw v))) : σ[i]? = some (some v) := by
  obtain ⟨u, h1, h2⟩ := st.val i _ (at_get h)
  cases h2
  exact h1
/-- x[0], x[1] of a dice -/
@[simp] def wDice (f : Bool) (i : Nat) : DE := fun ρ m Q R => match at' ρ i with
  | some (.val (.raw (.ref a))) => m a = some .dice ∧ ∀ z, Q (.int z) m
  | _ => False
theorem je_diceN {x : Str} {px ip : Pos} {j : Nat} (f : Bool) (i : Nat) (hi : X.N[i]? = some x) (hv : Vis X.env.scope x) (hd : (x == ("__debug__" : Str)) = false) (hcd : (x == ("__classdict__" : Str)) = false) (hs : PlainIx (.Constant (.int (if f then 1 else 0)) j ip)) :
    JE X B (.Subscript (.Name x px) (.Constant (.int (if f then 1 else 0)) j ip) pos) (wDice f i) := by
  refine ⟨fun R tk pins s σ F H ρ m Q I st h => ?_⟩
  unfold wDice at h
  split at h
  · rename_i a ho
    · obtain ⟨em, h⟩ := h
      obtain ⟨hF, z0, z1, hD⟩ := st.mem a _ em
      refine Subscript_ (thn ((pe_var (pos := px) (i := i) hi hv hd hcd).run pins s σ H (fun v H' => v = .ref a ∧ H' = H) I ⟨_, raw_val st ho, rfl, rfl⟩) fun ov s2 ⟨v, H', I2, r2, e1, e3⟩ => ?_)
      subst e1 e3
      refine thn ((pe_int (X := X) (i := if f then 1 else 0) (j := j) (pos := ip)).run pins s2 σ H' (fun v H'' => v = .int (if f then 1 else 0) ∧ H'' = H') I2 ⟨rfl, rfl⟩) fun iv s3 ⟨v3, H3, I3, r3, e1, e3⟩ => ?_
      subst e1 e3
      refine thn (ix_list _ _ pins s3 σ H3 _ _ ov iv (EPQ X B σ ρ F H3 m (fun z => Q z m)) I3 r2 r3 ⟨_, _, _, .int (if f then z1 else z0), rfl, rfl, SqL.of hD, ?_, epq_now st (.int _) (h _)⟩ (hs _ _)) fun _ _ h => epg (Ext.refl _ _ _) (epg_of h)
      cases f <;> rfl
  · exact h.elim
theorem je_dice0 {x : Str} {px ip : Pos} {j : Nat} (i : Nat) (hi : X.N[i]? = some x := by rfl) (hv : Vis X.env.scope x := by first | exact Or.inl rfl | exact Or.inr (Or.inl rfl) | exact Or.inr (Or.inr rfl)) (hd : (x == ("__debug__" : Str)) = false := by decide) (hcd : (x == ("__classdict__" : Str)) = false := by decide) (hs : PlainIx (.Constant (.int 0) j ip) := by exact fun _ _ => rfl) :
    JE X B (.Subscript (.Name x px) (.Constant (.int 0) j ip) pos) (wDice false i) := je_diceN false i hi hv hd hcd hs
theorem je_dice1 {x : Str} {px ip : Pos} {j : Nat} (i : Nat) (hi : X.N[i]? = some x := by rfl) (hv : Vis X.env.scope x := by first | exact Or.inl rfl | exact Or.inr (Or.inl rfl) | exact Or.inr (Or.inr rfl)) (hd : (x == ("__debug__" : Str)) = false := by decide) (hcd : (x == ("__classdict__" : Str)) = false := by decide) (hs : PlainIx (.Constant (.int 1) j ip) := by exact fun _ _ => rfl) :
    JE X B (.Subscript (.Name x px) (.Constant (.int 1) j ip) pos) (wDice true i) := je_diceN true i hi hv hd hcd hs
/-- x[0] = e, x[1] = e: k' the steps that are left -/
@[simp] def wDiceSet (f : Bool) (i : Nat) (te : DE) : DS := fun ρ m D => te ρ m (fun p m1 => match at' ρ i with
  | some (.val (.raw (.ref a))) => m1 a = some .dice ∧ (match p with
    | .int _ => D.nx ρ m1
    | _ => False)
  | _ => False) (D.ex ρ)
theorem js_diceN {e : Expr} {x : Str} {px ip pos' : Pos} {j : Nat} (f : Bool) (i : Nat) (he : JE X B e te) (hi : X.N[i]? = some x) (hv : Vis X.env.scope x) (hd : (x == ("__debug__" : Str)) = false) (hcd : (x == ("__classdict__" : Str)) = false)
    (hs : swapsWith e (some (.Subscript (.Name x px) (.Constant (.int (if f then 1 else 0)) j ip) pos')) pos.line X.env = pure false) :
    JS X B (.Assign [.Subscript (.Name x px) (.Constant (.int (if f then 1 else 0)) j ip) pos'] e pos) (wDiceSet f i te) := by
  refine ⟨fun D tk pins s σ F H ρ m I st h => ?_⟩
  refine wpAny_Assign_Subscript (thn (he.run D.ex tk pins s σ F H ρ m _ I st h) fun u s1 ⟨vv, vp, F1, H1, m1, I1, st1, ex1, r1, rp1, q1⟩ => ?_) hs
  simp only at q1
  split at q1
  · rename_i a ho
    obtain ⟨em, q1⟩ := q1
    split at q1
    · rename_i z
      obtain ⟨hF, z0, z1, hD⟩ := st1.mem a _ em
      have q := q1
      refine thn ((pe_var (pos := px) (i := i) hi hv hd hcd).run pins s1 σ H1 (fun v H' => v = .ref a ∧ H' = H1) I1 ⟨_, raw_val st1 ho, rfl, rfl⟩) fun ov s2 ⟨v, H', I2, r2, e1, e3⟩ => ?_
      subst e1 e3
      refine thn ((pe_int (X := X) (i := if f then 1 else 0) (j := j) (pos := ip)).run pins s2 σ H' (fun v H'' => v = .int (if f then 1 else 0) ∧ H'' = H') I2 ⟨rfl, rfl⟩) fun iv s3 ⟨v3, H3, I3, r3, e1, e3⟩ => ?_
      subst e1 e3
      obtain rfl : ov = Value.ref a := r2
      obtain ⟨t, rfl⟩ := (show ∃ t, iv = Value.int (if f then 1 else 0) t from r3)
      cases rp1
      obtain ⟨t2, rfl⟩ := (show ∃ t, u = Value.int z t from r1)
      obtain ⟨zz, its, n, rv, e⟩ := (show ObjOk X.prog X.w H3 s3.heap a (.lst [.int z0, .int z1]) from I3.hok a _ hD)
      obtain ⟨t0, t1, rfl⟩ : ∃ t0 t1, its = [.int z0 t0, .int z1 t1] := by
        cases rv with
        | cons h t =>
          obtain ⟨t0, rfl⟩ := h
          cases t with
          | cons h t =>
            obtain ⟨t1, rfl⟩ := h
            cases t
            exact ⟨t0, t1, rfl⟩
      refine PySem.W.ki_setAt (n := n) e (by cases f <;> decide) (by cases f <;> decide) (by cases f <;> simp) ?_
      refine ⟨σ, F1, _, ρ, _, I3.write (t' := s3.toks) (x := a) (e := a) (o := .lst [.int (if f then z0 else z), .int (if f then z else z1)]) (by rw [hD]; exact True.intro) (.inl rfl) (fun b q hb z => (Heap.get?_update_other _ _ (Ne.symm hb)).trans z) ⟨_, PySem.IsL.update e _⟩ ?_, st1.setDice em, ex1.fz, q⟩
      refine ⟨by simp [sizeLine_eq], [.int (if f then z0 else z) (if f then t0 else t2), .int (if f then z else z1) (if f then t2 else t1)], n, .cons ⟨_, rfl⟩ (.cons ⟨_, rfl⟩ .nil), ?_⟩
      · have := PySem.IsL.update e (·.setIfInBounds (if f then (1 : Int) else 0).toNat (.int z t2))
        cases f <;> exact this
    · exact q1.elim
  · exact q1.elim
theorem js_dice0 {e : Expr} {x : Str} {px ip pos' : Pos} {j : Nat} (i : Nat) (he : JE X B e te) (hi : X.N[i]? = some x := by rfl) (hv : Vis X.env.scope x := by first | exact Or.inl rfl | exact Or.inr (Or.inl rfl) | exact Or.inr (Or.inr rfl)) (hd : (x == ("__debug__" : Str)) = false := by decide) (hcd : (x == ("__classdict__" : Str)) = false := by decide)
    (hs : swapsWith e (some (.Subscript (.Name x px) (.Constant (.int 0) j ip) pos')) pos.line X.env = pure false := by rfl) :
    JS X B (.Assign [.Subscript (.Name x px) (.Constant (.int 0) j ip) pos'] e pos) (wDiceSet false i te) := js_diceN false i he hi hv hd hcd hs
theorem js_dice1 {e : Expr} {x : Str} {px ip pos' : Pos} {j : Nat} (i : Nat) (he : JE X B e te) (hi : X.N[i]? = some x := by rfl) (hv : Vis X.env.scope x := by first | exact Or.inl rfl | exact Or.inr (Or.inl rfl) | exact Or.inr (Or.inr rfl)) (hd : (x == ("__debug__" : Str)) = false := by decide) (hcd : (x == ("__classdict__" : Str)) = false := by decide)
    (hs : swapsWith e (some (.Subscript (.Name x px) (.Constant (.int 1) j ip) pos')) pos.line X.env = pure false := by rfl) :
    JS X B (.Assign [.Subscript (.Name x px) (.Constant (.int 1) j ip) pos'] e pos) (wDiceSet true i te) := js_diceN true i he hi hv hd hcd hs
/-- a new dice: [e, e2] -/
@[simp] def wMkDice (t : DA) : DE := fun ρ m Q R => t ρ m (fun ps m1 => match ps with
  | [.int _, .int _] => ∀ a, m1 a = none → Q (.raw (.ref a)) (mset m1 a .dice)
  | _ => False) R
theorem je_mkdice {es : List Expr} {t : DA} (h : JA X B es t) : JE X B (.List es pos) (wMkDice t) := by
  refine ⟨fun R tk pins s σ F H ρ m Q I st hq => ?_⟩
  refine wpAny_List_spliced (thn (h.run R tk pos pins s σ F H ρ m _ I st hq) fun us s1 ⟨xs, ps, F1, H1, m1, I1, st1, ex1, r, rp, _, q⟩ => ?_)
  split at q
  · rename_i ps' z0 z1 hlen
    obtain ⟨v0, v1, rfl, p0, p1⟩ := rep2 rp
    cases p0; cases p1
    have hl : us.length = 2 := r.length.symm
    have hf : H1 s1.heap.objs.size = none := I1.hok.fresh (Nat.le_refl _)
    refine ⟨by rw [hl, sizeLine_eq]; decide, ?_⟩
    have em : m1 s1.heap.objs.size = none := st1.mem_none hf
    have st2 := st1.newH (o := .lst [.int z0, .int z1]) hf
    refine ⟨.ref s1.heap.objs.size, .raw (.ref s1.heap.objs.size), F1, _, mset m1 s1.heap.objs.size .dice, I1.laid (t' := s1.toks) (o := .lst [.int z0, .int z1]) (fun b u e => Heap.get?_push_of_some _ e) (Nat.le_refl _) ⟨by simp [sizeLine_eq], us, 0, r, Heap.get?_push_size _ rfl⟩, ?_, ?_, rfl, .raw _, q _ em⟩
    · refine ⟨st2.len, st2.sub, st2.nt, st2.val, fun x o2 h => ?_, st2.apart, fun a c ec => ?_, ?_, st2.tab⟩
      · obtain ⟨b, b1, b2, b3, b4, b5⟩ := st1.own x o2 h
        have ne : b ≠ s1.heap.objs.size := fun z => by
          obtain ⟨u, hu, _⟩ := b5.at
          rw [z, hf] at hu; cases hu
        obtain ⟨b', c1, c2, c3, c4, c5⟩ := st2.own x o2 h
        rw [b1] at c1
        cases c1
        exact ⟨b, b1, c2, by rw [mset_ne ne]; exact b3, c4, c5⟩
      · by_cases z : a = s1.heap.objs.size
        · subst z
          rw [mset_same] at ec
          cases ec
          exact ⟨st1.sub.free hf, z0, z1, upd_same⟩
        · rw [mset_ne z] at ec
          exact st2.mem a c ec
      · refine ⟨st2.ext.fz, fun a u' e1 n' e' => st2.ext.kp a u' e1 n' e', st2.ext.ff, fun a u' h1 n' h2 => ?_, st2.ext.st⟩
        have ne : a ≠ s1.heap.objs.size := fun z => st1.ext.free hf u' (z ▸ h1) n'
        rw [mset_ne ne]
        exact st2.ext.mf a u' h1 n' h2
    · have e2 : Ext F1 H1 m1 F1 (L2.upd H1 s1.heap.objs.size (.lst [.int z0, .int z1])) (mset m1 s1.heap.objs.size .dice) := by
        have e0 := Ext.newH (m := m1) (o := HO.lst [V.int z0, V.int z1]) st1.sub hf
        refine ⟨e0.fz, e0.kp, e0.ff, fun a u' h1 n' h2 => ?_, e0.st⟩
        have ne : a ≠ s1.heap.objs.size := fun z => by rw [z, hf] at h1; cases h1
        rw [mset_ne ne]
        exact h2
      exact ex1.trans e2
  · exact q.elim
end
end PL


/-! The pure layer: where an exception is handled. -/
namespace PL
open PySem PySem.Spec PyProof.Rows L2 HotX L2H

section
variable {prog : Program} {w : World} {A : Around} {E : Value → Shared → Prop} {s : Shared}
theorem next_end_hot {it l x1 : Addr} {i : Nat} {items : Array Value} {Q : Option Value → Shared → Prop} (hot : HotAt A x1 s.heap) (nx : x1 ≠ it) (hit : s.heap.IsListIter it l i) (hl : s.heap.IsList l items) (hx : items[i]? = none)
    (hQ : ∀ h', Heap.ExtBut it s.heap h' → Q none { s with heap := h' }) : wpAny (model prog w) A (pyNext (.ref it)) Q E s := by
  obtain ⟨hh, o1, vs1, h1, d1, c1⟩ := hot
  obtain ⟨o, ho, hc, hd⟩ := id hit
  obtain ⟨ol, hol, _, nl, hdl⟩ := hl
  have h1' : (s.heap.update it (Obj.mapFields (·.setIfInBounds 0 Value.none))).get? x1 = some o1 := (Heap.get?_update_other _ _ (Ne.symm nx)).trans h1
  unfold pyNext
  refine wpAny_bind (wpAny_attempt (wpAny_callSpecial?_slot (name := Str.ofString "__next__") hit.typeIs slot_listiter_next (wpAny_call_entry slot_listiter_next hit.typeIs entry_listiter_next ?_ (args_listiter_next _))))
  show wpAny _ _ (field (.ref it) 0 >>= _) _ _ s
  refine wpAny_bind (wpAny_field ho hd (x := .ref l) rfl ?_)
  show wpAny _ _ (if (Value.ref l == Value.none) = true then _ else _) _ _ s
  rw [if_neg (show ¬ ((Value.ref l == Value.none) = true) from Bool.false_ne_true)]
  show wpAny _ _ (field (.ref it) 1 >>= _) _ _ s
  refine wpAny_bind (wpAny_field ho hd (x := .int i 0) rfl ?_)
  show wpAny _ _ (seqItems? (.ref l) >>= _) _ _ s
  refine wpAny_bind (wpAny_seqItems hol hdl ?_)
  simp only [Int.toNat_natCast, hx]
  refine wpAny_bind (wpAny_rule (wpAny_bind (wpAny_setField ho hd (by simp) ?_)))
  have ext0 : Heap.ExtBut it s.heap (s.heap.update it (Obj.mapFields (·.setIfInBounds 0 Value.none))) := (Heap.SameBut.update ..).extBut
  have hsz : it < (s.heap.update it (Obj.mapFields (·.setIfInBounds 0 Value.none))).objs.size := by rw [Heap.size_update]; exact Heap.lt_size ho
  generalize s.heap.update it (Obj.mapFields (·.setIfInBounds 0 Value.none)) = h0 at *
  show wpAny _ _ (newExc (.type "StopIteration") [] >>= _) _ _ _
  refine wpAny_bind ?_
  simp only [newExc, newTuple]
  refine wpAny_bind (wpAny_newObj_type ?_ (by size_fits))
  refine wpAny_bind (m := firstArgMember _ _) (wpAny_of_eq (a := Value.none) (by first | rfl | (simp only [firstArgMember]; rfl)) ?_)
  refine wpAny_newObj_type ?_ (by size_fits)
  refine raiseNew_hot (x1 := x1) ⟨hh, o1, vs1, Heap.get?_push_of_some _ (Heap.get?_push_of_some _ h1'), d1, c1⟩ (Nat.ne_of_lt (Heap.lt_size (Heap.get?_push_of_some _ h1'))) (Heap.get?_push_size _ rfl) rfl (by first | (simp; done) | (simp; omega) | (simp only [Array.size_append]; simp; omega)) ?_
  refine wpAny_bind (wpAny_isInstance (T := "StopIteration") (b := true) ⟨_, Heap.get?_update_self _ (Heap.get?_push_size _ rfl) rfl, rfl⟩ isSubtype_stop ?_)
  refine wpAny_pure (hQ _ fun b ob hb e => ?_)
  have e1 := ext0 b ob hb e
  rw [Heap.get?_update_other _ _ (Nat.ne_of_gt (Heap.lt_size (Heap.get?_push_of_some _ e1)))]
  exact Heap.get?_push_of_some _ (Heap.get?_push_of_some _ e1)
/-- a list is walked while an exception is handled -/
theorem walks_hot {x1 : Addr} {o1 : Obj} {vs1 : Array Value} (hh : A.handled = some (.ref x1)) (d1 : o1.data = .fields vs1) (c1 : vs1[2]? = some .none) (I ax : Addr) (hne : ax ≠ I) (nx : x1 ≠ I) (items : Array Value) :
    Walks prog w A I [I, ax, x1] [I] items.size (fun i v => items[i]? = some v) (fun i h => h.IsListIter I ax i ∧ h.IsList ax items ∧ h.get? x1 = some o1) where
  sub := fun b hb => by simp at hb; simp [hb]
  frame := fun _ _ _ st hk => ⟨st.1.at fun o e => hk I (by simp) o e, st.2.1.at fun o e => hk ax (by simp) o e, hk x1 (by simp) _ st.2.2⟩
  item := fun i s Q E hi st hQ => by
    refine wpAny_pyNext_list_item st.1 st.2.1 (x := items[i]) (by simp [hi]) fun h' hit' hs' => ?_
    exact hQ _ h' s.toks (by simp [hi]) ⟨hit', st.2.1.extBut hs'.extBut hne, hs'.extBut x1 _ nx st.2.2⟩ fun b o hb e => hs'.extBut b o (fun h => hb (by simp [h])) e
  done := fun s Q E st hQ => next_end_hot ⟨hh, o1, vs1, st.2.2, d1, c1⟩ nx st.1 st.2.1 (by simp) fun h' he' => hQ h' s.toks fun b o hb e => he' b o (fun h => hb (by simp [h])) e
  self := fun _ _ _ _ st hQ => wpAny_pyIter_listiter st.1 hQ
end

/-! ### a def called where an exception is handled: its context -/
/-- the context bears the handled exception p -/
structure HotP (X : Cx) (a : Addr) (oe : Obj) (C : Addr) : Prop where
  hd : X.A.handled = some (.ref a)
  pn : (a, oe) ∈ X.pn
  cls : oe.cls = .ref C
  dict : oe.dict = none
  fld : ∃ vs : Array Value, oe.data = .fields vs ∧ vs[2]? = some .none
section
variable {X : Cx} {B : Bs} {a C : Addr} {oe : Obj} {pos : Pos} {te : DE}
theorem HotP.get (hp : HotP X a oe C) {pins : List (Addr × Obj)} {σ : L2.St} {H : Hp} {s : Shared} (I : Inv X pins σ H s) : s.heap.get? a = some oe ∧ H a = none := by
  have h := I.pin (a, oe) (List.mem_append_left _ hp.pn)
  exact ⟨h.1, h.2.1⟩
/-- isinstance(e, c): e the handled exception -/
@[simp] def wIsE (a : Addr) (i : Nat) (b : Bool) : DE := fun ρ m Q R => at' ρ i = some (.val (.raw (.ref a))) ∧ Q (.bl b) m
theorem je_isE {x y : Str} {p p2 p3 : Pos} {cv : Value} {b : Bool} (i : Nat) (hp : HotP X a oe C) (EC : ExcC X.K C) (hk : PySem.W.kitOne X.K (.ref C) cv = some b) (hm : X.mg "isinstance" = none)
    (hy : ∀ {E : Value → Shared → Prop} {Q : Value → Shared → Prop} {pins : List (Addr × Obj)} {s : Shared} {σ : L2.St} {H : Hp}, Inv X pins σ H s → Q cv s → wpAny (model X.prog X.w) X.A (eval (.Name y p3) X.env) Q E s)
    (hN : X.N[i]? = some x := by rfl) (hv : Vis X.env.scope x := by first | exact Or.inl rfl | exact Or.inr (Or.inl rfl) | exact Or.inr (Or.inr rfl)) (hd : (x == ("__debug__" : Str)) = false := by decide) (hcd : (x == ("__classdict__" : Str)) = false := by decide) (hg : Gl X "isinstance" := by rfl)
    (he : starEach [.Name x p2, .Name y p3] X.env = (false, eval (.Name x p2) X.env) :: starEach [.Name y p3] X.env := by rfl) :
    JE X B (.Call (.Name "isinstance" p) [.Name x p2, .Name y p3] [] pos) (wIsE a i b) := by
  refine ⟨fun R tk pins s σ F H ρ m Q I st h => ?_⟩
  obtain ⟨ho, q⟩ := h
  refine wpAny_Call_Name_kw (ld_blt (u := .builtin "isinstance") I hg hm (by decide +kernel) ?_ (by decide) (by decide))
  refine PyProof.Rows.callWith_builtin1 ?_ he (by rfl)
  rw [he]
  refine Calls.spliced_cons (thn ((pe_var (pos := p2) (i := i) hN hv hd hcd).run pins s σ H (fun v H' => v = .ref a ∧ H' = H) I ⟨_, raw_val st ho, rfl, rfl⟩) fun u s1 ⟨v, H', I1, r1, e1, e3⟩ => ?_)
  subst e1 e3
  obtain rfl : u = Value.ref a := r1
  show wpAny _ _ (spliced ((false, eval (.Name y p3) X.env) :: backTo pos (starEach [] X.env))) _ _ s1
  refine Calls.spliced_cons (hy I1 (Calls.spliced_nil ?_))
  have J : PySem.W.InstAt s1.heap a oe C none := by
    obtain ⟨vs, hv, _⟩ := hp.fld
    have h1 := hp.cls
    have h2 := hp.dict
    have h0 := (hp.get I1).1
    obtain ⟨oc, od, oda, osl⟩ := oe
    dsimp only at h1 h2 hv
    subst h1 h2 hv
    exact ⟨h0, rfl, rfl, trivial⟩
  exact PySem.W.kia_one (PySem.W.handS_kitx_exc EC.hg EC.hk EC.hs EC.hd EC.ha EC.hn EC.ht EC.hm) I1.kIn J hk (fun z => nomatch z) fun tk => ⟨.bl b, .bl b, F, _, m, I1.kept (t' := tk) fun _ _ z => z, st, Ext.refl _ _ _, rfl, .bl b, q⟩
/-- how many are true -/
def bInts : List PV → Option (List Int)
  | [] => some []
  | .bl b :: ps => (bInts ps).map ((if b then 1 else 0) :: ·)
  | _ :: _ => none
theorem presum_get (ns : List Int) : ∀ k, k ≤ ns.length → preSum (fun i => ns.getD i 0) k = (ns.take k).sum
  | 0, _ => by simp [preSum]
  | k + 1, h => by
    have hk : k < ns.length := h
    rw [preSum, presum_get ns k (by omega), List.take_succ, List.sum_append]
    simp [List.getD, List.getElem?_eq_getElem hk]
/-- the values of bools, and of what int makes of them -/
theorem bools_back {K : PySem.W.Frag} {F : Hp} : ∀ {vs : List V} {ps : List PV} {us : List Value} {ns : List Int}, RepAll K F vs ps → Vals vs us → bInts ps = some ns → us.length = ns.length ∧ ∀ (j : Nat) (u : Value), us[j]? = some u → ∃ b, u = .bool b ∧ ns.getD j 0 = if b then 1 else 0
  | _, _, _, _, .nil, .nil, h => by cases h; exact ⟨rfl, fun j u e => by simp at e⟩
  | _, _, _, ns, .cons (p := p) r t, .cons rv tv, h => by
    cases p with
    | bl b =>
      simp only [bInts, Option.map_eq_some_iff] at h
      obtain ⟨ns', h1, rfl⟩ := h
      obtain ⟨g1, g2⟩ := bools_back t tv h1
      refine ⟨by simp [g1], fun j u e => ?_⟩
      cases j with
      | zero =>
        simp at e
        subst e
        cases r
        cases (show _ = Value.bool b from rv)
        exact ⟨b, rfl, by simp⟩
      | succ j =>
        obtain ⟨b', e1, e2⟩ := g2 j u (by simpa using e)
        exact ⟨b', e1, by simpa using e2⟩
    | _ => cases h
/-- sum([int(f) for f in x]) -/
@[simp] def wSumB (i : Nat) : DE := fun ρ m Q R => match at' ρ i with
  | some (.val (.lst ps)) => ∃ ns, bInts ps = some ns ∧ Q (.int ns.sum) m
  | _ => False
theorem je_sumB {x f : Str} {p p2 p3 p4 p5 p6 p7 : Pos} {scope : Scope} (i : Nat) (hp : HotP X a oe C) (hms : X.mg "sum" = none) (hmi : X.mg "int" = none)
    (hfree : ∀ y ∈ scope.names, y.2 ≠ .free) (hcell : ∀ y ∈ scope.names, y.2 ≠ .cell) (hkind : scope.kind = .function) (hnames : ∀ y ∈ scope.names, y.2 = .local → scope.names.lookup y.1 = some .local) (hf : scope.names.lookup f = some .local) (hint : scope.names.lookup ("int" : Str) = some .globalImplicit) (hdf : (f == ("__debug__" : Str)) = false)
    (hN : X.N[i]? = some x := by rfl) (hv : Vis X.env.scope x := by first | exact Or.inl rfl | exact Or.inr (Or.inl rfl) | exact Or.inr (Or.inr rfl)) (hd : (x == ("__debug__" : Str)) = false := by decide) (hcd : (x == ("__classdict__" : Str)) = false := by decide) (hg : Gl X "sum" := by rfl) :
    JE X B (.Call (.Name "sum" p) [.ListComp (.Call (.Name "int" p2) [.Name f p3] [] p4) [⟨.Name f p5, .Name x p6, [], 0⟩] scope p7] [] pos) (wSumB i) := by
  refine ⟨fun R tk pins s σ F H ρ m Q I st h => ?_⟩
  unfold wSumB at h
  split at h
  · rename_i ps ho
    obtain ⟨ns, hns, q⟩ := h
    refine wpAny_Call_Name_kw (ld_blt (u := .builtin "sum") I hg hms (by decide +kernel) ?_ (by decide) (by decide))
    refine PyProof.Rows.callWith_builtin1 ?_ (by rfl) (by rfl)
    show wpAny _ _ (spliced ((false, eval (.ListComp (.Call (.Name "int" p2) [.Name f p3] [] p4) [⟨.Name f p5, .Name x p6, [], 0⟩] scope p7) X.env) :: backTo pos (starEach [] X.env))) _ _ s
    refine Calls.spliced_cons ?_
    obtain ⟨v, hσ, hr⟩ := st.val i _ (at_get ho)
    obtain ⟨vs1, hd1, hc1⟩ := hp.fld
    refine wpAny_ListComp_walk (fun _ => true) (fun v y => ∃ b t, v = .bool b ∧ y = .int (if b then 1 else 0) t) hfree hcell hkind hnames hf ?_
    refine thn ((pe_var (pos := p6) (i := i) hN hv hd hcd).run pins s σ H (fun v' H' => v' = v ∧ H' = H) I ⟨_, hσ, rfl, rfl⟩) fun xv s1 ⟨v', H', I1, r1, e1, e3⟩ => ?_
    subst e1 e3
    cases hr with
    | @lst ax xs _ hF ra =>
      obtain rfl : xv = Value.ref ax := r1
      obtain ⟨its, rv, hl, hz⟩ := I1.list (.inl (.inl (st.sub _ _ hF)))
      obtain ⟨hlen, hget⟩ := bools_back ra rv hns
      have hx1 := (hp.get I1).1
      refine wpAny_pyIter_list hl.isList ?_
      have ne1 : ax ≠ s1.heap.objs.size := by
        obtain ⟨ol, e, _⟩ := hl.isList
        exact Nat.ne_of_lt (Heap.lt_size e)
      have ne2 : a ≠ s1.heap.objs.size := Nat.ne_of_lt (Heap.lt_size hx1)
      refine ⟨_, _, _, _, _, _, rfl, walks_hot hp.hd hd1 hc1 s1.heap.objs.size ax ne1 ne2 its.toArray, by rw [List.size_toArray, ← rv.length]; exact hz, ⟨⟨_, Heap.get?_push_size _ rfl, rfl, rfl⟩, hl.isList.at fun o e => Heap.get?_push_of_some _ e, Heap.get?_push_of_some _ hx1⟩, fun b hb => ?_, ⟨fun C' j u s3 m3 E' hP hn hm hk htk => wpAny_tests_nil ⟨rfl, s3.heap, s3.toks, rfl, fun _ _ e => e⟩, fun C' j u s3 m3 E' hP hpv hn hm hk htk => ?_⟩, fun D h' tk ys vs hD hlD hpD hvl hvP hF2 hk => ?_⟩
      · simp only [Heap.size_push]
        rcases List.mem_cons.mp hb with rfl | hb
        · exact Nat.lt_succ_self _
        · rcases List.mem_cons.mp hb with rfl | hb
          · obtain ⟨ol, e, _⟩ := hl.isList
            exact Nat.lt_succ_of_lt (Heap.lt_size e)
          · rw [List.mem_singleton.mp hb]
            exact Nat.lt_succ_of_lt (Heap.lt_size hx1)
      · -- int(f)
        have hP' : its[j]? = some u := by simpa using hP
        obtain ⟨b, rfl, _⟩ := hget j u hP'
        have kp : ∀ b o, X.base.get? b = some o → s3.heap.get? b = some o := fun b o e => by
          have e1 := I1.bk b o e
          refine hk b o (fun hm => ?_) (Heap.get?_push_of_some _ e1)
          rw [List.mem_singleton.mp hm] at e1
          exact Nat.lt_irrefl _ (Heap.lt_size e1)
        obtain ⟨mb, hb1, hb2⟩ := I1.mod.blt
        refine wpAny_Call_Name_kw (Calls.Name_function_global (by exact hkind) hint (Calls.loadGlobal_builtin (mg := X.mg) (by show s3.heap.Ns X.env.globals X.mg; rw [I1.ok.glob]; exact I1.mod.glob.keeps kp) hmi (by show s3.heap.Ns X.env.builtins mb; rw [I1.ok.blt]; exact hb1.keeps kp) ((hb2 "int" (by decide)).trans (show bootBuiltins ("int" : Str) = some (.type "int") by decide +kernel)) ?_) (by decide))
        refine PyProof.Rows.callWith_type1 ?_ (by rfl) (by rfl)
        show wpAny _ _ (spliced ((false, eval (.Name f p3) _) :: backTo p4 (starEach [] _))) _ _ s3
        refine Calls.spliced_cons (wpAny_Name (wpAny_loadName_local (by exact hkind) hf hn hm (Calls.spliced_nil ?_)) hdf)
        exact call_int_bool ⟨⟨b, _, rfl, rfl⟩, s3.heap, s3.toks + 1, rfl, fun _ _ e => e⟩
      · -- the sum
        refine Calls.spliced_nil ?_
        have kp : ∀ b o, s1.heap.get? b = some o → h'.get? b = some o := fun b o e => hk b o (fun hm => by
          rw [List.mem_singleton.mp hm] at e
          exact Nat.lt_irrefl _ (Heap.lt_size e)) (Heap.get?_push_of_some _ e)
        have I2 : Inv X pins σ H' { s1 with heap := h', toks := tk } := I1.kept kp
        have hys : ys.toList.length = ns.length := by rw [← hF2.length, List.filter_eq_self.mpr (fun _ _ => rfl), hvl, List.size_toArray]; exact hlen
        have hyv : ∀ (j : Nat) (y : Value), ys.toList[j]? = some y → ∃ t, y = .int (ns.getD j 0) t := fun j y e => by
          rw [List.filter_eq_self.mpr (fun _ _ => rfl)] at hF2
          have key : ∀ {l : List Value} {l' : List Value} (j : Nat) (y : Value), Paired (fun v y => ∃ b t, v = Value.bool b ∧ y = Value.int (if b then 1 else 0) t) l l' → l'[j]? = some y → ∃ u b t, l[j]? = some u ∧ u = Value.bool b ∧ y = Value.int (if b then 1 else 0) t := by
            intro l l' j y P e
            induction P generalizing j with
            | nil => simp at e
            | cons h t ih =>
              cases j with
              | zero => simp at e; subst e; obtain ⟨b, t, e1, e2⟩ := h; exact ⟨_, b, t, rfl, e1, e2⟩
              | succ j => simpa using ih j (by simpa using e)
          obtain ⟨u, b, t, e1, e2, e3⟩ := key j y hF2 e
          have hPj := hvP j u e1
          obtain ⟨b', e4, e5⟩ := hget j u (by simpa using hPj)
          rw [e2] at e4
          cases e4
          exact ⟨t, by rw [e3, e5]⟩
        have hx2 : h'.get? a = some oe := kp a oe hx1
        have lD : D < h'.objs.size := by
          obtain ⟨o, e, _⟩ := hlD
          exact Heap.lt_size e
        refine call_sum_walkG (wpAny_pyIter_list hlD ?_)
        refine ⟨_, _, _, _, _, _, fun i => ns.getD i 0, rfl, walks_hot (A := X.A.in1) hp.hd hd1 hc1 h'.objs.size D (Nat.ne_of_lt lD) (Nat.ne_of_lt (Heap.lt_size hx2)) ys, ⟨⟨_, Heap.get?_push_size _ rfl, rfl, rfl⟩, hlD.at fun o e => Heap.get?_push_of_some _ e, Heap.get?_push_of_some _ hx2⟩, fun b hb => ?_, fun j y e => hyv j y (by simpa using e), fun h2 tk2 t2 hk2 => ?_⟩
        · simp only [Heap.size_push]
          rcases List.mem_cons.mp hb with rfl | hb
          · exact Nat.lt_succ_self _
          · rcases List.mem_cons.mp hb with rfl | hb
            · exact Nat.lt_succ_of_lt lD
            · rw [List.mem_singleton.mp hb]
              exact Nat.lt_succ_of_lt (Heap.lt_size hx2)
        · have es : preSum (fun i => ns.getD i 0) ys.size = ns.sum := by
            have : ys.size = ns.length := by rw [← hys, Array.length_toList]
            rw [this, presum_get ns _ (Nat.le_refl _), List.take_length]
          rw [es]
          refine ⟨.int ns.sum, .int ns.sum, F, H', m, I2.kept (t' := tk2) fun b o e => hk2 b o (fun hm => ?_) (Heap.get?_push_of_some _ e), st, Ext.refl _ _ _, ⟨_, rfl⟩, .int _, q⟩
          rw [List.mem_singleton.mp hm] at e
          exact Nat.lt_irrefl _ (Heap.lt_size e)
  · exact h.elim
end
end PL


namespace PL
open PySem PySem.Spec PyProof.Rows L2

/-! ### list.index, flat items -/
def flP : PV → Bool
  | .non => true
  | .bl _ => true
  | .int _ => true
  | .str _ => true
  | _ => false
def fEq : PV → PV → Bool
  | .non, .non => true
  | .bl a, .bl b => a == b
  | .bl a, .int b => (if a then 1 else 0) == b
  | .int a, .bl b => a == (if b then 1 else 0)
  | .int a, .int b => a == b
  | .str a, .str b => a == b
  | _, _ => false
def idxP : List PV → PV → Option Nat
  | [], _ => none
  | q :: qs, p => if fEq q p then some 0 else (idxP qs p).map (· + 1)
theorem idxP_spec : ∀ {ps : List PV} {p : PV} {j : Nat}, idxP ps p = some j → (∃ q, ps[j]? = some q ∧ fEq q p = true) ∧ ∀ (k : Nat) q, k < j → ps[k]? = some q → fEq q p = false
  | q :: qs, p, j, h => by
    simp only [idxP] at h
    split at h
    · cases h
      rename_i e
      exact ⟨⟨q, rfl, e⟩, fun k q hk => absurd hk (Nat.not_lt_zero _)⟩
    · rename_i e
      simp only [Option.map_eq_some_iff] at h
      obtain ⟨i, hi, rfl⟩ := h
      obtain ⟨⟨z, h1, h2⟩, h3⟩ := idxP_spec hi
      refine ⟨⟨z, by simpa using h1, h2⟩, fun k y hk hy => ?_⟩
      cases k with
      | zero => simp at hy; subst hy; exact Bool.eq_false_iff.mpr e
      | succ k => exact h3 k y (by omega) (by simpa using hy)
theorem rep_flat {K : PySem.W.Frag} {F : Hp} {v : V} {p : PV} (r : Rep K F v p) (h : flP p = true) : flatV v = true := by
  cases r <;> first | rfl | cases h
theorem reps_flat {K : PySem.W.Frag} {F : Hp} : ∀ {vs : List V} {ps : List PV}, RepAll K F vs ps → ps.all flP = true → vs.all flatV = true
  | _, _, .nil, _ => rfl
  | _, _, .cons r t, h => by
    simp only [List.all_cons, Bool.and_eq_true] at h ⊢
    exact ⟨rep_flat r h.1, reps_flat t h.2⟩
theorem rep_feq {K : PySem.W.Frag} {F : Hp} {v u : V} {p q : PV} (r : Rep K F v p) (r' : Rep K F u q) (h : flP p = true) (h' : flP q = true) : eqV v u = fEq p q := by
  cases r <;> first | (cases h; done) | (cases r' <;> first | (cases h'; done) | rfl)
section
variable {X : Cx} {B : Bs} {o e : Expr} {to te : DE}
@[simp] def wIndex (to te : DE) : DE := fun ρ m Q R => to ρ m (fun o m1 => match o with
  | .lst ps => te ρ m1 (fun p m2 => ∃ j, flP p = true ∧ ps.all flP = true ∧ idxP ps p = some j ∧ Q (.int (j : Nat)) m2) R
  | _ => False) R
theorem je_index {apos cpos : Pos} (ho : JE X B o to) (he : JE X B e te) (hbase : attributeBase o "index" X.env (eval o X.env) = eval o X.env := by rfl)
    (hfew : ((backTo cpos (starEach [e] X.env)).all (fun x => !x.1) && (backToKw cpos (keywordEach [] X.env)).all (fun x => x.1.isSome)
      && decide (([e] : List Expr).length + ([] : List Keyword).length + (if ([] : List Keyword).isEmpty then 0 else 1) < 30)) = true := by rfl)
    (hline : (apos.endLine == cpos.line) = true := by rfl) (hst : starEach [e] X.env = (false, eval e X.env) :: starEach [] X.env := by rfl) (hplain : (backTo cpos (starEach [] X.env)).any (·.1) = false := by rfl) :
    JE X B (.Call (.Attribute o "index" apos) [e] [] cpos) (wIndex to te) := by
  refine .of fun R tk => ⟨_, pe_bm PySem.F.plainAttrs_list PySem.F.slot_list_index PySem.F.type_list_index mt_index (ho.pe tk) (pa_cons (he.pe tk) pa_nil hst) hbase hfew hline hst hplain, fun F σ H ρ m Q st h => ?_⟩
  refine ⟨F, ρ, m, _, st, h, fun v p F1 H1 m1 st1 ex1 rp1 q => ?_⟩
  cases rp1 with
  | @lst a xs ps hF ra =>
    have hs : SqL X.K H1 a xs := .inl (.inl (st1.sub _ _ hF))
    refine ⟨.inl ⟨rfl, xs, hs⟩, F1, ρ, m1, _, st1, q, fun v2 p2 F2 H2 m2 st2 ex2 rp2 q2 => ?_⟩
    obtain ⟨j, h1, h2, h3, q2⟩ := q2
    obtain ⟨⟨z, e1, e2⟩, e3⟩ := idxP_spec h3
    have ra2 := ra.mono ex2.fz
    obtain ⟨zv, e4, rz⟩ := ra2.get e1
    have fz : flP z = true := List.all_eq_true.mp h2 z (List.mem_of_getElem? e1)
    refine ⟨a, xs, v2, j, zv, rfl, rfl, .inl (.inl (st2.sub _ _ (ex2.fz _ _ hF))), rep_flat rp2 h1, reps_flat ra2 h2, e4, by rw [rep_feq rz rp2 fz h1]; exact e2, fun k z' hk hz' => ?_, .int j, F2, m2, st2, ex1.trans ex2, .int _, q2⟩
    obtain ⟨y, e5, ry⟩ := ra2.get' hz'
    rw [rep_feq ry rp2 (List.all_eq_true.mp h2 y (List.mem_of_getElem? e5)) h1]
    exact e3 k y hk e5
  | _ => exact q.elim
end
end PL


/-! The pure layer: a lambda without parameters, handed to a def that calls it in a try. -/
namespace PL
open PySem PySem.Spec PyProof.Rows L2 HotX L2H

/-! ### what a lambda sees: the values alone -/
@[simp] def vals (ρ : PEnv) : PEnv := ρ.map fun s => match s with | some (.val p) => some (.val p) | _ => none
theorem at_vals : ∀ (ρ : PEnv) (i : Nat), at' (vals ρ) i = match at' ρ i with | some (.val p) => some (.val p) | _ => none
  | [], _ => rfl
  | some (.val p) :: r, 0 => rfl
  | some (.own o) :: r, 0 => rfl
  | none :: r, 0 => rfl
  | x :: r, n + 1 => at_vals r n
section
variable {w : World} {K : PySem.W.Frag} {B : Bs} {F H : Hp} {σ : L2.St} {ρ : PEnv} {m : Mem}
theorem PSt.rebase (st : PSt w K B F σ H ρ m) : PSt w K ⟨B.P, F, H, m, B.T⟩ F σ H (vals ρ) m := by
  have key : ∀ {i : Nat} {v : SV}, (vals ρ)[i]? = some (some v) → ∃ p, v = .val p ∧ ρ[i]? = some (some (.val p)) := fun {i v} h => by
    unfold vals at h
    rw [List.getElem?_map] at h
    cases e : ρ[i]? with
    | none => rw [e] at h; cases h
    | some o =>
      rw [e] at h
      cases o with
      | none => cases h
      | some o => cases o with
        | val p => cases h; exact ⟨p, rfl, rfl⟩
        | own o => cases h
  refine ⟨by unfold vals; rw [List.length_map]; exact st.len, st.sub, st.nt, fun i p h => ?_, fun i o h => ?_, fun i j o o' a _ h => ?_, st.mem, Ext.refl _ _ _, st.tab⟩
  · obtain ⟨q, e, h'⟩ := key h
    cases e
    exact st.val i p h'
  · obtain ⟨q, e, _⟩ := key h
    cases e
  · obtain ⟨q, e, _⟩ := key h
    cases e
theorem GSt.pst {F' H' : Hp} {m' : Mem} (st : PSt w K B F σ H ρ m) (g : GSt w K ⟨B.P, F, H, m, B.T⟩ F' H' m') : PSt w K B F' σ H' ρ m' := st.step g.sub g.nt g.ext g.mem g.tab
/-- the tables may have grown -/
theorem PSt.grown {H1 : Hp} (st : PSt w K B F σ H ρ m) (e : LamX.ExtN H H1) (t : LamX.Tabs B.T H1) : PSt w K B F σ H1 ρ m := by
  have k : ∀ a u, H a = some u → noTbl u → H1 a = some u := fun a u h n => e a u h n
  refine st.step (fun a u h => k a u (st.sub a u h) (st.nt a u h)) st.nt ⟨Same.refl F, fun a u h n _ => k a u h n, fun _ _ _ _ h => h, fun _ _ _ _ h => h, fun a u h n => ⟨u, k a u h n, n⟩⟩ (fun a c h => ?_) t
  obtain ⟨h1, h2⟩ := st.mem a c h
  exact ⟨h1, h2.keep (Same.refl F) k fun b y hb _ => hb⟩
end

/-! ### the lambda's context, its call -/
def lamN (X : Cx) (A : Around) (outer : List Env) (s : Shared) (H : Hp) (E : XK) (scope : Scope) (f c' : Addr) : Cx :=
  (LamX.lamCx X A outer s H E scope f c').wish fun e s' => wpAny (model X.prog X.w) (A.deeper (LamX.lamEnv X scope s.heap.objs.size f c')) (leaving (LamX.lamEnv X scope s.heap.objs.size f c') e) (fun _ s'' => L2N.CX X.prog X.w outer H s E e s'') (fun e' s'' => L2N.CX X.prog X.w outer H s E e' s'') s'
/-- what an exception of it leaves -/
def EL (w : World) (K : PySem.W.Frag) (B : Bs) (Rp : KX) : XK := fun cls d H' => ∃ C F' m', cls = .ref C ∧ d = none ∧ GSt w K B F' H' m' ∧ Rp C m'
def tAct (X : Cx) (B : Bs) (i : Nat) (f c' : Addr) (q : Str) (σ : L2.St) (t : DE) (W : WX) : TE := fun σZ HZ Q => σZ[i]? = some (some (.ref f)) ∧ HZ c' = some (LamX.CodeO c' q) ∧ ∃ F0 ρ m0 Qp Rp, PSt X.w X.K ⟨B.P, F0, HZ, m0, B.T⟩ F0 σ HZ ρ m0 ∧ t ρ m0 Qp Rp ∧
  (∀ v p F' H' m', GSt X.w X.K ⟨B.P, F0, HZ, m0, B.T⟩ F' H' m' → Rep X.K F' v p → Qp p m' → Q v H') ∧ (∀ C F' H' m', GSt X.w X.K ⟨B.P, F0, HZ, m0, B.T⟩ F' H' m' → Rp C m' → W (.ref C) none σZ H')
section
variable {X : Cx} {B : Bs} {pins : List (Addr × Obj)} {σ : L2.St} {H : Hp} {s : Shared}
theorem pe_lam {CXg : CXT} {Eg : XK} {Ng : List Str} {qg : Str} {sg : Scope} {g f c' : Addr} {cdg pm ctv : Value} {params : Arguments} {body : Expr} {scope : Scope} {k i : Nat} {a : Str} {pn : List (Addr × Obj)} {xe : Value → Shared → Prop} {W : WX} {t : DE} {p1 p2 : Pos}
    (I : Inv X pins σ H s) (L : LamX.LamS X.env.scope scope) (hf : s.heap.get? f = some (PySem.W.kla_obj "<lambda>" (X.env.qual ++ "<lambda>") params body scope (cloFrom X.env.cells scope.names []) pm c' ctv)) (hfn : H f = none) (hfr : f ∉ frs X.stack)
    (hbind : bindArgs (PySem.W.kla_fn "<lambda>" (X.env.qual ++ "<lambda>") params body scope (cloFrom X.env.cells scope.names []) pm (.ref c') ctv) ⟨[], []⟩ = pure [])
    (tk : L2N.Takes ((cxOf CXg X.prog X.w X.K X.mg X.base Ng qg sg g cdg X.A X.stack s H Eg).tr pn xe) W) (hr : Room (k + 1) (X.A.deeper (envOfC qg sg s.heap.objs.size g cdg)))
    (hbody : ∀ (A : Around) (outer : List Env) (s : Shared) (H F0 : Hp) (m0 : Mem) (E : XK) (f c' : Addr), Room k (A.deeper (LamX.lamEnv X scope s.heap.objs.size f c')) → JE (lamN X A outer s H E scope f c') ⟨B.P, F0, H, m0, B.T⟩ body t)
    (hN : Ng[i]? = some a) (hv : Vis sg a) (hd : (a == ("__debug__" : Str)) = false) (hcd : (a == ("__classdict__" : Str)) = false) :
    PE ((cxOf CXg X.prog X.w X.K X.mg X.base Ng qg sg g cdg X.A X.stack s H Eg).tr pn xe) (.Call (.Name a p1) [] [] p2) (tAct X B i f c' (X.env.qual ++ "<lambda>") σ t W) := by
  refine ⟨fun pinsZ sZ σZ HZ Q IZ h => ?_⟩
  obtain ⟨hs, hc, F0, ρ, m0, Qp, Rp, st, ht, hq, hx⟩ := h
  refine wpAny_Call_Name_kw (thn ((pe_var (pos := p1) (i := i) hN hv hd hcd).run pinsZ sZ σZ HZ (fun v H1 => v = .ref f ∧ H1 = HZ) IZ ⟨.ref f, hs, rfl, rfl⟩) fun u s1 ⟨v, H1, I1, r1, ev, eH⟩ => ?_)
  subst ev
  rw [eH] at I1
  obtain rfl : u = Value.ref f := r1
  have of1 := I1.base.keep f _ hf hfn hfr (fun z => nomatch (show f ∈ ([] : List Addr) from z))
  refine PySem.W.callWith_F0 ⟨_, _, _, _, of1⟩ ?_
  obtain ⟨⟨oc, vs, t0, hoc, hdc, hvc⟩, _, _⟩ := I1.hok c' _ hc
  have rc : codeAny (model X.prog X.w) (X.A.deeper (envOfC qg sg s.heap.objs.size g cdg)) (.call (.ref f) ⟨[], []⟩) (CR (L2N.CX X.prog X.w) (envOfC qg sg s.heap.objs.size g cdg :: X.stack) X.prog X.w HZ s1 Q (EL X.w X.K ⟨B.P, F0, HZ, m0, B.T⟩ Rp)) s1 := by
    refine PySem.W.kla_callFunE hr.depth of1 rfl L.co L.gen rfl ⟨c', oc, vs, t0, rfl, hoc, hdc, hvc⟩ ?_
    rw [hbind]
    refine wpAny_pure (wpAny_newFunctionEnv (fun y hy => (L.own y hy).2) (fun y hy => absurd hy (by simp)) (fun h₁ hns hsb => ⟨I1.nolimit.fresh _ hsb, ?_⟩) L.kind)
    show codeAny _ _ (.expr body (LamX.lamEnv X scope s1.heap.objs.size f c')) _ _
    have J := (LamX.lam_start2 (E := EL X.w X.K ⟨B.P, F0, HZ, m0, B.T⟩ Rp) (f := f) (c' := c') (tk := s1.toks + ([] : List (Str × Value)).length) I L I1.env0 hr.hd I1.base hns (fun b o e => hsb.extBut b o (Nat.ne_of_lt (Heap.lt_size e)) (Heap.get?_push_of_some _ e))).wish
      (fun e s' => wpAny (model X.prog X.w) ((X.A.deeper (envOfC qg sg s.heap.objs.size g cdg)).deeper (LamX.lamEnv X scope s1.heap.objs.size f c')) (leaving (LamX.lamEnv X scope s1.heap.objs.size f c') e) (fun _ s'' => L2N.CX X.prog X.w (envOfC qg sg s.heap.objs.size g cdg :: X.stack) HZ s1 (EL X.w X.K ⟨B.P, F0, HZ, m0, B.T⟩ Rp) e s'') (fun e' s'' => L2N.CX X.prog X.w (envOfC qg sg s.heap.objs.size g cdg :: X.stack) HZ s1 (EL X.w X.K ⟨B.P, F0, HZ, m0, B.T⟩ Rp) e' s'') s')
    have jb := hbody (X.A.deeper (envOfC qg sg s.heap.objs.size g cdg)) (envOfC qg sg s.heap.objs.size g cdg :: X.stack) s1 HZ F0 m0 (EL X.w X.K ⟨B.P, F0, HZ, m0, B.T⟩ Rp) f c' (hr.deeper _)
    have tkN : L2N.Takes (lamN X (X.A.deeper (envOfC qg sg s.heap.objs.size g cdg)) (envOfC qg sg s.heap.objs.size g cdg :: X.stack) s1 HZ (EL X.w X.K ⟨B.P, F0, HZ, m0, B.T⟩ Rp) scope f c') (WR (lamN X (X.A.deeper (envOfC qg sg s.heap.objs.size g cdg)) (envOfC qg sg s.heap.objs.size g cdg :: X.stack) s1 HZ (EL X.w X.K ⟨B.P, F0, HZ, m0, B.T⟩ Rp) scope f c') ⟨B.P, F0, HZ, m0, B.T⟩ (fun _ => Rp)) :=
      (L2N.takes_of (E := EL X.w X.K ⟨B.P, F0, HZ, m0, B.T⟩ Rp) rfl rfl rfl rfl).imp fun c d σ' H' ⟨F', ρ', m', C, e1, e2, st', q⟩ => ⟨C, F', m', e1, e2, st'.g, q⟩
    refine PySem.W.kla_codeExpr (wpAny_mono (jb.run (fun _ => Rp) tkN [] _ σ F0 HZ ρ m0 Qp J st ht) (fun v s' hq' => ?_) fun e s' hq' => hq')
    obtain ⟨w', p, F', H', m', J', st', ex', rv, rp, q⟩ := hq'
    exact ⟨w', H', J'.os, J'.bare, J'.base, J'.hok, rv, hq w' p F' H' m' st'.g rp q⟩
  refine wpAny_call (codeAny_mono rc fun r s' hq' => ?_)
  cases r with
  | error e => exact tk e s' (L2N.XE.of_call I1 (fun cls d H' ⟨C, F', m', e1, e2, g, q⟩ => by subst e1 e2; exact hx C F' H' m' g q) hq')
  | ok fl =>
    cases fl with
    | ret u => exact I1.after hq'
    | next => exact False.elim hq'
    | brk => exact False.elim hq'
    | cont => exact False.elim hq'
end
end PL


namespace PL
open PySem PySem.Spec PyProof.Rows L2 HotX L2H

/-! ### a def called with the handled exception -/
abbrev psE : List Str := ["_law_e"]
@[simp] def termV (nm : Str) : PV := .tup [.str "error", .str nm]
/-- the exception's object -/
structure ExcO1 (oe : Obj) (C : Addr) : Prop where
  cls : oe.cls = .ref C
  dict : oe.dict = none
  fld : ∃ vs : Array Value, oe.data = .fields vs ∧ vs[2]? = some .none
/-- f(e), e the handled exception: the pair that tells its class -/
structure TermOk (P : Program) (w : World) (K : PySem.W.Frag) (mg : Str → Option Value) (base : Heap) (T : List (Addr × Str)) (NM : Addr → Str → Prop) (k : Nat) (f : Addr) (fd : FuncData) : Prop where
  run : ∀ (A : Around) (outer : List Env) (s : Shared) (H : Hp) (args : Args) (a C : Addr) (oe : Obj) (nm : Str) (F0 : Hp) (m0 : Mem) (Q : VK), RoomH k A → A.handled = some (.ref a) → ExcO1 oe C → PinOk outer H s (a, oe) → Env0 P w K mg base A outer s H → BindsTo s fd args (psE.zip [Value.ref a]) → NM C nm →
    GSt w K ⟨P, F0, H, m0, T⟩ F0 H m0 → (∀ v F' H', GSt w K ⟨P, F0, H, m0, T⟩ F' H' m0 → Rep K F' v (termV nm) → Q v H') → codeAny (model P w) A (.call (.ref f) args) (CR C8.CX0 outer P w H s Q C8.E0) s
section
variable {P : Program} {w : World} {K : PySem.W.Frag} {mg : Str → Option Value} {base : Heap} {T : List (Addr × Str)}
theorem term_ok {qual : Str} {st : Stmt} {f : Addr} {fd : FuncData} {N : List Str} {k : Nat} {NM : Addr → Str → Prop} (F : Fun K "_law_term" qual st f fd) (Sc : FnScope N psE (defScope st))
    (hbody : ∀ (cdv : Value) (A : Around) (outer : List Env) (s : Shared) (H F0 : Hp) (m0 : Mem) (a C : Addr) (oe : Obj) (nm : Str), HotP (cxH C8.CX0 P w K mg base N qual (defScope st) f cdv A outer s H C8.E0 (a, oe)) a oe C → NM C nm → RoomH k (A.deeper (envOfC qual (defScope st) s.heap.objs.size f cdv)) →
      ∃ t, JB (cxH C8.CX0 P w K mg base N qual (defScope st) f cdv A outer s H C8.E0 (a, oe)) ⟨P, F0, H, m0, T⟩ (defBody st) t ∧ ∀ m (D : PEnds), D.rt (termV nm) m → t (startP N [.raw (.ref a)]) m D) :
    TermOk P w K mg base T NM (k + 1) f fd := by
  obtain ⟨oc, od, kV, doc, pm, an, cdv, ct, osl, rfl, lk, hcd⟩ := F.ex
  refine ⟨fun A outer s H args a C oe nm F0 m0 Q hr hh ho hpin e0 hb hn g hQ => ?_⟩
  have KX : K.In s.heap := e0.mod.kin.keeps fun b o e => (e0.bs b o e).1
  have lim : s.heap.NoLimit := e0.mod.nolimit.keeps fun b o e => (e0.bs b o e).1
  have hkind : ∀ y ∈ psE.zip [Value.ref a], (defScope st).names.lookup y.1 = some .local ∨ ((defScope st).names.lookup y.1 = some .cell ∧ ((cellsFrom (s.heap.objs.size + 1) (defScope st).names []).lookup y.1).isSome = true) := fun ⟨n, v⟩ hy => by
    rcases Sc.par n (List.of_mem_zip hy).1 with q | q
    · exact .inl q
    · exact .inr ⟨q, PySem.W.cellsFrom_some _ _ _ (.inl q)⟩
  refine codeAny_call_function hr.depth (KX _ _ lk) rfl Sc.co Sc.gen rfl (PySem.W.codeRec_of KX hcd) (hb _ _ _ _ ?_)
  refine wpAny_newFunctionEnv_cells Sc.kind hkind fun env he s1 x => ?_
  subst he
  refine ⟨lim.keeps x.toInCall.keep, codeAny_func ?_⟩
  have I : Inv (cxH C8.CX0 P w K mg base N qual (defScope st) f cdv A outer s H C8.E0 (a, oe)) [] (L2.start N [.ref a]) H s1 := inv_startH Sc hpin e0 rfl (.cons rfl .nil) x
  obtain ⟨t, hj, hk⟩ := hbody cdv A outer s H F0 m0 a C oe nm ⟨hh, List.mem_cons_self, ho.cls, ho.dict, ho.fld⟩ hn (hr.deeper _)
  have st0 := pst_start (P := P) (w := w) (N := N) (vs := [V.ref a]) (ps := [.raw (.ref a)]) g.sub g.nt g.mem g.tab (.cons (.raw (K := K) _) .nil)
  refine wpAny_mono (hj.run { nx := fun _ _ => False, rt := fun p m' => p = termV nm ∧ m' = m0, ex := pBot } takes_bot [] s1 _ F0 H _ m0 I st0 (hk m0 _ ⟨rfl, rfl⟩)) (fun fl s' hs => ?_) fun e s' hs => hs
  cases fl with
  | ret u =>
    obtain ⟨v, p, σ', F', H', m', J, g', rv, rp, rfl, rfl⟩ := hs
    exact ⟨v, H', J.os, J.bare, J.base, J.hok, rv, hQ v F' H' g' rp⟩
  | next => obtain ⟨_, _, _, _, _, _, _, _, q⟩ := hs; exact q.elim
  | brk => obtain ⟨_, _, _, _, _, _, _, _, q⟩ := hs; exact q.elim
  | cont => obtain ⟨_, _, _, _, _, _, _, _, q⟩ := hs; exact q.elim
end

/-! ### told: try: return deed() / except FilterError as e: return term(e) -/
section
variable {X : Cx} {B : Bs}
theorem takes0N {X : Cx} : L2N.Takes X (fun _ _ _ _ => False) := fun _ _ ⟨_, _, _, _, _, _, _, _, _, _, _, _, _, _, _, _, z⟩ => z.elim
/-- term(e) in the suite -/
theorem pe_term {a C : Addr} {oe : Obj} {nm y : Str} {f : Addr} {fd : FuncData} {k i : Nat} {p1 p2 pos : Pos} {NM : Addr → Str → Prop} {F0 : Hp} {m0 : Mem} {T : List (Addr × Str)} (G : TermOk X.prog X.w X.K X.mg X.base T NM k f fd) (hp : HotP X a oe C) (hn : NM C nm) (hr : RoomH k X.A) (hg : Gl X "_law_term") (hm : X.mg "_law_term" = some (.ref f)) (hk : PySem.W.keepIn X.K (.ref f) = true) (hb : Binds X.K fd psE [])
    (hN : X.N[i]? = some y) (hv : Vis X.env.scope y) (hd : (y == ("__debug__" : Str)) = false) (hcd : (y == ("__classdict__" : Str)) = false) (he : starEach [.Name y p2] X.env = (false, eval (.Name y p2) X.env) :: starEach [] X.env := by rfl) :
    PE X (.Call (.Name "_law_term" p1) [.Name y p2] [] pos) (fun σ H Q => σ[i]? = some (some (.ref a)) ∧ GSt X.w X.K ⟨X.prog, F0, H, m0, T⟩ F0 H m0 ∧ ∀ v F' H', GSt X.w X.K ⟨X.prog, F0, H, m0, T⟩ F' H' m0 → Rep X.K F' v (termV nm) → Q v H') := by
  refine ⟨fun pins s σ H Q I ⟨hσ, g, hQ⟩ => ?_⟩
  refine wpAny_Call_Name_kw (ld_glob I hg hm ?_ (by decide))
  refine PySem.W.callWith_K (h₀ := X.base) I.ok.mod.kin hk ?_ he (by rfl)
  rw [he]
  refine Calls.spliced_cons (thn ((pe_var (pos := p2) (i := i) hN hv hd hcd).run pins s σ H (fun v H' => v = .ref a ∧ H' = H) I ⟨_, hσ, rfl, rfl⟩) fun u s1 ⟨v, H', I1, r1, e1, e3⟩ => ?_)
  subst e1 e3
  obtain rfl : u = Value.ref a := r1
  refine Calls.spliced_nil ⟨I1.kIn, ?_⟩
  have b := hb s1 [.ref a] I1.kIn rfl
  have P1 := I1.pin (a, oe) (List.mem_append_left _ hp.pn)
  have hpin : PinOk X.stack H' s1 (a, oe) := ⟨P1.1, P1.2.1, fun hm => (List.mem_cons.mp (I1.stkSub a hm)).elim P1.2.2.1 P1.2.2.2.1, P1.2.2.2.2⟩
  refine wpAny_call (codeAny_mono (G.run X.A X.stack s1 H' ⟨[.ref a], []⟩ a C oe nm F0 m0 Q hr hp.hd ⟨hp.cls, hp.dict, hp.fld⟩ hpin I1.env0 b hn g hQ) fun r s' hq => ?_)
  cases r with
  | error e => exact (show False from hq).elim
  | ok fl =>
    cases fl with
    | ret u => exact I1.after hq
    | next => exact False.elim hq
    | brk => exact False.elim hq
    | cont => exact False.elim hq
/-- what told's suite reads -/
def tsTold (w : World) (K : PySem.W.Frag) (P : Program) (T : List (Addr × Str)) (NM : Addr → Str → Prop) (a : Addr) (cls : Value) (d : Option Addr) : TS := fun D σZ HZ => ∃ C nm F' m', cls = .ref C ∧ d = none ∧ NM C nm ∧ σZ[1]? = some (some (.ref a)) ∧ GSt w K ⟨P, F', HZ, m', T⟩ F' HZ m' ∧
  ∀ v F'' H'', GSt w K ⟨P, F', HZ, m', T⟩ F'' H'' m' → Rep K F'' v (termV nm) → D.rt v H''
/-- told(lambda: body): its exceptions as a pair -/
@[simp] def wTold (NM : Addr → Str → Prop) (t : DE) : DE := fun ρ m Q _ => t (vals ρ) m Q (fun C m' => ∃ nm, NM C nm ∧ Q (termV nm) m')
structure ToldOk (P : Program) (w : World) (K : PySem.W.Frag) (mg : Str → Option Value) (base : Heap) (T : List (Addr × Str)) (NM : Addr → Str → Prop) (k : Nat) (st : Stmt) : Prop where
  /-- told stands -/
  ex : ∃ (g : Addr) (fd : FuncData), Fun K "_law_told" "_law_told" st g fd ∧ mg "_law_told" = some (.ref g) ∧ Binds K fd ["_law_deed"] []
  sc : FnScope ["_law_deed", "_law_e"] ["_law_deed"] (defScope st)
  /-- term stands -/
  tm : ∃ (f : Addr) (fd : FuncData), TermOk P w K mg base T NM k f fd ∧ mg "_law_term" = some (.ref f) ∧ PySem.W.keepIn K (.ref f) = true ∧ Binds K fd psE []
  /-- the class that is caught -/
  fe : ∃ FE : Addr, mg "FilterError" = some (.ref FE) ∧ ∀ C nm, NM C nm → PySem.W.exmOne K (.ref C) (.ref FE) = some true
  hv1 : Vis (defScope st) "_law_deed"
  hv2 : Vis (defScope st) "_law_e"
  loc : (defScope st).names.lookup ("_law_e" : Str) = some .local
  gt : (defScope st).names.lookup ("_law_term" : Str) = some .globalImplicit
  gf : (defScope st).names.lookup ("FilterError" : Str) = some .globalImplicit
  body : ∃ p1 p2 p3 p4 p5 p6 p7 p8 p9 p10, defBody st = [.Try [.Return (some (.Call (.Name "_law_deed" p1) [] [] p2)) p3] [.ExceptHandler (some (.Name "FilterError" p4)) (some "_law_e") [.Return (some (.Call (.Name "_law_term" p5) [.Name "_law_e" p6] [] p7)) p8] p9] [] [] p10]
theorem je_told {NM : Addr → Str → Prop} {k j : Nat} {st : Stmt} {c P0 : Addr} {params : Arguments} {body : Expr} {scope : Scope} {t : DE} {p lpos pos : Pos} (G : ToldOk X.prog X.w X.K X.mg X.base B.T NM k st) (hP : B.P = X.prog)
    (TB : LamX.TabB X.base X.mg c P0) (hcode : X.env.code = .ref c) (hmT : (P0, X.env.qual ++ "<lambda>") ∈ B.T) (hu : ∀ p ∈ B.T, p.1 = P0 → p.2 = X.env.qual ++ "<lambda>") (hr : Room (j + 2) X.A) (hkj : k ≤ j) (L : LamX.LamS X.env.scope scope) (hdef : defaultsOf params X.env = ([], []))
    (hbind : ∀ (q : Str) (cl : List (Str × Addr)) (pm cv ctv : Value), bindArgs (PySem.W.kla_fn "<lambda>" q params body scope cl pm cv ctv) ⟨[], []⟩ = pure [])
    (hbody : ∀ (A : Around) (outer : List Env) (s : Shared) (H F0 : Hp) (m0 : Mem) (E : XK) (f c' : Addr), Room j (A.deeper (LamX.lamEnv X scope s.heap.objs.size f c')) → JE (lamN X A outer s H E scope f c') ⟨B.P, F0, H, m0, B.T⟩ body t)
    (hg : Gl X "_law_told" := by rfl) :
    JE X B (.Call (.Name "_law_told" p) [.Lambda params body scope lpos] [] pos) (wTold NM t) := by
  obtain ⟨g, fd, FG, hm, hb⟩ := G.ex
  have hk := FG.kp
  obtain ⟨oc, od, kV, doc, pm, an, cdv, ct, osl, rfl, lk, hcg⟩ := FG.ex
  refine ⟨fun R tk pins s σ F H ρ m Q I st0 h => ?_⟩
  refine wpAny_Call_Name_kw (ld_glob I hg hm ?_ (by decide))
  refine PySem.W.callWith_K (h₀ := X.base) I.ok.mod.kin hk ?_ (by rfl) (by rfl)
  show wpAny _ _ (spliced ((false, eval (.Lambda params body scope lpos) X.env) :: backTo pos (starEach [] X.env))) _ _ s
  refine Calls.spliced_cons (LamX.lam_make2 I TB hcode hmT hu st0.tab hdef (L.has I.ok) fun f c' pm' ctv H1 s' I1 eN T1 hf hfn hfr hco => ?_)
  refine Calls.spliced_nil ⟨I1.kIn, ?_⟩
  have st1 : PSt X.w X.K B F σ H1 ρ m := st0.grown eN T1
  · have rc : codeAny (model X.prog X.w) X.A (.call (.ref g) ⟨[.ref f], []⟩) (CR C8.CX0 X.stack X.prog X.w H1 s' (fun v H' => ∃ p F' m', GSt X.w X.K ⟨B.P, F, H1, m, B.T⟩ F' H' m' ∧ Rep X.K F' v p ∧ Q p m') C8.E0) s' := by
      refine LamX.run_ofS (k := j + 1) (N := ["_law_deed", "_law_e"]) (ps := ["_law_deed"]) (us := [.ref f]) (vs := [.ref f]) lk hcg G.sc hr I1.env0 (hb s' [.ref f] I1.kIn rfl) (.cons rfl .nil) rfl fun hr' => ?_
      obtain ⟨f2, fd2, GT, hmt, hkt, hbt⟩ := G.tm
      obtain ⟨FE, hmf, hex⟩ := G.fe
      obtain ⟨p1, p2, p3, p4, p5, p6, p7, p8, p9, p10, eb⟩ := G.body
      rw [eb]
      refine ⟨_, pss_one (L2N.ps_try_as (X := cxOf C8.CX0 X.prog X.w X.K X.mg X.base ["_law_deed", "_law_e"] "_law_told" (defScope st) g cdv X.A X.stack s' H1 C8.E0) (i := 1) (c := .ref FE) (Wout := fun _ _ _ _ => False)
        (tb := fun W D σZ HZ => tAct X B 0 f c' (X.env.qual ++ "<lambda>") σ t W σZ HZ D.rt)
        (ts := tsTold X.w X.K X.prog B.T NM) rfl rfl G.sc.nd rfl G.loc ⟨G.gf, by decide, .inl hmf⟩ takes0N (fun W pn xe tkW _ => ?_) (fun a oe cls d pn hz hfl => ?_)), ?_⟩
      · -- deed()
        have hp := pe_lam (B := B) (i := 0) (p1 := p1) (p2 := p2) I1 L hf hfn hfr (hbind _ _ _ _ _) tkW (k := j) hr' hbody rfl G.hv1 (by decide) (by decide)
        have hq := pss_one (ps_ret (pos := p3) hp)
        exact ⟨fun pins' s2 σ' H' D I' h' => hq.run pins' s2 σ' H' D I' h'⟩
      · -- term(e)
        refine ⟨fun pins' s2 σ' H' D I' h' => ?_⟩
        obtain ⟨C, nm, F', m', e1, e2, hn, hs1, g', hk'⟩ := h'
        have hp : HotP ((cxOf C8.CX0 X.prog X.w X.K X.mg X.base ["_law_deed", "_law_e"] "_law_told" (defScope st) g cdv X.A X.stack s' H1 C8.E0).suite a ((a, oe) :: pn)) a oe C := by
          obtain ⟨vs, hvs⟩ := hfl
          exact ⟨rfl, List.mem_cons_self, hz.1.trans e1, hz.2.1.trans e2, vs, hvs, hz.2.2 vs hvs⟩
        have hpe := pe_term (X := (cxOf C8.CX0 X.prog X.w X.K X.mg X.base ["_law_deed", "_law_e"] "_law_told" (defScope st) g cdv X.A X.stack s' H1 C8.E0).suite a ((a, oe) :: pn)) (y := "_law_e") (i := 1) (p1 := p5) (p2 := p6) (pos := p7) (F0 := F') (m0 := m') GT hp hn ⟨(hr'.mono (show k ≤ j + 1 by omega)).dp, (hr'.mono (show k ≤ j + 1 by omega)).un⟩ G.gt hmt hkt hbt rfl G.hv2 (by decide) (by decide)
        exact (pss_one (ps_ret (pos := p8) hpe)).run pins' s2 σ' H' D I' ⟨hs1, g', fun v F'' H'' g'' rp => hk' v F'' H'' g'' rp⟩
      · refine ⟨rfl, hco, F, vals ρ, m, _, _, st1.rebase, h, fun v p F' H' m' g' rp q => ⟨p, F', m', g', rp, q⟩, fun C F' H' m' g' ⟨nm, hn, q⟩ => ⟨true, hex C nm hn, fun _ a ha => ⟨C, nm, F', m', rfl, rfl, hn, rfl, ?_, fun v F'' H'' g'' rp => ⟨_, F'', m', ?_, rp, q⟩⟩, fun z => nomatch z⟩⟩
        · exact ⟨g'.sub, g'.nt, g'.mem, Ext.refl _ _ _, g'.tab⟩
        · exact ⟨g''.sub, g''.nt, g''.mem, g'.ext.trans g''.ext, g''.tab⟩
    refine wpAny_call (codeAny_mono rc fun r s2 hq => ?_)
    cases r with
    | error e => exact (show False from hq).elim
    | ok fl =>
      cases fl with
      | ret u =>
        obtain ⟨v, H', I2, r2, p, F', m', g', rp, q⟩ := I1.after hq
        have exA : Ext F H m F H1 m := ⟨Same.refl F, fun a u e n _ => eN a u e n, fun _ _ _ _ z => z, fun _ _ _ _ z => z, fun a u e n => ⟨u, eN a u e n, n⟩⟩
        exact ⟨v, p, F', H', m', I2, GSt.pst st1 g', exA.trans g'.ext, r2, rp, q⟩
      | next => exact False.elim hq
      | brk => exact False.elim hq
      | cont => exact False.elim hq
end
end PL


namespace PL
open PySem PySem.Spec PyProof.Rows L2

theorem hu1 {X : Cx} {A : Around} {k : Nat} (hr : Room k A) (h : X.A = A := by rfl) : X.A.units + 1 < cLine := by
  subst h
  have := hr.un
  omega

/-! ### a try whose body raises nothing -/
section
variable {X : Cx} {B : Bs} {pos : Pos}
@[simp] def wTryq (t : DS) : DS := fun ρ m D => t ρ m { D with ex := pBot }
theorem js_tryq {body : List Stmt} {h₀ : ExceptHandler} {hs : List ExceptHandler} {t : DS} (hb : JB X.nox B body t) : JS X B (.Try body (h₀ :: hs) [] [] pos) (wTryq t) := by
  refine ⟨fun D tk pins s σ F H ρ m I st h => ?_⟩
  have pr := ps_try_thru0 (X := X) (h₀ := h₀) (hs := hs) (pos := pos) (hb.pss (Ex := pBot) takes_bot)
  refine thn (pr.run pins s σ H { nx := fun σ' H' => ∃ F' ρ' m', PSt X.w X.K B F' σ' H' ρ' m' ∧ Same F F' ∧ D.nx ρ' m', rt := fun v H' => ∃ p F' m', GSt X.w X.K B F' H' m' ∧ Rep X.K F' v p ∧ D.rt p m', bk := fun σ' H' => ∃ F' ρ' m', PSt X.w X.K B F' σ' H' ρ' m' ∧ Same F F' ∧ D.bk ρ' m', ct := fun σ' H' => ∃ F' ρ' m', PSt X.w X.K B F' σ' H' ρ' m' ∧ Same F F' ∧ D.ct ρ' m' } I
    ⟨F, ρ, m, { D with ex := pBot }, rfl, st, h, fun σ' F' H' ρ' m' st' e q => ⟨F', ρ', m', st', e, q⟩, fun v p F' H' m' g rp q => ⟨p, F', m', g, rp, q⟩, fun σ' F' H' ρ' m' st' e q => ⟨F', ρ', m', st', e, q⟩, fun σ' F' H' ρ' m' st' e q => ⟨F', ρ', m', st', e, q⟩⟩) fun fl s1 q => ?_
  cases fl with
  | next => obtain ⟨σ', H', I', F', ρ', m', st', e, q⟩ := q; exact ⟨σ', F', H', ρ', m', I', st', e, q⟩
  | ret u => obtain ⟨v, σ', H', I', r, p, F', m', g, rp, q⟩ := q; exact ⟨v, p, σ', F', H', m', I', g, r, rp, q⟩
  | brk => obtain ⟨σ', H', I', F', ρ', m', st', e, q⟩ := q; exact ⟨σ', F', H', ρ', m', I', st', e, q⟩
  | cont => obtain ⟨σ', H', I', F', ρ', m', st', e, q⟩ := q; exact ⟨σ', F', H', ρ', m', I', st', e, q⟩
end

theorem je_gint {X : Cx} {B : Bs} {x : Str} {i : Int} {pos : Pos} (h : ∃ t, X.mg x = some (.int i t)) (hg : Gl X x := by rfl) (hd : (x == ("__debug__" : Str)) = false := by decide) : JE X B (.Name x pos) (wC (.int i)) := by
  obtain ⟨t, h⟩ := h
  exact je_glob (v := .int i) h ⟨t, rfl⟩ (fun F => .int i) hg hd
/-- a def, as one that is called -/
theorem cal_of {P : Program} {w : World} {K : PySem.W.Frag} {mg : Str → Option Value} {base : Heap} {T : List (Addr × Str)} {k n : Nat} {x : Str} {S : SpP} {f : Addr} {fd : FuncData} {ps : List Str} (G : FnOk P w K mg base (L2N.CX P w) k f fd ps (spOf w K T n S)) (hm : mg x = some (.ref f)) (hk : PySem.W.keepIn K (.ref f) = true) (hb : Binds K fd ps []) : CalM P w K mg base T k x n S := ⟨f, fd, ps, G, hm, hk, hb⟩
abbrev BN (mg : Str → Option Value) : Prop := ∀ x : Str, x ∈ (["isinstance", "int", "bool", "str", "tuple", "list", "len", "all", "any", "range", "max", "min", "sum", "sorted", "enumerate", "set", "reversed", "ValueError"] : List Str) → mg x = none

/-! ### loops by their invariants -/
theorem forW_inv {g : DG} {tb : DS} {D : PEnds} (Inv : Nat → PEnv → Mem → Prop) : ∀ (ps : List PV) (i : Nat) (ρ : PEnv) (m : Mem),
    (∀ (j : Nat) (x : PV) (ρ : PEnv) (m : Mem) (N : PEnv → Mem → Prop), ps[j]? = some x → Inv (i + j) ρ m → (∀ ρ' m', Inv (i + j + 1) ρ' m' → N ρ' m') → g x ρ fun ρ1 => tb ρ1 m { D with nx := N, ct := N, bk := D.nx }) →
    (∀ ρ m, Inv (i + ps.length) ρ m → D.nx ρ m) → Inv i ρ m → forW g tb ps ρ m D
  | [], i, ρ, m, _, he, h0 => he ρ m h0
  | x :: xs, i, ρ, m, hs, he, h0 => by
    refine hs 0 x ρ m _ rfl h0 fun ρ' m' h' => ?_
    refine forW_inv Inv xs (i + 1) ρ' m' (fun j y ρ m N hy hI hN => ?_) (fun ρ m hI => he ρ m ?_) h'
    · exact hs (j + 1) y ρ m N (by simpa using hy) (by rw [show i + (j + 1) = i + 1 + j by omega]; exact hI) fun ρ' m' h => hN ρ' m' (by rw [show i + 1 + j + 1 = i + (j + 1) + 1 by omega]; exact h)
    · rw [show i + (x :: xs).length = i + 1 + xs.length by rw [List.length_cons]; omega]; exact hI
theorem compW_inv {g : DG} {c : DT} {t : DE} {ρw : PEnv} {Q : List PV → Mem → Prop} (Inv : Nat → List PV → Mem → Prop) : ∀ (ps : List PV) (i : Nat) (acc : List PV) (m : Mem),
    (∀ (j : Nat) (x : PV) (acc : List PV) (m : Mem) (N : List PV → Mem → Prop), ps[j]? = some x → Inv (i + j) acc m → (∀ acc' m', Inv (i + j + 1) acc' m' → N acc' m') → g x ρw fun ρ2 => c ρ2 m (fun b m3 => match b with
      | true => t ρ2 m3 (fun y m4 => N (acc ++ [y]) m4) xBot
      | false => N acc m3) xBot) →
    (∀ acc m, Inv (i + ps.length) acc m → Q acc m) → Inv i acc m → compW g c t ρw ps acc m Q
  | [], i, acc, m, _, he, h0 => he acc m h0
  | x :: xs, i, acc, m, hs, he, h0 => by
    refine hs 0 x acc m (fun acc m => compW g c t ρw xs acc m Q) rfl h0 fun acc' m' h' => ?_
    refine compW_inv Inv xs (i + 1) acc' m' (fun j y acc m N hy hI hN => ?_) (fun acc m hI => he acc m ?_) h'
    · exact hs (j + 1) y acc m N (by simpa using hy) (by rw [show i + (j + 1) = i + 1 + j by omega]; exact hI) fun acc' m' h => hN acc' m' (by rw [show i + 1 + j + 1 = i + (j + 1) + 1 by omega]; exact h)
    · rw [show i + (x :: xs).length = i + 1 + xs.length by rw [List.length_cons]; omega]; exact hI
/-- the memory stays: a filter and a map -/
theorem compW_map {g : DG} {c : DT} {t : DE} {ρw : PEnv} {Q : List PV → Mem → Prop} {m : Mem} (p : PV → Bool) (f : PV → PV) : ∀ (ps acc : List PV),
    (∀ (x : PV) (N : List PV → Mem → Prop) (acc : List PV), x ∈ ps → N (if p x then acc ++ [f x] else acc) m → g x ρw fun ρ2 => c ρ2 m (fun b m3 => match b with
      | true => t ρ2 m3 (fun y m4 => N (acc ++ [y]) m4) xBot
      | false => N acc m3) xBot) → Q (acc ++ (ps.filter p).map f) m → compW g c t ρw ps acc m Q
  | [], acc, _, h => by simpa [compW] using h
  | x :: xs, acc, hs, h => by
    refine hs x (fun acc m => compW g c t ρw xs acc m Q) acc (List.mem_cons_self) ?_
    refine compW_map p f xs _ (fun y N acc hy hN => hs y N acc (List.mem_cons_of_mem _ hy) hN) ?_
    by_cases e : p x = true
    · simpa [e, List.filter_cons] using h
    · simpa [e, List.filter_cons] using h
end PL


/-! The pure layer: equality and depth of values, plainly. -/
namespace PL
open PySem PySem.Spec PyProof.Rows L2

def peqs (xs ys : List PV) : Bool := PyData.eqvAll (toDs xs) (toDs ys)
def deps (xs : List PV) : Nat := PyData.depthAll (toDs xs)
@[simp] theorem dep_non : dep .non = 0 := rfl
@[simp] theorem dep_bl (b : Bool) : dep (.bl b) = 0 := rfl
@[simp] theorem dep_int (i : Int) : dep (.int i) = 0 := rfl
@[simp] theorem dep_str (x : Str) : dep (.str x) = 0 := rfl
@[simp] theorem dep_tup (xs : List PV) : dep (.tup xs) = deps xs + 1 := by simp [dep, deps, toD, PyData.depth]
@[simp] theorem dep_lst (xs : List PV) : dep (.lst xs) = deps xs + 1 := by simp [dep, deps, toD, PyData.depth]
@[simp] theorem deps_nil : deps [] = 0 := rfl
@[simp] theorem deps_cons (x : PV) (xs : List PV) : deps (x :: xs) = max (dep x) (deps xs) := by simp [dep, deps, toDs, PyData.depthAll]
@[simp] theorem deps_def (xs : List PV) : PyData.depthAll (toDs xs) = deps xs := rfl
theorem deps_le {n : Nat} : ∀ {xs : List PV}, deps xs ≤ n ↔ ∀ x ∈ xs, dep x ≤ n
  | [] => by simp
  | x :: xs => by simp [Nat.max_le, deps_le]
@[simp] theorem okD_non : okD .non = true := by simp [okD]
@[simp] theorem okD_bl (b : Bool) : okD (.bl b) = true := by simp [okD]
@[simp] theorem okD_int (i : Int) : okD (.int i) = true := by simp [okD]
@[simp] theorem okD_str (x : Str) : okD (.str x) = PyData.strOk x := by simp [okD]
@[simp] theorem okD_tup (xs : List PV) : okD (.tup xs) = okDs xs := by simp [okD]
@[simp] theorem okD_lst (xs : List PV) : okD (.lst xs) = okDs xs := by simp [okD]
@[simp] theorem okD_scr (ns : List Int) : okD (.scr ns) = true := by simp [okD]
@[simp] theorem okDs_nil : okDs [] = true := by simp [okDs]
@[simp] theorem okDs_cons (x : PV) (xs : List PV) : okDs (x :: xs) = (okD x && okDs xs) := by simp [okDs]
theorem okDs_all : ∀ {xs : List PV}, okDs xs = true ↔ ∀ x ∈ xs, okD x = true
  | [] => by simp
  | x :: xs => by simp [okDs_all]
@[simp] theorem peq_nn : peq .non .non = true := rfl
@[simp] theorem peq_ii (i j : Int) : peq (.int i) (.int j) = (i == j) := by simp [peq, toD, PyData.eqv]
@[simp] theorem peq_ss (x y : Str) : peq (.str x) (.str y) = (x == y) := by simp [peq, toD, PyData.eqv]
@[simp] theorem peq_bb (a b : Bool) : peq (.bl a) (.bl b) = (a == b) := by simp [peq, toD, PyData.eqv]
@[simp] theorem peq_tt (xs ys : List PV) : peq (.tup xs) (.tup ys) = peqs xs ys := by simp [peq, peqs, toD, PyData.eqv]
@[simp] theorem peq_ll (xs ys : List PV) : peq (.lst xs) (.lst ys) = peqs xs ys := by simp [peq, peqs, toD, PyData.eqv]
@[simp] theorem peq_ni (i : Int) : peq .non (.int i) = false := by simp [peq, toD, PyData.eqv]
@[simp] theorem peq_in (i : Int) : peq (.int i) .non = false := by simp [peq, toD, PyData.eqv]
@[simp] theorem peq_ns (i : Str) : peq .non (.str i) = false := by simp [peq, toD, PyData.eqv]
@[simp] theorem peq_sn (i : Str) : peq (.str i) .non = false := by simp [peq, toD, PyData.eqv]
@[simp] theorem peq_nb (i : Bool) : peq .non (.bl i) = false := by simp [peq, toD, PyData.eqv]
@[simp] theorem peq_bn (i : Bool) : peq (.bl i) .non = false := by simp [peq, toD, PyData.eqv]
@[simp] theorem peq_nt (i : List PV) : peq .non (.tup i) = false := by simp [peq, toD, PyData.eqv]
@[simp] theorem peq_tn (i : List PV) : peq (.tup i) .non = false := by simp [peq, toD, PyData.eqv]
@[simp] theorem peq_nl (i : List PV) : peq .non (.lst i) = false := by simp [peq, toD, PyData.eqv]
@[simp] theorem peq_ln (i : List PV) : peq (.lst i) .non = false := by simp [peq, toD, PyData.eqv]
@[simp] theorem peq_is (i : Int) (x : Str) : peq (.int i) (.str x) = false := by simp [peq, toD, PyData.eqv]
@[simp] theorem peq_si (i : Int) (x : Str) : peq (.str x) (.int i) = false := by simp [peq, toD, PyData.eqv]
@[simp] theorem peq_it (i : Int) (x : List PV) : peq (.int i) (.tup x) = false := by simp [peq, toD, PyData.eqv]
@[simp] theorem peq_ti (i : Int) (x : List PV) : peq (.tup x) (.int i) = false := by simp [peq, toD, PyData.eqv]
@[simp] theorem peq_il (i : Int) (x : List PV) : peq (.int i) (.lst x) = false := by simp [peq, toD, PyData.eqv]
@[simp] theorem peq_li (i : Int) (x : List PV) : peq (.lst x) (.int i) = false := by simp [peq, toD, PyData.eqv]
@[simp] theorem peq_st (i : Str) (x : List PV) : peq (.str i) (.tup x) = false := by simp [peq, toD, PyData.eqv]
@[simp] theorem peq_ts (i : Str) (x : List PV) : peq (.tup x) (.str i) = false := by simp [peq, toD, PyData.eqv]
@[simp] theorem peq_sl (i : Str) (x : List PV) : peq (.str i) (.lst x) = false := by simp [peq, toD, PyData.eqv]
@[simp] theorem peq_ls (i : Str) (x : List PV) : peq (.lst x) (.str i) = false := by simp [peq, toD, PyData.eqv]
@[simp] theorem peq_sb (i : Str) (x : Bool) : peq (.str i) (.bl x) = false := by simp [peq, toD, PyData.eqv]
@[simp] theorem peq_bs (i : Str) (x : Bool) : peq (.bl x) (.str i) = false := by simp [peq, toD, PyData.eqv]
@[simp] theorem peq_tb (i : List PV) (x : Bool) : peq (.tup i) (.bl x) = false := by simp [peq, toD, PyData.eqv]
@[simp] theorem peq_bt (i : List PV) (x : Bool) : peq (.bl x) (.tup i) = false := by simp [peq, toD, PyData.eqv]
@[simp] theorem peq_tl (i x : List PV) : peq (.tup i) (.lst x) = false := by simp [peq, toD, PyData.eqv]
@[simp] theorem peq_lt (i x : List PV) : peq (.lst x) (.tup i) = false := by simp [peq, toD, PyData.eqv]
@[simp] theorem peqs_nil : peqs [] [] = true := by simp [peqs, toDs, PyData.eqvAll]
@[simp] theorem peqs_cons (x y : PV) (xs ys : List PV) : peqs (x :: xs) (y :: ys) = (peq x y && peqs xs ys) := by simp [peqs, peq, toDs, PyData.eqvAll]
@[simp] theorem peqs_cn (x : PV) (xs : List PV) : peqs (x :: xs) [] = false := by simp [peqs, toDs, PyData.eqvAll]
@[simp] theorem peqs_nc (x : PV) (xs : List PV) : peqs [] (x :: xs) = false := by simp [peqs, toDs, PyData.eqvAll]
@[simp] theorem peq_scr_nil (ns : List Int) : peq (.scr ns) (.lst []) = ns.isEmpty := by
  cases ns <;> simp [peq, toD, toDs, PyData.eqv, PyData.eqvAll]
mutual
/-- no bools, nothing that isn't data -/
def cln : PV → Bool
  | .non | .int _ | .str _ => true
  | .tup xs | .lst xs => clns xs
  | _ => false
def clns : List PV → Bool
  | [] => true
  | x :: xs => cln x && clns xs
end
@[simp] theorem cln_non : cln .non = true := by simp [cln]
@[simp] theorem cln_int (i : Int) : cln (.int i) = true := by simp [cln]
@[simp] theorem cln_str (i : Str) : cln (.str i) = true := by simp [cln]
@[simp] theorem cln_tup (i : List PV) : cln (.tup i) = clns i := by simp [cln]
@[simp] theorem cln_lst (i : List PV) : cln (.lst i) = clns i := by simp [cln]
@[simp] theorem clns_nil : clns [] = true := by simp [clns]
@[simp] theorem clns_cons (x : PV) (xs : List PV) : clns (x :: xs) = (cln x && clns xs) := by simp [clns]
theorem clns_all : ∀ {xs : List PV}, clns xs = true ↔ ∀ x ∈ xs, cln x = true
  | [] => by simp
  | x :: xs => by simp [clns_all]
mutual
theorem peq_iff : ∀ {p q : PV}, cln p = true → cln q = true → (peq p q = true ↔ p = q)
  | .non, q, _, h => by cases q <;> simp_all [cln]
  | .int i, q, _, h => by cases q <;> simp_all [cln]
  | .str x, q, _, h => by cases q <;> simp_all [cln]
  | .tup xs, .tup ys, h1, h2 => by simpa using peqs_iff (by simpa using h1) (by simpa using h2)
  | .lst xs, .lst ys, h1, h2 => by simpa using peqs_iff (by simpa using h1) (by simpa using h2)
  | .tup xs, .non, _, _ => by simp
  | .tup xs, .int _, _, _ => by simp
  | .tup xs, .str _, _, _ => by simp
  | .tup xs, .lst _, _, _ => by simp
  | .lst xs, .non, _, _ => by simp
  | .lst xs, .int _, _, _ => by simp
  | .lst xs, .str _, _, _ => by simp
  | .lst xs, .tup _, _, _ => by simp
  | .tup xs, .bl _, _, h => by simp [cln] at h
  | .tup xs, .scr _, _, h => by simp [cln] at h
  | .tup xs, .raw _, _, h => by simp [cln] at h
  | .lst xs, .bl _, _, h => by simp [cln] at h
  | .lst xs, .scr _, _, h => by simp [cln] at h
  | .lst xs, .raw _, _, h => by simp [cln] at h
  | .bl _, _, h, _ => by simp [cln] at h
  | .scr _, _, h, _ => by simp [cln] at h
  | .raw _, _, h, _ => by simp [cln] at h
theorem peqs_iff : ∀ {ps qs : List PV}, clns ps = true → clns qs = true → (peqs ps qs = true ↔ ps = qs)
  | [], [], _, _ => by simp
  | [], _ :: _, _, _ => by simp
  | _ :: _, [], _, _ => by simp
  | p :: ps, q :: qs, h1, h2 => by
    simp only [clns_cons, Bool.and_eq_true] at h1 h2
    simp only [peqs_cons, Bool.and_eq_true, peq_iff h1.1 h2.1, peqs_iff h1.2 h2.2, List.cons.injEq]
end
theorem peq_false {p q : PV} (h1 : cln p = true) (h2 : cln q = true) : peq p q = false ↔ p ≠ q := by
  rw [← Bool.not_eq_true, peq_iff h1 h2]
theorem blsOf_map : ∀ bs : List Bool, blsOf (bs.map PV.bl) = some bs
  | [] => rfl
  | b :: bs => by simp [blsOf, blsOf_map bs]
theorem blsOf_mapf {α : Type} (f : α → Bool) (xs : List α) : blsOf (xs.map fun x => PV.bl (f x)) = some (xs.map f) := by
  rw [← blsOf_map, List.map_map]; rfl
end PL


/-! PLv: the end: the start's promise, defs by the head's facts. -/
namespace PL
open PySem PySem.Spec PyProof.Rows L2
theorem fun_of {K : PySem.W.Frag} {x q : Str} {st : Stmt} {f : Addr} {fd : FuncData} (F : FunD K x q (defArgs st) (defBody st) (defScope st) [] [] f fd) : Fun K x q st f fd := by
  obtain ⟨oc, od, dV, kV, doc, pm, an, cdv, ct, osl, e, lk, hc, hd, hk⟩ := F.ex
  rcases hd with ⟨_, rfl⟩ | ⟨h, _⟩
  · exact ⟨⟨oc, od, kV, doc, pm, an, cdv, ct, osl, e, lk, hc⟩, F.kp⟩
  · exact absurd rfl h
theorem code_of {K : PySem.W.Frag} {x q : Str} {st : Stmt} {p : Str × Option Str} {fd : FuncData} (F : Fun K x q st (He.fAd K p) fd) : fd.code = .ref (He.codeOf K p) := by
  obtain ⟨oc, od, kV, doc, pm, an, cdv, ct, osl, rfl, lk, hc⟩ := F.ex
  obtain ⟨c, rfl⟩ := He.codeIn_ref hc
  rw [He.codeOf_eq lk rfl]
theorem scr_start {K : PySem.W.Frag} {H : Hp} {a : Addr} {xs : List V} (h : SqL K H a xs) : ∃ F : Hp, Same F H ∧ (∀ a o, F a = some o → noTbl o) ∧ SqL K F a xs := by
  have key : ∀ u : HO, noTbl u → H a = some u → ∃ F : Hp, Same F H ∧ (∀ a o, F a = some o → noTbl o) ∧ F a = some u := fun u nt hu => by
    refine ⟨fun b => if b = a then some u else none, fun b o e => ?_, fun b o e => ?_, if_pos rfl⟩
    · have e' : (if b = a then some u else none) = some o := e
      split at e'
      · rename_i q
        rw [q, hu, e']
      · cases e'
    · have e' : (if b = a then some u else none) = some o := e
      split at e'
      · cases e'
        exact nt
      · cases e'
  rcases h with (h | ⟨o, h⟩) | h
  · obtain ⟨F, h1, h2, h3⟩ := key _ (fun ps z => (by cases z)) h
    exact ⟨F, h1, h2, .inl (.inl h3)⟩
  · obtain ⟨F, h1, h2, h3⟩ := key _ (fun ps z => (by cases z)) h
    exact ⟨F, h1, h2, .inl (.inr ⟨o, h3⟩)⟩
  · exact ⟨fun _ => none, fun b o e => (by cases e), fun b o e => (by cases e), .inr h⟩
theorem sp_start {w : World} {K : PySem.W.Frag} {T : List (Addr × Str)} {S : SpP} {H : Hp} {a : Addr} {ns : List Int} (hT : ∀ p ∈ T, H p.1 = some (.tbl #[])) (hS : SqL K H a (ns.map V.int)) (h : S [.scr ns] (fun _ => none) (fun p _ => p = .bl true) (fun _ _ => False)) :
    spOf w K T 1 S [.ref a] H (fun v _ => v = .bl true) fun _ _ _ => False := by
  obtain ⟨F, h1, h2, h3⟩ := scr_start hS
  refine ⟨F, fun _ => none, [.scr ns], fun p _ => p = .bl true, fun _ _ => False, rfl, h1, h2, fun a c e => (by cases e), fun p hp => LamX.TabS.nil (hT p hp), .cons (.scr h3) .nil, h, fun v p F' H' m' _ _ _ _ _ r q => ?_, fun C F' H' m' _ _ _ _ _ q => q⟩
  subst q
  cases r
  rfl
theorem cxF {P : Program} {w : World} {H : Hp} {s : Shared} {e : Value} {s' : Shared} (h : L2N.CX P w [] H s (fun _ _ _ => False) e s') : False := by
  obtain ⟨_, _, _, _, _, q⟩ := h
  exact q.2.2.2.2.2.2.2.elim
/-! ### the facts of the errors' classes -/
def ecB (K : PySem.W.Frag) (D : Addr) : Bool := decide (PySem.W.findIn K (.ref D) "__getattribute__" = some (some (.builtin "BaseException.__getattribute__"))) && (decide (PySem.W.findIn K (.ref D) "__getattr__" = some none) && (decide (PySem.W.subIn K (.ref D) (.type "BaseException") = some true) && (PySem.W.hasDictIn K D && (decide (PySem.W.findIn K (.ref D) "__class__" = some (some (.builtin "object.__class__"))) && (decide (PySem.W.specialIn K (.builtin "object.__class__") "__get__" = some (some (.builtin "getset_descriptor.__get__"))) && (decide (PySem.W.takesIn K (.builtin "object.__class__") = some true) && decide (PySem.W.mroIn K D (.type "object") = some true)))))))
theorem ecB_ok {K : PySem.W.Frag} {D : Addr} (h : ecB K D = true) : ExcC K D := by
  obtain ⟨h1, h⟩ := He.ba h
  obtain ⟨h2, h⟩ := He.ba h
  obtain ⟨h3, h⟩ := He.ba h
  obtain ⟨h4, h⟩ := He.ba h
  obtain ⟨h5, h⟩ := He.ba h
  obtain ⟨h6, h⟩ := He.ba h
  obtain ⟨h7, h8⟩ := He.ba h
  exact ⟨of_decide_eq_true h1, of_decide_eq_true h2, of_decide_eq_true h3, h4, of_decide_eq_true h5, of_decide_eq_true h6, of_decide_eq_true h7, of_decide_eq_true h8⟩
end PL


/-! PLw: sorted ints; dicts of the module; displays and get of owned dicts. -/
namespace PL
open PySem PySem.Spec PyProof.Rows L2
/-! ### sorted(ints) -/
def insI (x : Int) : List Int → List Int
  | [] => [x]
  | y :: ys => if x ≤ y then x :: y :: ys else y :: insI x ys
def sortI : List Int → List Int
  | [] => []
  | x :: xs => insI x (sortI xs)
theorem insI_perm (x : Int) : ∀ l : List Int, (insI x l).Perm (x :: l)
  | [] => .refl _
  | y :: ys => by
    unfold insI
    split
    · exact .refl _
    · exact ((insI_perm x ys).cons y).trans (.swap x y ys)
theorem sortI_perm : ∀ l : List Int, (sortI l).Perm l
  | [] => .refl _
  | x :: xs => (insI_perm x (sortI xs)).trans ((sortI_perm xs).cons x)
theorem insI_sorted (x : Int) : ∀ {l : List Int}, l.Pairwise (· ≤ ·) → (insI x l).Pairwise (· ≤ ·)
  | [], _ => by simp [insI]
  | y :: ys, h => by
    unfold insI
    obtain ⟨h1, h2⟩ := List.pairwise_cons.mp h
    split
    · rename_i q
      exact List.pairwise_cons.mpr ⟨fun z hz => by
        rcases List.mem_cons.mp hz with rfl | hz
        · exact q
        · exact Int.le_trans q (h1 z hz), h⟩
    · rename_i q
      refine List.pairwise_cons.mpr ⟨fun z hz => ?_, insI_sorted x h2⟩
      rcases List.mem_cons.mp ((insI_perm x ys).mem_iff.mp hz) with rfl | hz
      · omega
      · exact h1 z hz
theorem sortI_sorted : ∀ l : List Int, (sortI l).Pairwise (· ≤ ·)
  | [] => .nil
  | x :: xs => insI_sorted x (sortI_sorted xs)
theorem sorted_uniq : ∀ {l m : List Int}, l.Perm m → l.Pairwise (· ≤ ·) → m.Pairwise (· ≤ ·) → l = m
  | [], m, h, _, _ => (List.Perm.eq_nil h.symm).symm
  | x :: l, [], h, _, _ => absurd h.length_eq (by simp)
  | x :: l, y :: m, h, hl, hm => by
    obtain ⟨a1, a2⟩ := List.pairwise_cons.mp hl
    obtain ⟨b1, b2⟩ := List.pairwise_cons.mp hm
    have e : x = y := by
      have c1 : y ≤ x := by
        rcases List.mem_cons.mp (h.mem_iff.mp (List.mem_cons_self (a := x) (l := l))) with e | e
        · omega
        · exact b1 x e
      have c2 : x ≤ y := by
        rcases List.mem_cons.mp (h.mem_iff.mpr (List.mem_cons_self (a := y) (l := m))) with e | e
        · omega
        · exact a1 y e
      omega
    subst e
    rw [sorted_uniq h.cons_inv a2 b2]
section
variable {X : Cx} {B : Bs}
theorem ints_rep {K : PySem.W.Frag} {F : Hp} : ∀ ns : List Int, RepAll K F (ns.map V.int) (ns.map PV.int)
  | [] => .nil
  | n :: ns => .cons (.int n) (ints_rep ns)
@[simp] def gSorted : GC := fun ps Q => match ps with
  | [.lst xs] => ∃ ns, intsOf xs = some ns ∧ Q (.lst ((sortI ns).map PV.int))
  | _ => False
theorem c_sorted : OpC X (.builtin "sorted") gSorted := OpC.of cr_sortedI fun B F H σ ρ m xs ps Q st rp hg => by
  unfold gSorted at hg
  split at hg
  · obtain ⟨ns, hi, q⟩ := hg
    obtain ⟨v, rfl, r⟩ := rep1 rp
    cases r with
    | lst e r =>
      obtain rfl := intsOf_rep r hi
      refine ⟨_, ns, rfl, SqL.of (st.sub _ _ e), fun ns' p hp hs hn => ?_⟩
      obtain rfl := sorted_uniq (hp.trans (sortI_perm ns).symm) hs (sortI_sorted ns)
      obtain ⟨st2, ex2⟩ := st.new (o := .lst ((sortI ns).map V.int)) hn (fun ps z => nomatch z)
      exact ⟨_, _, st2, ex2, .lst upd_same (ints_rep _), q⟩
  · exact hg.elim
theorem intsOf_map (ns : List Int) : intsOf (ns.map PV.int) = some ns := by
  induction ns with
  | nil => rfl
  | cons n ns ih => simp [intsOf, ih]

/-! ### a dict of the module with text keys -/
structure GDict (w : World) (K : PySem.W.Frag) (mg : Str → Option Value) (x : Str) (kvs : List (Str × PV)) : Prop where
  ex : ∃ (d : Addr) (es : Array DictEntry) (n : Nat), mg x = some (.ref d) ∧ KDict K w d es n ∧ es.toList.map (fun e => (He.keyOf e).map (·.1)) = kvs.map (fun kv => some kv.1) ∧
    ∀ z, match kvs.lookup z with
      | some p => ∃ u v, PySem.W.nsIn K d z = some (some u) ∧ RelV v u ∧ ∀ F, Rep K F v p
      | none => PySem.W.nsIn K d z = some none
variable {e : Expr} {te : DE} {pos : Pos} {kvs : List (Str × PV)}
@[simp] def wKIn (kvs : List (Str × PV)) (neg : Bool) (te : DE) : DE := fun ρ m Q R => te ρ m (fun kp m1 => ∃ z, kp = .str z ∧ Q (.bl (xor neg (kvs.lookup z).isSome)) m1) R
theorem gd_in {w : World} {K : PySem.W.Frag} {d : Addr} {z : Str} (h : match kvs.lookup z with
      | some p => ∃ u v, PySem.W.nsIn K d z = some (some u) ∧ RelV v u ∧ ∀ F, Rep K F v p
      | none => PySem.W.nsIn K d z = some none) : ∃ r, PySem.W.nsIn K d z = some r ∧ r.isSome = (kvs.lookup z).isSome := by
  cases q : kvs.lookup z with
  | none => rw [q] at h; exact ⟨_, h, rfl⟩
  | some p => rw [q] at h; obtain ⟨u, v, h, _⟩ := h; exact ⟨_, h, rfl⟩
theorem je_kin {x : Str} {px : Pos} (D : GDict X.w X.K X.mg x kvs) (he : JE X B e te) (hg : Gl X x := by rfl) (hd : (x == ("__debug__" : Str)) = false := by decide) :
    JE X B (.Compare e [.In] [.Name x px] pos) (wKIn kvs false te) := by
  refine ⟨fun R tk pins s σ F H ρ m Q I st h => ?_⟩
  obtain ⟨d, es, n, hm, kd, _, hz⟩ := D.ex
  refine wpAny_Compare1 (thn (he.run R tk pins s σ F H ρ m _ I st h) fun ku s3 ⟨kv, kp, F2, H2, m2, I3, st3, ex3, r3, rp3, z, ez, q3⟩ => ?_) rfl
  subst ez
  cases rp3
  refine thn ((pe_glob (pos := px) hg hm (v := .ref d) rfl hd).run pins s3 σ H2 (fun v H' => v = .ref d ∧ H' = H2) I3 ⟨rfl, rfl⟩) fun ov s2 ⟨v, H', I2, r2, e1, e3⟩ => ?_
  subst e1 e3
  obtain ⟨r, hr, hb⟩ := gd_in (w := X.w) (hz z)
  refine thn (op_in_kd kd pins s2 σ H' (.str z) (.ref d) ku ov (fun v H'' => v = .bl r.isSome ∧ H'' = H') I2 r3 r2 ⟨z, r, rfl, rfl, hr, rfl, rfl⟩) fun b s4 ⟨vb, H4, I4, rb, e1, e2⟩ => ?_
  subst e1 e2
  rw [hb] at rb
  exact ⟨_, _, F2, _, m2, I4, st3, ex3, rb, .bl _, by simpa using q3⟩
theorem je_knin {x : Str} {px : Pos} (D : GDict X.w X.K X.mg x kvs) (he : JE X B e te) (hg : Gl X x := by rfl) (hd : (x == ("__debug__" : Str)) = false := by decide) :
    JE X B (.Compare e [.NotIn] [.Name x px] pos) (wKIn kvs true te) := by
  refine ⟨fun R tk pins s σ F H ρ m Q I st h => ?_⟩
  obtain ⟨d, es, n, hm, kd, _, hz⟩ := D.ex
  refine wpAny_Compare1 (thn (he.run R tk pins s σ F H ρ m _ I st h) fun ku s3 ⟨kv, kp, F2, H2, m2, I3, st3, ex3, r3, rp3, z, ez, q3⟩ => ?_) rfl
  subst ez
  cases rp3
  refine thn ((pe_glob (pos := px) hg hm (v := .ref d) rfl hd).run pins s3 σ H2 (fun v H' => v = .ref d ∧ H' = H2) I3 ⟨rfl, rfl⟩) fun ov s2 ⟨v, H', I2, r2, e1, e3⟩ => ?_
  subst e1 e3
  obtain ⟨r, hr, hb⟩ := gd_in (w := X.w) (hz z)
  refine thn (op_notIn_kd kd pins s2 σ H' (.str z) (.ref d) ku ov (fun v H'' => v = .bl (!r.isSome) ∧ H'' = H') I2 r3 r2 ⟨z, r, rfl, rfl, hr, rfl, rfl⟩) fun b s4 ⟨vb, H4, I4, rb, e1, e2⟩ => ?_
  subst e1 e2
  rw [hb] at rb
  exact ⟨_, _, F2, _, m2, I4, st3, ex3, rb, .bl _, by simpa using q3⟩
@[simp] def wKGet (kvs : List (Str × PV)) (te : DE) : DE := fun ρ m Q R => te ρ m (fun kp m1 => ∃ z p, kp = .str z ∧ kvs.lookup z = some p ∧ Q p m1) R
theorem je_kget {x : Str} {px : Pos} (D : GDict X.w X.K X.mg x kvs) (he : JE X B e te) (hg : Gl X x := by rfl) (hd : (x == ("__debug__" : Str)) = false := by decide) (hs : NoSl e := by exact fun _ _ => rfl) :
    JE X B (.Subscript (.Name x px) e pos) (wKGet kvs te) := by
  refine ⟨fun R tk pins s σ F H ρ m Q I st h => ?_⟩
  obtain ⟨d, es, n, hm, kd, _, hz⟩ := D.ex
  refine subD_of PySem.F.slot_dict_getitem.lookup hs (thn ((pe_glob (pos := px) hg hm (v := .ref d) rfl hd).run pins s σ H (fun v H' => v = .ref d ∧ H' = H) I ⟨rfl, rfl⟩) fun ov s2 ⟨v, H', I2, r2, e1, e3⟩ => ?_)
  subst e1 e3
  obtain rfl : ov = Value.ref d := r2
  refine thn (he.run R tk pins s2 σ F H' ρ m _ I2 st h) fun ku s3 ⟨kv, kp, F2, H2, m2, I3, st3, ex3, r3, rp3, z, p, ez, hp, q3⟩ => ?_
  subst ez
  cases rp3
  have hz' := hz z
  rw [hp] at hz'
  obtain ⟨u, v, h1, h2, h3⟩ := hz'
  refine ⟨kd_type kd I3, ?_⟩
  refine thn (op_item_kd kd pins s3 σ H2 (.ref d) (.str z) (.ref d) ku (fun v' H'' => v' = v ∧ H'' = H2) I3 rfl r3 ⟨z, u, v, rfl, rfl, h1, h2, rfl, rfl⟩) fun b s4 ⟨vb, H4, I4, rb, e1, e2⟩ => ?_
  subst e1 e2
  exact ⟨_, p, F2, _, m2, I4, st3, ex3, rb, h3 _, q3⟩
end
end PL


/-! PLx: list of a module's dict; displays and get of owned dicts. -/
namespace PL
open PySem PySem.Spec PyProof.Rows L2
section
variable {X : Cx} {B : Bs} {e : Expr} {te : DE} {pos : Pos} {kvs : List (Str × PV)}
theorem keyOf_str {en : DictEntry} {z : Str} (h : (He.keyOf en).map (·.1) = some z) : ∃ t, en.key = .str z t := by
  unfold He.keyOf at h
  split at h
  · rename_i x t q
    simp at h
    subst h
    exact ⟨t, q⟩
  · cases h
theorem je_klist {x : Str} {px p : Pos} (D : GDict X.w X.K X.mg x kvs) (hc : X.calm = true) (hm0 : X.mg "list" = none) (hl : kvs.length ≤ 1000000) (hg0 : Gl X x := by rfl) (hd : (x == ("__debug__" : Str)) = false := by decide)
    (hg : Gl X "list" := by rfl) (he : starEach [.Name x px] X.env = (false, eval (.Name x px) X.env) :: starEach [] X.env := by rfl) :
    JE X B (.Call (.Name "list" p) [.Name x px] [] pos) (wC (.lst (kvs.map fun kv => .str kv.1))) := by
  refine ⟨fun R tk pins s σ F H ρ m Q I st h => ?_⟩
  obtain ⟨d, es, n, hm, kd, hk, hz⟩ := D.ex
  refine wpAny_Call_Name_kw (ld_blt (u := .type "list") I hg hm0 (by decide +kernel) ?_ (by decide) (by decide))
  refine PyProof.Rows.callWith_type1 ?_ he (by rfl)
  rw [he]
  refine Calls.spliced_cons (thn ((pe_glob (pos := px) hg0 hm (v := .ref d) rfl hd).run pins s σ H (fun v H' => v = .ref d ∧ H' = H) I ⟨rfl, rfl⟩) fun ov s2 ⟨v, H', I2, r2, e1, e3⟩ => ?_)
  subst e1 e3
  obtain rfl : ov = Value.ref d := r2
  refine Calls.spliced_nil ?_
  have ho := I2.kIn d _ kd.at_
  have hsz : es.size = kvs.length := by
    have := congrArg List.length hk
    simpa using this
  refine PySem.W.kdl_call (kdl_raw kd.low ⟨rfl, rfl, rfl⟩ rfl) (I.ok.hd hc) ho (by rw [hsz]; exact line6 hl) fun h' tk acc' c' kp e it => ?_
  have hi : ∀ (l : List Value) (ks : List Str), l.length = ks.length → (∀ (j : Nat) v, l[j]? = some v → ∃ z t, ks[j]? = some z ∧ v = .str z t) → ∃ vs, Vals vs l ∧ ∀ F, RepAll X.K F vs (ks.map PV.str) := by
    intro l
    induction l with
    | nil => intro ks h _; cases ks with
      | nil => exact ⟨[], .nil, fun F => .nil⟩
      | cons => simp at h
    | cons v l ih =>
      intro ks h f
      cases ks with
      | nil => simp at h
      | cons k ks =>
        obtain ⟨z, t, h1, h2⟩ := f 0 v rfl
        simp at h1
        subst h1 h2
        obtain ⟨vs, r1, r2⟩ := ih ks (by simpa using h) fun j w e => f (j + 1) w (by simpa using e)
        exact ⟨.str k :: vs, .cons ⟨t, rfl⟩ r1, fun F => .cons (.str k) (r2 F)⟩
  have key : ∃ vs, Vals vs acc'.toList ∧ ∀ F, RepAll X.K F vs (kvs.map fun kv => .str kv.1) := by
    obtain ⟨vs, r1, r2⟩ := hi acc'.toList (kvs.map (·.1)) (by rw [Array.length_toList, it.1, List.length_map, hsz]) fun j v hj => by
      obtain ⟨en, hen, hv⟩ := it.2 j v (by rw [← Array.getElem?_toList]; exact hj)
      have q : (es.toList.map fun e => (He.keyOf e).map (·.1))[j]? = (kvs.map fun kv => some kv.1)[j]? := by rw [hk]
      rw [List.getElem?_map, List.getElem?_map, Array.getElem?_toList, hen] at q
      cases hb : kvs[j]? with
      | none => rw [hb] at q; cases q
      | some b =>
        rw [hb] at q
        obtain ⟨t, ht⟩ := keyOf_str (Option.some.inj q)
        exact ⟨b.1, t, by rw [List.getElem?_map, hb]; rfl, by rw [hv, ht]⟩
    refine ⟨vs, r1, fun F => ?_⟩
    have := r2 F
    rw [List.map_map] at this
    exact this
  obtain ⟨vs, rv, rp⟩ := key
  have hn := I2.hok.fresh (Nat.le_refl s2.heap.objs.size)
  have I3 := I2.laid (t' := tk) (o := .lst vs) (a := s2.heap.objs.size) kp (Nat.le_refl _) ⟨by rw [rv.length, Array.length_toList, it.1, hsz]; exact line6 hl, acc'.toList, c', rv, by rw [Array.toArray_toList]; exact e⟩
  obtain ⟨st2, ex2⟩ := st.new (o := .lst vs) hn (fun ps z => nomatch z)
  exact ⟨.ref _, _, _, _, m, I3, st2, ex2, rfl, .lst upd_same (rp _), h⟩

/-! ### x.get(e, f) at an owned dict -/
theorem own_getd (hP : B.P = X.prog) (hu : X.A.units + 1 < cLine) {pins : List (Addr × Obj)} {F H : Hp} {σ : L2.St} {ρ : PEnv} {m : Mem} {s : Shared} {i : Nat} {kvs : List (Option Key × PV)} {D : Addr} {kp dp : PV} {k : Option Key} {kv dv : V} {ku du : Value} {E : Value → Shared → Prop} {Q : Value → Shared → Prop} (I : Inv X pins σ H s) (st : PSt X.w X.K B F σ H ρ m) (ho : ρ[i]? = some (some (.own (.dct kvs)))) (hσ : σ[i]? = some (some (.ref D)))
    (rk : RelV kv ku) (rkp : Rep X.K F kv kp) (rd : RelV dv du) (rdp : Rep X.K F dv dp) (hk : pvK kp = some k) (h : ∀ w' v s', Inv X pins σ H s' → RelV v w' → Rep X.K F v ((pval kvs k).getD dp) → Q w' s') : wpAny (model X.prog X.w) X.A (call (.builtin "dict.get") [.ref D, ku, du]) Q E s := by
  obtain ⟨a, h1, h2, h3, h4, h5⟩ := st.own i _ ho
  rw [hσ] at h1
  cases h1
  obtain ⟨vs, hH, hs, hl, r⟩ := h5
  rw [hP] at hH
  obtain ⟨dd, hx, hst⟩ := (show ObjOk X.prog X.w H s.heap D (.ext _) from I.hok D _ hH)
  refine call_meetsIn PySem.F.slot_dict_get dd.typeIs PySem.F.entry_dict_get (PySem.F.args_dict_get_3 _ _ _) (meets_dict_get_default (noneKind X.prog X.w) D (pvK_is hk rkp rk) hs du) ⟨_, dd.mapOf, ?_⟩
  rcases r.val k with ⟨e1, e⟩ | ⟨u, v, q, e1, e2, rv, rq⟩
  · rw [e1]
    exact h _ dv _ (I.tok _) rd (by rw [e]; exact rdp)
  · rw [e1]
    exact h _ v _ (I.tok _) rv (by rw [e2]; exact rq)
@[simp] def wDGetD (i : Nat) (te tf : DE) : DE := fun ρ m Q R => match at' ρ i with
  | some (.own (.dct kvs)) => te ρ m (fun kp m1 => tf ρ m1 (fun dp m2 => ∃ k, pvK kp = some k ∧ Q ((pval kvs k).getD dp) m2) R) R
  | _ => False
theorem je_dgetd {x : Str} {px apos cpos : Pos} {f : Expr} {tf : DE} (i : Nat) (hP : B.P = X.prog) (hu : X.A.units + 1 < cLine) (he : JE X B e te) (hf : JE X B f tf) (hi : X.N[i]? = some x := by rfl) (hv : Vis X.env.scope x := by first | exact Or.inl rfl | exact Or.inr (Or.inl rfl) | exact Or.inr (Or.inr rfl))
    (hd : (x == ("__debug__" : Str)) = false := by decide) (hcd : (x == ("__classdict__" : Str)) = false := by decide) (mm : M2 X (.Name x px) "get" apos e f cpos := by exact ⟨rfl, rfl, rfl, rfl⟩) :
    JE X B (.Call (.Attribute (.Name x px) "get" apos) [e, f] [] cpos) (wDGetD i te tf) := by
  refine ⟨fun R tk pins s σ F H ρ m Q I st h => ?_⟩
  unfold wDGetD at h
  split at h
  · rename_i kvs ho
    obtain ⟨hoo, a, hσ⟩ := pst_own (pins := pins) (s := s) st ho
    refine wpAny_Call_method mm.base mm.few mm.line PySem.F.plainAttrs_dict PySem.F.slot_dict_get PySem.F.type_dict_get (thn ((pe_var (pos := px) (i := i) hi hv hd hcd).run pins s σ H (fun v H' => v = .ref a ∧ H' = H) I ⟨_, hσ, rfl, rfl⟩) fun ov s2 ⟨v, H', I2, r2, e1, e3⟩ => ?_)
    subst e1 e3
    obtain rfl : ov = Value.ref a := r2
    refine ⟨own_type hP I2 st hoo hσ (fun xs z => nomatch z), fun b q => ?_, ?_⟩
    · cases q
      obtain ⟨a', h1, h2, h3, h4, h5⟩ := st.own i _ hoo
      rw [hσ] at h1
      cases h1
      obtain ⟨vs, hH, hs, hl, r⟩ := h5
      rw [hP] at hH
      obtain ⟨ob, _, _, h1, h2, _⟩ := (show ObjOk X.prog X.w H' s2.heap a (.ext _) from I2.hok a _ hH).1
      exact ⟨ob, h1, h2.2.1⟩
    · rw [mm.trees]
      refine Calls.callWith_builtin rfl (Calls.evalArgs_plain (Calls.spliced_cons (thn (he.run R tk pins s2 σ F H' ρ m _ I2 st h) fun ku s3 ⟨kv, kp, F2, H2, m2, I3, st3, ex3, r3, rp3, q3⟩ => Calls.spliced_cons (thn (hf.run R tk pins s3 σ F2 H2 ρ m2 _ I3 st3 q3) fun du s4 ⟨dv, dp, F4, H4, m4, I4, st4, ex4, r4, rp4, k, hk, q4⟩ => Calls.spliced_nil ?_))))
      exact own_getd hP hu I4 st4 hoo hσ r3 (rp3.mono ex4.fz) r4 rp4 hk fun w' v s5 I5 rv rp => ⟨v, _, F4, H4, m4, I5, st4, ex3.trans ex4, rv, rp, q4⟩
  · exact h.elim

/-! ### x = {k: v, ..}: keys None, ints, texts -/
abbrev DPs := PEnv → Mem → (List (PV × PV) → Mem → Prop) → KX → Prop
abbrev PPV (K : PySem.W.Frag) (F : Hp) : List (PV × PV) → List (Value × Value) → Prop := Paired fun p q => (∃ v, RelV v q.1 ∧ Rep K F v p.1) ∧ ∃ v, RelV v q.2 ∧ Rep K F v p.2
theorem PPV.mono {K : PySem.W.Frag} {F F' : Hp} (e : Same F F') {xs : List (PV × PV)} {ys : List (Value × Value)} (r : PPV K F xs ys) : PPV K F' xs ys := Paired.mapP r fun p q ⟨⟨v, h1, h2⟩, u, h3, h4⟩ => ⟨⟨v, h1, h2.mono e⟩, u, h3, h4.mono e⟩
structure JPs (X : Cx) (B : Bs) (pos : Pos) (keys : List (Option Expr)) (values : List Expr) (t : DPs) : Prop where
  run : ∀ (R : PX), L2N.Takes X (WR X B R) → ∀ (pins : List (Addr × Obj)) (s : Shared) (σ : L2.St) (F H : Hp) (ρ : PEnv) (m : Mem) (Q : List (PV × PV) → Mem → Prop), Inv X pins σ H s → PSt X.w X.K B F σ H ρ m → t ρ m Q (R ρ) →
    wpAny (model X.prog X.w) X.A (evalPairs (pairTrees keys values X.env pos)) (fun vs s' => ∃ ps F' H' m', Inv X pins σ H' s' ∧ PSt X.w X.K B F' σ H' ρ m' ∧ Ext F H m F' H' m' ∧ PPV X.K F' ps vs ∧ Q ps m') X.xe s
@[simp] def wPn : DPs := fun _ m Q _ => Q [] m
@[simp] def wPc (tk tv : DE) (t : DPs) : DPs := fun ρ m Q R => tk ρ m (fun k m1 => tv ρ m1 (fun v m2 => t ρ m2 (fun ps m3 => Q ((k, v) :: ps) m3) R) R) R
theorem jp_nil : JPs X B pos [] [] wPn := ⟨fun R tk pins s σ F H ρ m Q I st h => pairTrees_nil_walk ⟨[], F, H, m, I, st, Ext.refl _ _ _, .nil, h⟩⟩
theorem jp_cons {k v : Expr} {ks : List (Option Expr)} {vs : List Expr} {tk' tv : DE} {t : DPs} (hk : JE X B k tk') (hv : JE X B v tv) (hr : JPs X B pos ks vs t) : JPs X B pos (some k :: ks) (v :: vs) (wPc tk' tv t) :=
  ⟨fun R tk pins s σ F H ρ m Q I st h => pairTrees_cons_walk (thn (hk.run R tk pins s σ F H ρ m _ I st h) fun u s1 ⟨x, xp, F1, H1, m1, I1, st1, ex1, rx, rpx, q1⟩ => thn (hv.run R tk pins s1 σ F1 H1 ρ m1 _ I1 st1 q1) fun w2 s2 ⟨y, yp, F2, H2, m2, I2, st2, ex2, ry, rpy, q2⟩ =>
    thn (hr.run R tk pins s2 σ F2 H2 ρ m2 _ I2 st2 q2) fun ws s3 ⟨ps, F3, H3, m3, I3, st3, ex3, rel, q3⟩ => ⟨_, F3, H3, m3, I3, st3, (ex1.trans ex2).trans ex3, .cons ⟨⟨x, rx, rpx.mono (ex2.trans ex3).fz⟩, y, ry, rpy.mono ex3.fz⟩ rel, q3⟩)⟩
def pKs : List (PV × PV) → Option (List (Option Key × PV))
  | [] => some []
  | p :: r => match pvK p.1, pKs r with
    | some k, some l => some ((k, p.2) :: l)
    | _, _ => none
@[simp] def pMerge (kvs more : List (Option Key × PV)) : List (Option Key × PV) := more.foldl (fun acc kv => pput acc kv.1 kv.2) kvs
theorem pMerge_len : ∀ (more kvs : List (Option Key × PV)), (pMerge kvs more).length ≤ kvs.length + more.length
  | [], kvs => Nat.le_refl _
  | p :: r, kvs => by
    have h1 := pMerge_len r (pput kvs p.1 p.2)
    have h2 := pput_len kvs p.1 p.2
    show (pMerge (pput kvs p.1 p.2) r).length ≤ _
    rw [List.length_cons]
    omega
theorem carries_pv {P : Program} {w : World} {K : PySem.W.Frag} {F : Hp} : ∀ {ps : List (PV × PV)} {vs : List (Value × Value)} {kvs : List (Option Key × PV)}, PPV K F ps vs → pKs ps = some kvs → ∃ rs, Carries (noneKind P w) vs rs ∧ DPair K F kvs rs ∧ kvs.length = ps.length
  | [], _, kvs, r, h => by
    cases r
    simp [pKs] at h
    subst h
    exact ⟨[], True.intro, .nil, rfl⟩
  | p :: ps, _, kvs, r, h => by
    cases r with
    | @cons a b as bs hd t =>
      simp only [pKs] at h
      split at h
      · rename_i k l e1 e2
        cases h
        obtain ⟨rs, c, q, hl⟩ := carries_pv (P := P) (w := w) t e2
        obtain ⟨⟨v, r1, r2⟩, u, r3, r4⟩ := hd
        obtain ⟨b1, b2⟩ := b
        exact ⟨(k, b2) :: rs, ⟨pvK_is e1 r2 r1, rfl, c⟩, .cons ⟨rfl, u, r3, r4⟩ q, by simp [hl]⟩
      · cases h
theorem dpair_merge {K : PySem.W.Frag} {F : Hp} : ∀ {more : List (Option Key × PV)} {rs : List (Option Key × Value)} {kvs : List (Option Key × PV)} {vs : List (Option Key × Value)}, DPair K F more rs → DPair K F kvs vs → DPair K F (pMerge kvs more) (merged vs rs) := by
  intro more rs kvs vs r
  unfold DPair at r
  induction r generalizing kvs vs with
  | nil => intro q; exact q
  | @cons p q ps qs h t ih =>
    intro r0
    have e : DPair K F (pput kvs p.1 p.2) (stored vs q.1 q.2) := by
      obtain ⟨v, rv, rp⟩ := h.2
      have := r0.put p.1 rv rp
      rw [← h.1]
      exact this
    exact ih e
theorem put_put (ρ : PEnv) (i : Nat) (v u : Option SV) : put (put ρ i v) i u = put ρ i u := by
  rw [put_set, put_set, put_set, List.set_set]
@[simp] def wDisp (i : Nat) (t : DPs) : DS := fun ρ m D => t ρ m (fun ps m1 => ∃ kvs, pKs ps = some kvs ∧ kvs.length ≤ 15 ∧ D.nx (put ρ i (some (.own (.dct (pMerge [] kvs))))) m1) (D.ex ρ)
theorem js_disp {x : Str} {pos' k : Pos} {keys : List (Option Expr)} {values : List Expr} {t : DPs} (i : Nat) (hP : B.P = X.prog) (hN : X.N.Nodup) (hp : JPs X B k keys values t) (hall : keys.all (·.isSome) = true := by rfl) (hl : keys.length = values.length := by rfl) (h0 : keys ≠ [] := by exact List.cons_ne_nil _ _) (h15 : keys.length ≤ 15 := by decide)
    (hi : X.N[i]? = some x := by rfl) (hx : Loc X.env.scope x := by first | exact Or.inl rfl | exact Or.inr rfl) (hs : swapsWith (.Dict keys values k) (some (.Name x pos')) pos.line X.env = pure false := by rfl) (hf : X.fn x = true ∨ X.env.scope.names.lookup x = some .local := by first | exact .inl rfl | exact .inr rfl | assumption) :
    JS X B (.Assign [.Name x pos'] (.Dict keys values k) pos) (wDisp i t) := by
  refine ⟨fun D tk pins s σ F H ρ m I st h => ?_⟩
  have hfr := I.hok.fresh (Nat.le_refl s.heap.objs.size)
  have keep : ∀ (b : Addr) q, s.heap.get? b = some q → (s.heap.push { cls := .type "dict", data := .dict #[] }).get? b = some q := fun _ _ q => Heap.get?_push_of_some _ q
  have nt : ∀ vs, noTbl (dictO X.prog X.w s.heap.objs.size vs) := fun vs ps z => by unfold dictO at z; cases z
  have I1 := I.laid (a := s.heap.objs.size) (o := dictO X.prog X.w s.heap.objs.size []) (h' := s.heap.push { cls := .type "dict", data := .dict #[] }) (t' := s.toks) keep (Nat.le_refl _) ⟨Heap.DictOf.new s.heap, ⟨_, Heap.get?_push_size _ rfl⟩, dictOf_stay⟩
  have ex1 : Ext F H m F (L2.upd H s.heap.objs.size (dictO X.prog X.w s.heap.objs.size [])) m := Ext.newH st.sub hfr
  have st1 : PSt X.w X.K B F σ (L2.upd H s.heap.objs.size (dictO X.prog X.w s.heap.objs.size [])) ρ m := st.newH hfr
  obtain ⟨f1, f2, f3, f4, f5⟩ := free_fresh (s := s) (pins := pins) st hfr (nt [])
  refine wpAny_Assign_Name (wpAny_Dict_walk (knd := noneKind X.prog X.w) hall hl h0 h15 (thn (hp.run D.ex tk pins _ σ F _ ρ m _ I1 st1 h) fun ws s2 ⟨ps, F2, H2, m2, I2, st2, ex2, rel, kvs, ek, hkl, q2⟩ => ?_)) hs
  have hH2 : H2 s.heap.objs.size = some (dictO X.prog X.w s.heap.objs.size []) := ex2.kp _ _ upd_same (nt []) f2
  obtain ⟨rs, c, rk, hlen⟩ := carries_pv (P := X.prog) (w := X.w) rel ek
  obtain ⟨dd, hx', hst⟩ := (show ObjOk X.prog X.w H2 s2.heap s.heap.objs.size (.ext _) from I2.hok _ _ hH2)
  refine ⟨rs, c, dd, fun h' dd' hsb => ?_⟩
  have he : ∃ q, h'.get? s.heap.objs.size = some q := let ⟨q, _, _, hq, _⟩ := dd'; ⟨q, hq⟩
  have I3 := I2.write (t' := s2.toks + ws.length) (x := s.heap.objs.size) (e := s.heap.objs.size) (o := dictO X.prog X.w s.heap.objs.size (merged [] rs)) (by rw [hH2]; exact True.intro) (.inl rfl) (fun b q hb z => (hsb.2 b hb).trans z) he ⟨dd', he, dictOf_stay⟩
  have free2 : Free B F2 H2 σ ρ m2 s.heap.objs.size := ⟨ex2.ff _ _ upd_same (nt []) f1, ex2.mf _ _ upd_same (nt []) f2, f3, ⟨_, hH2, nt []⟩, f5⟩
  have hlt := slot_lt (w := X.w) (K := X.K) I2 hi
  have st3 := st2.putOwn (o := .dct []) hlt free2 ⟨[], by rw [hP]; exact hH2, sys_ne I, Nat.zero_le _, .nil⟩
  refine store_ok (v := .ref s.heap.objs.size) I3 hN hi hx rfl (fun s5 I5 => ⟨_, F2, _, _, m2, I5, ?_, (ex1.trans ex2).fz, q2⟩) hf
  have hn := nc_of I2 (D := s.heap.objs.size) (by
    obtain ⟨q, _, _, hq, _, hd, _⟩ := dd
    exact ⟨q, hq, fun vs z => by rw [hd] at z; cases z⟩)
  have st4 := st3.setOwn (i := i) (o := .dct []) (o' := .dct (pMerge [] kvs)) (u := dictO X.prog X.w s.heap.objs.size (merged [] rs)) (by rw [put_set, List.getElem?_set_self (by rw [st2.len]; exact hlt)]) (by rw [List.getElem?_set_self hlt]) hn ⟨_, by rw [hP]; exact upd_same, sys_ne I, (by have := pMerge_len kvs []; simp at this; simp; omega), dpair_merge rk .nil⟩
  rw [put_put] at st4
  exact st4
end
end PL


/-! PLy: the package's values, plainly: whole numbers, rows, predicates. -/
namespace PL
open PySem PySem.Spec PyProof.Rows L2
/-! ### a module's value -/
structure GVal (K : PySem.W.Frag) (mg : Str → Option Value) (x : Str) (p : PV) : Prop where
  ex : ∃ u v, mg x = some u ∧ RelV v u ∧ ∀ F, Rep K F v p
theorem je_gval {X : Cx} {B : Bs} {x : Str} {p : PV} {pos : Pos} (h : GVal X.K X.mg x p) (hg : Gl X x := by rfl) (hd : (x == ("__debug__" : Str)) = false := by decide) : JE X B (.Name x pos) (wC p) := by
  obtain ⟨u, v, h1, h2, h3⟩ := h.ex
  exact je_glob h1 h2 h3 hg hd
/-! ### whole numbers, rows -/
def isWhole (p : PV) (lo hi : Int) : Bool := match p with
  | .int i => decide (lo ≤ i) && decide (i ≤ hi)
  | _ => false
def isVal (p : PV) : Bool := match p with
  | .non => true
  | p => isWhole p (-1000000000000) 1000000000000
def isLit (p : PV) : Bool := match p with
  | .non => true
  | p => isWhole p (-1000) 1000
abbrev Row := List (Option Int)
def oP : Option Int → PV
  | none => .non
  | some i => .int i
def rowP (r : Row) : PV := .tup (r.map oP)
/-! ### predicates -/
inductive Op4 where
  | eq | ne | lt | le
  deriving DecidableEq
def Op4.s : Op4 → Str
  | .eq => "="
  | .ne => "!="
  | .lt => "<"
  | .le => "<="
inductive Opd where
  | col (i : Int)
  | lit (v : Option Int)
  deriving DecidableEq
def opdP : Opd → PV
  | .col i => .tup [.str "column", .int i]
  | .lit v => .tup [.str "value", oP v]
def truthS : Option Bool → Str
  | some true => "true"
  | some false => "false"
  | none => "unknown"
inductive Pr where
  | cst (t : Option Bool)
  | cmp (o : Op4) (a b : Opd)
  | inn (a : Opd) (l : Row)
  | qnt (all : Bool) (o : Op4) (a : Opd) (l : Row)
  | nul (a : Opd)
  | nott (p : Pr)
  | bin (or : Bool) (p q : Pr)
  | iss (t : Option Bool) (p : Pr)
  deriving DecidableEq
def prP : Pr → PV
  | .cst t => .tup [.str (truthS t)]
  | .cmp o a b => .tup [.str "compare", .str o.s, opdP a, opdP b]
  | .inn a l => .tup [.str "in", opdP a, rowP l]
  | .qnt al o a l => .tup [.str (if al then "all" else "any"), .str o.s, opdP a, rowP l]
  | .nul a => .tup [.str "null", opdP a]
  | .nott p => .tup [.str "not", prP p]
  | .bin or p q => .tup [.str (if or then "or" else "and"), prP p, prP q]
  | .iss t p => .tup [.str "is", .str (truthS t), prP p]
def Pr.depth : Pr → Nat
  | .nott p => p.depth + 1
  | .bin _ p q => max p.depth q.depth + 1
  | .iss _ p => p.depth + 1
  | _ => 1
abbrev opNames : List Str := ["=", "!=", "<", "<="]
abbrev truthNames : List Str := ["true", "false", "unknown"]
abbrev opsP : PV := .tup [.str "=", .str "!=", .str "<", .str "<="]
abbrev truthsK : List (Str × PV) := [("true", .bl true), ("false", .bl false), ("unknown", .non)]
def isOpd (w : Int) (p : PV) : Bool := match p with
  | .tup [.str s, v] => if s = "column" then isWhole v 0 (w - 1) else decide (s = "value") && isLit v
  | _ => false
def isRowP (p : PV) : Bool := match p with
  | .tup xs => decide (xs.length ≤ 4) && xs.all isLit
  | _ => false
def isWord (ws : List Str) (p : PV) : Bool := match p with
  | .str s => decide (s ∈ ws)
  | _ => false
/-- of the right form, of at most d levels -/
def fitsB (w : Int) : Nat → PV → Bool
  | d + 1, .tup (.str s :: r) =>
    if s = "true" ∨ s = "false" ∨ s = "unknown" then r.isEmpty
    else if s = "compare" then (match r with | [o, a, b] => isWord opNames o && isOpd w a && isOpd w b | _ => false)
    else if s = "in" then (match r with | [a, l] => isOpd w a && isRowP l | _ => false)
    else if s = "any" ∨ s = "all" then (match r with | [o, a, l] => isWord opNames o && isOpd w a && isRowP l | _ => false)
    else if s = "null" then (match r with | [a] => isOpd w a | _ => false)
    else if s = "not" then (match r with | [p] => fitsB w d p | _ => false)
    else if s = "and" ∨ s = "or" then (match r with | [p, q] => fitsB w d p && fitsB w d q | _ => false)
    else if s = "is" then (match r with | [t, p] => isWord truthNames t && fitsB w d p | _ => false)
    else false
  | _, _ => false
/-! ### what fits is a predicate -/
def litOk (v : Option Int) : Bool := match v with
  | none => true
  | some i => decide (-1000 ≤ i) && decide (i ≤ 1000)
def Opd.ok (w : Int) : Opd → Bool
  | .col i => decide (0 ≤ i) && decide (i ≤ w - 1)
  | .lit v => litOk v
def lstOk (l : Row) : Bool := decide (l.length ≤ 4) && l.all litOk
def Pr.ok (w : Int) : Pr → Bool
  | .cst _ => true
  | .cmp _ a b => a.ok w && b.ok w
  | .inn a l => a.ok w && lstOk l
  | .qnt _ _ a l => a.ok w && lstOk l
  | .nul a => a.ok w
  | .nott p => p.ok w
  | .bin _ p q => p.ok w && q.ok w
  | .iss _ p => p.ok w
theorem isLit_oP (v : Option Int) : isLit (oP v) = litOk v := by cases v <;> rfl
theorem isLit_is {p : PV} (h : isLit p = true) : ∃ v, p = oP v ∧ litOk v = true := by
  cases p <;> first | (cases h; done) | skip
  · exact ⟨none, rfl, rfl⟩
  · rename_i i; exact ⟨some i, rfl, h⟩
theorem isLits_is : ∀ {xs : List PV}, xs.all isLit = true → ∃ l : Row, xs = l.map oP ∧ l.all litOk = true
  | [], _ => ⟨[], rfl, rfl⟩
  | x :: xs, h => by
    simp only [List.all_cons, Bool.and_eq_true] at h
    obtain ⟨v, rfl, h1⟩ := isLit_is h.1
    obtain ⟨l, rfl, h2⟩ := isLits_is h.2
    exact ⟨v :: l, rfl, by simp [h1, h2]⟩
theorem isRowP_is {p : PV} (h : isRowP p = true) : ∃ l, p = rowP l ∧ lstOk l = true := by
  cases p <;> first | (cases h; done) | skip
  rename_i xs
  simp only [isRowP, Bool.and_eq_true] at h
  obtain ⟨l, rfl, h2⟩ := isLits_is h.2
  exact ⟨l, rfl, by simpa [lstOk, h2] using h.1⟩
theorem isRowP_row (l : Row) : isRowP (rowP l) = lstOk l := by
  have e : (isLit ∘ oP) = litOk := funext isLit_oP
  simp [isRowP, rowP, lstOk, List.all_map, e]
theorem isOpd_is {w : Int} {p : PV} (h : isOpd w p = true) : ∃ a : Opd, p = opdP a ∧ a.ok w = true := by
  unfold isOpd at h
  split at h
  · rename_i s v
    split at h
    · rename_i e
      subst e
      cases v <;> first | (cases h; done) | skip
      rename_i i
      exact ⟨.col i, rfl, h⟩
    · simp only [Bool.and_eq_true, decide_eq_true_eq] at h
      obtain ⟨rfl, h⟩ := h
      obtain ⟨v, rfl, h2⟩ := isLit_is h
      exact ⟨.lit v, rfl, h2⟩
  · cases h
theorem isOpd_P (w : Int) (a : Opd) : isOpd w (opdP a) = a.ok w := by
  cases a with
  | col i => simp (decide := true) [isOpd, opdP, Opd.ok, isWhole]
  | lit v => simp (decide := true) [isOpd, opdP, Opd.ok, isLit_oP]
theorem isWord_op {p : PV} (h : isWord opNames p = true) : ∃ o : Op4, p = .str o.s := by
  cases p <;> first | (cases h; done) | skip
  rename_i s
  simp only [isWord, opNames, decide_eq_true_eq, List.mem_cons, List.not_mem_nil, or_false] at h
  rcases h with rfl | rfl | rfl | rfl
  · exact ⟨.eq, rfl⟩
  · exact ⟨.ne, rfl⟩
  · exact ⟨.lt, rfl⟩
  · exact ⟨.le, rfl⟩
theorem isWord_opP (o : Op4) : isWord opNames (.str o.s) = true := by cases o <;> decide
theorem isWord_truth {p : PV} (h : isWord truthNames p = true) : ∃ t, p = .str (truthS t) := by
  cases p <;> first | (cases h; done) | skip
  rename_i s
  simp only [isWord, truthNames, decide_eq_true_eq, List.mem_cons, List.not_mem_nil, or_false] at h
  rcases h with rfl | rfl | rfl
  · exact ⟨some true, rfl⟩
  · exact ⟨some false, rfl⟩
  · exact ⟨none, rfl⟩
theorem isWord_truthP (t : Option Bool) : isWord truthNames (.str (truthS t)) = true := by rcases t with _ | _ | _ <;> decide
theorem fits_is {w : Int} : ∀ {d : Nat} {v : PV}, fitsB w d v = true → ∃ p : Pr, v = prP p ∧ p.ok w = true ∧ p.depth ≤ d := by
  intro d
  induction d with
  | zero => intro v h; unfold fitsB at h; cases h
  | succ d ih =>
    intro v h
    unfold fitsB at h
    split at h
    · rename_i d' s r e
      cases e
      split at h
      · rename_i e
        have hr : r = [] := by simpa using h
        subst hr
        rcases e with rfl | rfl | rfl
        · exact ⟨.cst (some true), rfl, rfl, by simp [Pr.depth]⟩
        · exact ⟨.cst (some false), rfl, rfl, by simp [Pr.depth]⟩
        · exact ⟨.cst none, rfl, rfl, by simp [Pr.depth]⟩
      split at h
      · rename_i e
        subst e
        split at h
        · rename_i o a b
          simp only [Bool.and_eq_true] at h
          obtain ⟨⟨h1, h2⟩, h3⟩ := h
          obtain ⟨o, rfl⟩ := isWord_op h1
          obtain ⟨a, rfl, ha⟩ := isOpd_is h2
          obtain ⟨b, rfl, hb⟩ := isOpd_is h3
          exact ⟨.cmp o a b, rfl, by simp [Pr.ok, ha, hb], by simp [Pr.depth]⟩
        · cases h
      split at h
      · rename_i e
        subst e
        split at h
        · rename_i a l
          simp only [Bool.and_eq_true] at h
          obtain ⟨a, rfl, ha⟩ := isOpd_is h.1
          obtain ⟨l, rfl, hl⟩ := isRowP_is h.2
          exact ⟨.inn a l, rfl, by simp [Pr.ok, ha, hl], by simp [Pr.depth]⟩
        · cases h
      split at h
      · rename_i e
        split at h
        · rename_i o a l
          simp only [Bool.and_eq_true] at h
          obtain ⟨⟨h1, h2⟩, h3⟩ := h
          obtain ⟨o, rfl⟩ := isWord_op h1
          obtain ⟨a, rfl, ha⟩ := isOpd_is h2
          obtain ⟨l, rfl, hl⟩ := isRowP_is h3
          rcases e with rfl | rfl
          · exact ⟨.qnt false o a l, rfl, by simp [Pr.ok, ha, hl], by simp [Pr.depth]⟩
          · exact ⟨.qnt true o a l, rfl, by simp [Pr.ok, ha, hl], by simp [Pr.depth]⟩
        · cases h
      split at h
      · rename_i e
        subst e
        split at h
        · obtain ⟨a, rfl, ha⟩ := isOpd_is h
          exact ⟨.nul a, rfl, ha, by simp [Pr.depth]⟩
        · cases h
      split at h
      · rename_i e
        subst e
        split at h
        · obtain ⟨p, rfl, h1, h2⟩ := ih h
          exact ⟨.nott p, rfl, h1, by simp [Pr.depth]; omega⟩
        · cases h
      split at h
      · rename_i e
        split at h
        · simp only [Bool.and_eq_true] at h
          obtain ⟨p, rfl, h1, h2⟩ := ih h.1
          obtain ⟨q, rfl, h3, h4⟩ := ih h.2
          rcases e with rfl | rfl
          · exact ⟨.bin false p q, rfl, by simp [Pr.ok, h1, h3], by simp [Pr.depth]; omega⟩
          · exact ⟨.bin true p q, rfl, by simp [Pr.ok, h1, h3], by simp [Pr.depth]; omega⟩
        · cases h
      split at h
      · rename_i e
        subst e
        split at h
        · simp only [Bool.and_eq_true] at h
          obtain ⟨t, rfl⟩ := isWord_truth h.1
          obtain ⟨p, rfl, h1, h2⟩ := ih h.2
          exact ⟨.iss t p, rfl, h1, by simp [Pr.depth]; omega⟩
        · cases h
      · cases h
    · cases h
theorem fits_P {w : Int} : ∀ {p : Pr} {d : Nat}, p.ok w = true → p.depth ≤ d → fitsB w d (prP p) = true := by
  intro p
  induction p with
  | cst t => intro d h1 h2; obtain ⟨d, rfl⟩ : ∃ e, d = e + 1 := ⟨d - 1, by simp [Pr.depth] at h2; omega⟩; rcases t with _ | _ | _ <;> simp (decide := true) [prP, fitsB]
  | cmp o a b =>
    intro d h1 h2; obtain ⟨d, rfl⟩ : ∃ e, d = e + 1 := ⟨d - 1, by simp [Pr.depth] at h2; omega⟩
    simp only [Pr.ok, Bool.and_eq_true] at h1
    simp (decide := true) [prP, fitsB, isOpd_P, h1, isWord_opP]
  | inn a l =>
    intro d h1 h2; obtain ⟨d, rfl⟩ : ∃ e, d = e + 1 := ⟨d - 1, by simp [Pr.depth] at h2; omega⟩
    simp only [Pr.ok, Bool.and_eq_true] at h1
    simp (decide := true) [prP, fitsB, isOpd_P, isRowP_row, h1]
  | qnt al o a l =>
    intro d h1 h2; obtain ⟨d, rfl⟩ : ∃ e, d = e + 1 := ⟨d - 1, by simp [Pr.depth] at h2; omega⟩
    simp only [Pr.ok, Bool.and_eq_true] at h1
    cases al <;> simp (decide := true) [prP, fitsB, isOpd_P, isRowP_row, h1, isWord_opP]
  | nul a =>
    intro d h1 h2; obtain ⟨d, rfl⟩ : ∃ e, d = e + 1 := ⟨d - 1, by simp [Pr.depth] at h2; omega⟩
    simp only [Pr.ok] at h1
    simp (decide := true) [prP, fitsB, isOpd_P, h1]
  | nott p ih =>
    intro d h1 h2; obtain ⟨d, rfl⟩ : ∃ e, d = e + 1 := ⟨d - 1, by simp [Pr.depth] at h2; omega⟩
    simp only [Pr.ok] at h1
    have := ih h1 (d := d) (by simp [Pr.depth] at h2; omega)
    simp (decide := true) [prP, fitsB, this]
  | bin or p q ih1 ih2 =>
    intro d h1 h2; obtain ⟨d, rfl⟩ : ∃ e, d = e + 1 := ⟨d - 1, by simp [Pr.depth] at h2; omega⟩
    simp only [Pr.ok, Bool.and_eq_true] at h1
    have a := ih1 h1.1 (d := d) (by simp [Pr.depth] at h2; omega)
    have b := ih2 h1.2 (d := d) (by simp [Pr.depth] at h2; omega)
    cases or <;> simp (decide := true) [prP, fitsB, a, b]
  | iss t p ih =>
    intro d h1 h2; obtain ⟨d, rfl⟩ : ∃ e, d = e + 1 := ⟨d - 1, by simp [Pr.depth] at h2; omega⟩
    simp only [Pr.ok] at h1
    have := ih h1 (d := d) (by simp [Pr.depth] at h2; omega)
    simp (decide := true) [prP, fitsB, this, isWord_truthP]
/-! ### its parts, its integers -/
def Pr.places : Pr → List Int
  | .nott _ => [1]
  | .bin _ _ _ => [1, 2]
  | .iss _ _ => [2]
  | _ => []
def Pr.parts : Pr → List (List Int × Pr)
  | .nott p => ([], .nott p) :: (p.parts).map fun x => (1 :: x.1, x.2)
  | .bin or p q => ([], .bin or p q) :: ((p.parts).map (fun x => (1 :: x.1, x.2)) ++ (q.parts).map fun x => (2 :: x.1, x.2))
  | .iss t p => ([], .iss t p) :: (p.parts).map fun x => (2 :: x.1, x.2)
  | p => [([], p)]
def Opd.lits : Opd → Row
  | .col _ => []
  | .lit v => [v]
def Pr.lits : Pr → Row
  | .cmp _ a b => a.lits ++ b.lits
  | .inn a l => l ++ a.lits
  | .qnt _ _ a l => l ++ a.lits
  | .nul a => a.lits
  | _ => []
def addI (acc : List Int) (i : Int) : List Int := if i ∈ acc then acc else acc ++ [i]
def Pr.allLits (p : Pr) : List Int := (p.parts.flatMap fun x => x.2.lits).filterMap id
def Pr.ints (p : Pr) : List Int := sortI (p.allLits.foldl addI [])
def Pr.good (w : Int) (p : Pr) : Bool := p.ok w && decide (p.depth ≤ 6) && decide (p.parts.length ≤ 15) && decide (p.ints.length ≤ 3)
def pathP (l : List Int) : PV := .tup (l.map PV.int)
def partP (x : List Int × Pr) : PV := .tup [pathP x.1, prP x.2]
end PL


/-! PLz: defs that call themselves; tests of a module's dict. -/
namespace PL
open PySem PySem.Spec PyProof.Rows L2
section
variable {P : Program} {w : World} {K : PySem.W.Frag} {mg : Str → Option Value} {base : Heap} {T : List (Addr × Str)}
theorem fn_vac {k n : Nat} {f : Addr} {fd : FuncData} {ps : List Str} {S : SpP} (h : ∀ ps m Q R, ¬ S ps m Q R) : FnOk P w K mg base (L2N.CX P w) k f fd ps (spOf w K T n S) := by
  refine ⟨fun vs H Q E q => ?_, fun A outer s H args us vs Q E _ _ _ _ q => ?_⟩
  · obtain ⟨F0, m, qs, Qp, Rp, h1, h2, h3, h4, h5, h6, hS, hQ⟩ := q
    exact (h _ _ _ _ hS).elim
  · obtain ⟨F0, m, qs, Qp, Rp, h1, h2, h3, h4, h5, h6, hS, hQ⟩ := q
    exact (h _ _ _ _ hS).elim
theorem ok_rec {k0 ar : Nat} {x : Str} {f : Addr} {fd : FuncData} {ps : List Str} {S : Nat → SpP} (hm : mg x = some (.ref f)) (hk : PySem.W.keepIn K (.ref f) = true) (hb : Binds K fd ps []) (h0 : ∀ ps m Q R, ¬ S 0 ps m Q R)
    (step : ∀ n, CalM P w K mg base T (k0 + n) x ar (S n) → FnOk P w K mg base (L2N.CX P w) (k0 + n + 1) f fd ps (spOf w K T ar (S (n + 1)))) : ∀ n, FnOk P w K mg base (L2N.CX P w) (k0 + n) f fd ps (spOf w K T ar (S n))
  | 0 => fn_vac h0
  | n + 1 => step n (cal_of (ok_rec hm hk hb h0 step n) hm hk hb)
end
section
variable {X : Cx} {B : Bs} {e : Expr} {te : DE} {pos : Pos} {kvs : List (Str × PV)}
theorem jt_kin {x : Str} {px : Pos} (D : GDict X.w X.K X.mg x kvs) (he : JE X B e te) (hg : Gl X x := by rfl) (hd : (x == ("__debug__" : Str)) = false := by decide) :
    JT X B (.Compare e [.In] [.Name x px] pos) (wTst (wKIn kvs false te)) := by
  refine ⟨fun R tk pins s σ F H ρ m Q I st h => ?_⟩
  obtain ⟨d, es, n, hm, kd, _, hz⟩ := D.ex
  refine wpAny_isTrue_Compare1 (thn (he.run R tk pins s σ F H ρ m _ I st h) fun ku s3 ⟨kv, kp, F2, H2, m2, I3, st3, ex3, r3, rp3, z, ez, q3⟩ => ?_) rfl
  subst ez
  cases rp3
  refine thn ((pe_glob (pos := px) hg hm (v := .ref d) rfl hd).run pins s3 σ H2 (fun v H' => v = .ref d ∧ H' = H2) I3 ⟨rfl, rfl⟩) fun ov s2 ⟨v, H', I2, r2, e1, e3⟩ => ?_
  subst e1 e3
  obtain ⟨r, hr, hb⟩ := gd_in (w := X.w) (hz z)
  refine thn (op_in_kd kd pins s2 σ H' (.str z) (.ref d) ku ov (fun v H'' => v = .bl r.isSome ∧ H'' = H') I2 r3 r2 ⟨z, r, rfl, rfl, hr, rfl, rfl⟩) fun b s4 ⟨vb, H4, I4, rb, e1, e2⟩ => ?_
  subst e1 e2
  rw [hb] at rb
  obtain rfl : b = Value.bool _ := rb
  exact wpAny_truthy_bool ⟨F2, _, m2, I4, st3, ex3, by simpa using q3⟩
end
/-! ### small facts for simp -/
theorem atI_pos {xs : List PV} {i : Int} (h0 : 0 ≤ i) (h1 : i < xs.length) : atI xs i = xs[i.toNat]? := by simp [atI, ixN, h0, h1]
theorem atI_neg {xs : List PV} {i : Int} (h0 : i < 0) (h1 : -(xs.length : Int) ≤ i) : atI xs i = xs[(i + xs.length).toNat]? := by
  have h2 : ¬ 0 ≤ i := by omega
  simp [atI, ixN, h2, h1]
@[simp] theorem atI_0 (a : PV) (l : List PV) : atI (a :: l) 0 = some a := by rw [atI_pos (by decide) (by simp only [List.length_cons]; omega)]; rfl
@[simp] theorem atI_1 (a b : PV) (l : List PV) : atI (a :: b :: l) 1 = some b := by rw [atI_pos (by decide) (by simp only [List.length_cons]; omega)]; rfl
@[simp] theorem atI_2 (a b c : PV) (l : List PV) : atI (a :: b :: c :: l) 2 = some c := by rw [atI_pos (by decide) (by simp only [List.length_cons]; omega)]; rfl
@[simp] theorem atI_3 (a b c d : PV) (l : List PV) : atI (a :: b :: c :: d :: l) 3 = some d := by rw [atI_pos (by decide) (by simp only [List.length_cons]; omega)]; rfl
@[simp] theorem ok_w0 : PyData.strOk ("column" : Str) = true := by decide +kernel
@[simp] theorem ok_w1 : PyData.strOk ("value" : Str) = true := by decide +kernel
@[simp] theorem ok_w2 : PyData.strOk ("true" : Str) = true := by decide +kernel
@[simp] theorem ok_w3 : PyData.strOk ("false" : Str) = true := by decide +kernel
@[simp] theorem ok_w4 : PyData.strOk ("unknown" : Str) = true := by decide +kernel
@[simp] theorem ok_w5 : PyData.strOk ("compare" : Str) = true := by decide +kernel
@[simp] theorem ok_w6 : PyData.strOk ("in" : Str) = true := by decide +kernel
@[simp] theorem ok_w7 : PyData.strOk ("any" : Str) = true := by decide +kernel
@[simp] theorem ok_w8 : PyData.strOk ("all" : Str) = true := by decide +kernel
@[simp] theorem ok_w9 : PyData.strOk ("null" : Str) = true := by decide +kernel
@[simp] theorem ok_w10 : PyData.strOk ("not" : Str) = true := by decide +kernel
@[simp] theorem ok_w11 : PyData.strOk ("and" : Str) = true := by decide +kernel
@[simp] theorem ok_w12 : PyData.strOk ("or" : Str) = true := by decide +kernel
@[simp] theorem ok_w13 : PyData.strOk ("is" : Str) = true := by decide +kernel
@[simp] theorem ok_w14 : PyData.strOk ("=" : Str) = true := by decide +kernel
@[simp] theorem ok_w15 : PyData.strOk ("!=" : Str) = true := by decide +kernel
@[simp] theorem ok_w16 : PyData.strOk ("<" : Str) = true := by decide +kernel
@[simp] theorem ok_w17 : PyData.strOk ("<=" : Str) = true := by decide +kernel
theorem str_beq (a b : Str) : (a == b) = decide (a = b) := by by_cases h : a = b <;> simp [h]
theorem noRaw_ok {p : PV} (h : okD p = true) : noRaw p := by cases p <;> first | trivial | (simp [okD] at h)
/-! ### a predicate is told by its value -/
theorem oP_inj {a b : Option Int} (h : oP a = oP b) : a = b := by cases a <;> cases b <;> simp_all [oP]
theorem row_inj {a b : Row} (h : rowP a = rowP b) : a = b := by
  simp only [rowP, PV.tup.injEq] at h
  induction a generalizing b with
  | nil => cases b <;> simp_all
  | cons x a ih =>
    cases b with
    | nil => simp at h
    | cons y b =>
      simp only [List.map_cons, List.cons.injEq] at h
      rw [oP_inj h.1, ih h.2]
theorem opd_inj {a b : Opd} (h : opdP a = opdP b) : a = b := by
  cases a <;> cases b <;> simp (decide := true) [opdP] at h
  · rw [h]
  · rw [oP_inj h]
theorem op_inj {a b : Op4} (h : a.s = b.s) : a = b := by cases a <;> cases b <;> first | rfl | (exact absurd h (by decide))
theorem truth_inj {a b : Option Bool} (h : truthS a = truthS b) : a = b := by rcases a with _ | _ | _ <;> rcases b with _ | _ | _ <;> first | rfl | (exact absurd h (by decide))
def prW : Pr → Str
  | .cst t => truthS t
  | .cmp _ _ _ => "compare"
  | .inn _ _ => "in"
  | .qnt al _ _ _ => if al then "all" else "any"
  | .nul _ => "null"
  | .nott _ => "not"
  | .bin or _ _ => if or then "or" else "and"
  | .iss _ _ => "is"
theorem prP_inj : ∀ {p q : Pr}, prP p = prP q → p = q := by
  intro p
  induction p with
  | cst t =>
    intro q h
    cases q <;> simp [prP] at h
    rw [truth_inj h]
  | cmp o a b =>
    intro q h
    cases q <;> simp (decide := true) [prP] at h
    · rw [op_inj h.1, opd_inj h.2.1, opd_inj h.2.2]
    · rename_i al _ _ _
      cases al <;> simp (decide := true) at h
  | inn a l =>
    intro q h
    cases q <;> simp (decide := true) [prP] at h
    · rw [opd_inj h.1, row_inj h.2]
    · rename_i or _ _
      cases or <;> simp (decide := true) at h
  | qnt al o a l =>
    intro q h
    cases q <;> simp [prP] at h
    · cases al <;> simp (decide := true) at h
    · rename_i al' _ _ _
      have e : al = al' := by cases al <;> cases al' <;> first | rfl | (exact absurd h.1 (by decide))
      rw [e, op_inj h.2.1, opd_inj h.2.2.1, row_inj h.2.2.2]
  | nul a =>
    intro q h
    cases q <;> simp (decide := true) [prP] at h
    rw [opd_inj h]
  | nott p ih =>
    intro q h
    cases q <;> simp (decide := true) [prP] at h
    rw [ih h]
  | bin or p q ih1 ih2 =>
    intro r h
    cases r <;> simp [prP] at h
    · cases or <;> simp (decide := true) at h
    · rename_i or' _ _
      have e : or = or' := by cases or <;> cases or' <;> first | rfl | (exact absurd h.1 (by decide))
      rw [e, ih1 h.2.1, ih2 h.2.2]
    · cases or <;> simp (decide := true) at h
  | iss t p ih =>
    intro q h
    cases q <;> simp (decide := true) [prP] at h
    · rename_i or _ _
      cases or <;> simp (decide := true) at h
    · rw [truth_inj h.1, ih h.2]
end PL


/-! PMa: truth, alike rows, the small models, the first row. Plain. -/
namespace PL
/-! ### the truth of a predicate -/
def Op4.f : Op4 → Int → Int → Bool
  | .eq, a, b => decide (a = b)
  | .ne, a, b => !decide (a = b)
  | .lt, a, b => decide (a < b)
  | .le, a, b => decide (a ≤ b)
def cmpO (o : Op4) : Option Int → Option Int → Option Bool
  | some a, some b => some (o.f a b)
  | _, _ => none
def Opd.val (r : Row) : Opd → Option Int
  | .col i => r.getD i.toNat none
  | .lit v => v
def orL (l : List (Option Bool)) : Option Bool := if some true ∈ l then some true else if none ∈ l then none else some false
def neg3 : Option Bool → Option Bool
  | none => none
  | some b => some (!b)
def andL (l : List (Option Bool)) : Option Bool := neg3 (orL (l.map neg3))
def Pr.ev (r : Row) : Pr → Option Bool
  | .cst t => t
  | .cmp o a b => cmpO o (a.val r) (b.val r)
  | .inn a l => orL (l.map (cmpO .eq (a.val r)))
  | .qnt al o a l => (if al then andL else orL) (l.map (cmpO o (a.val r)))
  | .nul a => some (a.val r).isNone
  | .nott p => neg3 (p.ev r)
  | .bin or p q => (if or then orL else andL) [p.ev r, q.ev r]
  | .iss t p => some (decide (p.ev r = t))
/-! ### the columns, the integers -/
def Opd.cols : Opd → List Nat
  | .col i => [i.toNat]
  | .lit _ => []
def Opd.li : Opd → List Int
  | .col _ => []
  | .lit v => v.toList
def rowI (l : Row) : List Int := l.filterMap id
def Pr.cols : Pr → List Nat
  | .cst _ => []
  | .cmp _ a b => a.cols ++ b.cols
  | .inn a _ => a.cols
  | .qnt _ _ a _ => a.cols
  | .nul a => a.cols
  | .nott p => p.cols
  | .bin _ p q => p.cols ++ q.cols
  | .iss _ p => p.cols
def Pr.li : Pr → List Int
  | .cst _ => []
  | .cmp _ a b => a.li ++ b.li
  | .inn a l => a.li ++ rowI l
  | .qnt _ _ a l => a.li ++ rowI l
  | .nul a => a.li
  | .nott p => p.li
  | .bin _ p q => p.li ++ q.li
  | .iss _ p => p.li
/-! ### alike rows have the same truth -/
/-- alike for the columns C and the integers S -/
structure Alike (C : List Nat) (S : List Int) (r r' : Row) : Prop where
  nn : ∀ i ∈ C, (r.getD i none).isNone = (r'.getD i none).isNone
  cc : ∀ i ∈ C, ∀ j ∈ C, ∀ a b a' b', r.getD i none = some a → r.getD j none = some b → r'.getD i none = some a' → r'.getD j none = some b' → (a < b ↔ a' < b')
  cs : ∀ i ∈ C, ∀ s ∈ S, ∀ a a', r.getD i none = some a → r'.getD i none = some a' → (a < s ↔ a' < s) ∧ (s < a ↔ s < a')
theorem Alike.refl (C : List Nat) (S : List Int) (r : Row) : Alike C S r r := by
  refine ⟨fun _ _ => rfl, fun i _ j _ a b a' b' h1 h2 h3 h4 => ?_, fun i _ s _ a a' h1 h2 => ?_⟩
  · rw [h1] at h3; rw [h2] at h4; cases h3; cases h4; exact Iff.rfl
  · rw [h1] at h2; cases h2; exact ⟨Iff.rfl, Iff.rfl⟩
theorem Alike.trans {C : List Nat} {S : List Int} {r r' r'' : Row} (x : Alike C S r r') (y : Alike C S r' r'') : Alike C S r r'' := by
  have mid : ∀ i ∈ C, ∀ a, r.getD i none = some a → ∃ a', r'.getD i none = some a' := fun i hi a h => by
    have := x.nn i hi
    rw [h] at this
    cases e : r'.getD i none with
    | none => rw [e] at this; cases this
    | some a' => exact ⟨a', rfl⟩
  refine ⟨fun i hi => (x.nn i hi).trans (y.nn i hi), fun i hi j hj a b a' b' h1 h2 h3 h4 => ?_, fun i hi s hs a a' h1 h2 => ?_⟩
  · obtain ⟨c, hc⟩ := mid i hi a h1
    obtain ⟨d, hd⟩ := mid j hj b h2
    exact (x.cc i hi j hj a b c d h1 h2 hc hd).trans (y.cc i hi j hj c d a' b' hc hd h3 h4)
  · obtain ⟨c, hc⟩ := mid i hi a h1
    obtain ⟨p, q⟩ := x.cs i hi s hs a c h1 hc
    obtain ⟨p', q'⟩ := y.cs i hi s hs c a' hc h2
    exact ⟨p.trans p', q.trans q'⟩
/-- a value of the column, or a literal, on both sides -/
inductive Side (C : List Nat) (S : List Int) (r r' : Row) : Option Int → Option Int → Prop where
  | col (i : Nat) : i ∈ C → Side C S r r' (r.getD i none) (r'.getD i none)
  | lit (s : Int) : s ∈ S → Side C S r r' (some s) (some s)
  | non : Side C S r r' none none
theorem op_lt (o : Op4) {a b a' b' : Int} (h1 : a < b ↔ a' < b') (h2 : b < a ↔ b' < a') : o.f a b = o.f a' b' := by
  have e : a = b ↔ a' = b' := by omega
  have l : a ≤ b ↔ a' ≤ b' := by omega
  cases o <;> simp [Op4.f, e, h1, l]
theorem Side.cmp {C : List Nat} {S : List Int} {r r' : Row} (h : Alike C S r r') (o : Op4) {x x' y y' : Option Int} (hx : Side C S r r' x x') (hy : Side C S r r' y y') : cmpO o x y = cmpO o x' y' := by
  cases hx with
  | non => cases hy <;> simp [cmpO]
  | lit s hs =>
    cases hy with
    | non => simp [cmpO]
    | lit t ht => rfl
    | col i hi =>
      have := h.nn i hi
      cases e : r.getD i none <;> cases e' : r'.getD i none <;> rw [e, e'] at this <;> first | cases this | skip
      · rename_i a a'
        obtain ⟨p, q⟩ := h.cs i hi s hs a a' e e'
        exact congrArg some (op_lt o q p)
  | col i hi =>
    have n1 := h.nn i hi
    cases hy with
    | non => cases r.getD i none <;> cases r'.getD i none <;> rfl
    | lit s hs =>
      cases e : r.getD i none <;> cases e' : r'.getD i none <;> rw [e, e'] at n1 <;> first | cases n1 | skip
      · rename_i a a'
        obtain ⟨p, q⟩ := h.cs i hi s hs a a' e e'
        exact congrArg some (op_lt o p q)
    | col j hj =>
      have n2 := h.nn j hj
      cases e : r.getD i none <;> cases e' : r'.getD i none <;> rw [e, e'] at n1 <;> first | cases n1 | skip
      · rfl
      · cases d : r.getD j none <;> cases d' : r'.getD j none <;> rw [d, d'] at n2 <;> first | cases n2 | skip
        · rfl
        · exact congrArg some (op_lt o (h.cc i hi j hj _ _ _ _ e d e' d') (h.cc j hj i hi _ _ _ _ d e d' e'))
theorem Opd.side {C : List Nat} {S : List Int} {r r' : Row} (a : Opd) (hc : ∀ i ∈ a.cols, i ∈ C) (hs : ∀ i ∈ a.li, i ∈ S) : Side C S r r' (a.val r) (a.val r') := by
  cases a with
  | col i => exact .col _ (hc _ (by simp [Opd.cols]))
  | lit v =>
    cases v with
    | none => exact .non
    | some s => exact .lit s (hs s (by simp [Opd.li]))
theorem lits_side {C : List Nat} {S : List Int} {r r' : Row} (h : Alike C S r r') (o : Op4) {x x' : Option Int} (hx : Side C S r r' x x') : ∀ (l : Row), (∀ i ∈ rowI l, i ∈ S) → l.map (cmpO o x) = l.map (cmpO o x')
  | [], _ => rfl
  | v :: l, hl => by
    have t := lits_side h o hx l fun i hi => hl i (by cases v <;> simp [rowI] at hi ⊢ <;> simp [hi])
    rw [List.map_cons, List.map_cons, t]
    cases v with
    | none => rw [hx.cmp h o .non]
    | some s => rw [hx.cmp h o (.lit s (hl s (by simp [rowI])))]
theorem Alike.ev {C : List Nat} {S : List Int} {r r' : Row} (h : Alike C S r r') : ∀ (p : Pr), (∀ i ∈ p.cols, i ∈ C) → (∀ i ∈ p.li, i ∈ S) → p.ev r = p.ev r'
  | .cst t, _, _ => rfl
  | .cmp o a b, hc, hs => by
    simp only [Pr.cols, Pr.li, List.mem_append] at hc hs
    exact (a.side (fun i hi => hc i (.inl hi)) fun i hi => hs i (.inl hi)).cmp h o (b.side (fun i hi => hc i (.inr hi)) fun i hi => hs i (.inr hi))
  | .inn a l, hc, hs => by
    simp only [Pr.cols, Pr.li, List.mem_append] at hc hs
    simp only [Pr.ev]
    rw [lits_side h .eq (a.side hc fun i hi => hs i (.inl hi)) l fun i hi => hs i (.inr hi)]
  | .qnt al o a l, hc, hs => by
    simp only [Pr.cols, Pr.li, List.mem_append] at hc hs
    simp only [Pr.ev]
    rw [lits_side h o (a.side hc fun i hi => hs i (.inl hi)) l fun i hi => hs i (.inr hi)]
  | .nul a, hc, hs => by
    simp only [Pr.cols, Pr.li] at hc hs
    simp only [Pr.ev]
    have := a.side (r := r) (r' := r') hc hs
    congr 1
    cases a with
    | col i => exact h.nn _ (hc _ (by simp [Opd.cols]))
    | lit v => rfl
  | .nott p, hc, hs => by simp only [Pr.ev]; rw [Alike.ev h p hc hs]
  | .bin or p q, hc, hs => by
    simp only [Pr.cols, Pr.li, List.mem_append] at hc hs
    simp only [Pr.ev]; rw [Alike.ev h p (fun i hi => hc i (.inl hi)) fun i hi => hs i (.inl hi), Alike.ev h q (fun i hi => hc i (.inr hi)) fun i hi => hs i (.inr hi)]
  | .iss t p, hc, hs => by simp only [Pr.ev]; rw [Alike.ev h p hc hs]
end PL
namespace PL
/-! ### the order of values; how far a row is from the first -/
def okey : Option Int → Nat
  | none => 0
  | some v => if 0 < v then (2 * v).toNat else (1 - 2 * v).toNat
theorem okey_inj {a b : Option Int} (h : okey a = okey b) : a = b := by
  cases a with
  | none =>
    cases b with
    | none => rfl
    | some b => simp only [okey] at h; split at h <;> omega
  | some a =>
    cases b with
    | none => simp only [okey] at h; split at h <;> omega
    | some b =>
      simp only [okey] at h
      congr 1
      split at h <;> split at h <;> omega
/-- the values of a row in the columns -/
def valsOf (C : List Nat) (r : Row) : List Int := C.filterMap fun i => r.getD i none
theorem mem_valsOf {C : List Nat} {r : Row} {v : Int} : v ∈ valsOf C r ↔ ∃ i ∈ C, r.getD i none = some v := by simp [valsOf, List.mem_filterMap]
theorem valsOf_len (C : List Nat) (r : Row) : (valsOf C r).length ≤ C.length := List.length_filterMap_le _ _
/-- v is told by w everywhere -/
def moved (v w : Int) (r : Row) : Row := r.map fun x => if x = some v then some w else x
theorem moved_get (v w : Int) (r : Row) (i : Nat) : (moved v w r).getD i none = if r.getD i none = some v then some w else r.getD i none := by
  unfold moved
  rw [List.getD_eq_getElem?_getD, List.getD_eq_getElem?_getD, List.getElem?_map]
  cases r[i]? <;> simp
theorem moved_len (v w : Int) (r : Row) : (moved v w r).length = r.length := by simp [moved]
/-- a step of one: nothing of the integers or of the row stands at w -/
theorem alike_moved {C : List Nat} {S : List Int} {r : Row} {v w : Int} (hv : v ∉ S) (hS : w ∉ S) (hr : w ∉ valsOf C r) (h1 : v = w + 1 ∨ w = v + 1) : Alike C S r (moved v w r) := by
  have nr : ∀ i ∈ C, r.getD i none ≠ some w := fun i hi e => hr (mem_valsOf.mpr ⟨i, hi, e⟩)
  refine ⟨fun i hi => ?_, fun i hi j hj a b a' b' e1 e2 e3 e4 => ?_, fun i hi s hs a a' e1 e2 => ?_⟩
  · rw [moved_get]
    split
    · rename_i q; rw [q]; rfl
    · rfl
  · have n1 := nr i hi
    have n2 := nr j hj
    rw [moved_get, e1] at e3
    rw [moved_get, e2] at e4
    rw [e1] at n1
    rw [e2] at n2
    have n1 : a ≠ w := fun z => n1 (by rw [z])
    have n2 : b ≠ w := fun z => n2 (by rw [z])
    split at e3 <;> split at e4 <;> simp_all <;> omega
  · have n1 := nr i hi
    rw [moved_get, e1] at e2
    rw [e1] at n1
    have n1 : a ≠ w := fun z => n1 (by rw [z])
    have n3 : s ≠ w := fun z => hS (z ▸ hs)
    have n4 : s ≠ v := fun z => hv (z ▸ hs)
    split at e2 <;> simp_all <;> omega
/-- the weight of a row: the places of its values in the order -/
def wgt (r : Row) : Nat := (r.map okey).sum
/-- at each place not behind -/
def NotBehind (r' r : Row) : Prop := r'.length = r.length ∧ ∀ i, okey (r'.getD i none) ≤ okey (r.getD i none)
theorem NotBehind.refl (r : Row) : NotBehind r r := ⟨rfl, fun _ => Nat.le_refl _⟩
theorem NotBehind.trans {a b c : Row} (x : NotBehind a b) (y : NotBehind b c) : NotBehind a c := ⟨x.1.trans y.1, fun i => Nat.le_trans (x.2 i) (y.2 i)⟩
theorem moved_nb {v w : Int} (h : okey (some w) < okey (some v)) (r : Row) : NotBehind (moved v w r) r := by
  refine ⟨moved_len v w r, fun i => ?_⟩
  rw [moved_get]
  split
  · rename_i q; rw [q]; omega
  · exact Nat.le_refl _
theorem moved_wgt {v w : Int} (h : okey (some w) < okey (some v)) : ∀ {r : Row}, some v ∈ r → wgt (moved v w r) < wgt r
  | [], hm => by cases hm
  | x :: r, hm => by
    have nb : wgt (moved v w r) ≤ wgt r := by
      clear hm
      induction r with
      | nil => exact Nat.le_refl _
      | cons y r ih =>
        simp only [wgt, moved, List.map_cons, List.sum_cons] at ih ⊢
        split
        · rename_i q; rw [q]; omega
        · omega
    by_cases e : x = some v
    · subst e
      simp only [wgt, moved, List.map_cons, List.sum_cons, if_pos] at nb ⊢
      omega
    · have hm' : some v ∈ r := by
        rcases List.mem_cons.mp hm with q | q
        · exact absurd q.symm e
        · exact q
      have ih := moved_wgt h hm'
      simp only [wgt, moved, List.map_cons, List.sum_cons, if_neg e] at ih ⊢
      omega
/-! ### runs of consecutive values are no longer than the row -/
theorem nodup_le : ∀ {l m : List Int}, l.Nodup → (∀ x ∈ l, x ∈ m) → l.length ≤ m.length
  | [], _, _, _ => Nat.zero_le _
  | x :: l, m, h, hs => by
    obtain ⟨h1, h2⟩ := List.nodup_cons.mp h
    have hx := hs x List.mem_cons_self
    have := nodup_le (m := m.erase x) h2 fun y hy => (List.mem_erase_of_ne (by rintro rfl; exact h1 hy)).mpr (hs y (List.mem_cons_of_mem _ hy))
    rw [List.length_erase_of_mem hx] at this
    have hp : 0 < m.length := List.length_pos_of_mem hx
    simp only [List.length_cons]
    omega
theorem run_le {m : List Int} (f : Nat → Int) (hf : ∀ i j, f i = f j → i = j) (n : Nat) (h : ∀ i, i < n → f i ∈ m) : n ≤ m.length := by
  have h1 : ((List.range n).map f).Nodup := by
    unfold List.Nodup
    rw [List.pairwise_map]
    exact List.nodup_range.imp fun h z => h (hf _ _ z)
  have h2 := nodup_le h1 fun x hx => by
    obtain ⟨i, hi, rfl⟩ := List.mem_map.mp hx
    exact h i (List.mem_range.mp hi)
  simpa using h2
/-! ### near the integers -/
/-- enough: an integer, or no farther than n steps, without integers between, to an integer towards 0, or to the one behind 0 -/
def Near (S : List Int) (n : Nat) (v : Int) : Prop := v ∈ S ∨ v = 0 ∨
  (0 < v ∧ ∃ j : Nat, j ≤ n ∧ (∀ i : Nat, i < j → v - i ∉ S) ∧ (v - j ∈ S ∨ v - j = -1)) ∨
  (v < 0 ∧ ∃ j : Nat, j ≤ n ∧ (∀ i : Nat, i < j → v + i ∉ S) ∧ (v + j ∈ S ∨ v + j = 1))
/-- down from v: an end, or a hole -/
theorem down {S V : List Int} : ∀ (k : Nat) (v : Int), v = k → v ∈ V → v ∉ S → 
    (∃ j : Nat, (∀ i : Nat, i < j → v - i ∉ S ∧ v - i ∈ V) ∧ (v - j ∈ S ∨ v - j = -1)) ∨ (∃ w : Int, 0 ≤ w ∧ w ∉ S ∧ w ∉ V ∧ w + 1 ∈ V ∧ w + 1 ∉ S)
  | 0, v, hk, hv, hS => by
    refine .inl ⟨1, fun i hi => ?_, .inr (by omega)⟩
    obtain rfl : i = 0 := by omega
    simpa using ⟨hS, hv⟩
  | k + 1, v, hk, hv, hS => by
    by_cases h1 : v - 1 ∈ S
    · refine .inl ⟨1, fun i hi => ?_, .inl (by simpa using h1)⟩
      obtain rfl : i = 0 := by omega
      simpa using ⟨hS, hv⟩
    by_cases h2 : v - 1 ∈ V
    · rcases down k (v - 1) (by omega) h2 h1 with ⟨j, hj, he⟩ | h
      · refine .inl ⟨j + 1, fun i hi => ?_, ?_⟩
        · cases i with
          | zero => simpa using ⟨hS, hv⟩
          | succ i =>
            have := hj i (by omega)
            rwa [show v - ((i + 1 : Nat) : Int) = v - 1 - i by omega]
        · rwa [show v - ((j + 1 : Nat) : Int) = v - 1 - j by omega]
      · exact .inr h
    · exact .inr ⟨v - 1, by omega, h1, h2, by simpa using hv, by simpa using hS⟩
theorem up {S V : List Int} : ∀ (k : Nat) (v : Int), v = -k → v ∈ V → v ∉ S → 
    (∃ j : Nat, (∀ i : Nat, i < j → v + i ∉ S ∧ v + i ∈ V) ∧ (v + j ∈ S ∨ v + j = 1)) ∨ (∃ w : Int, w ≤ 0 ∧ w ∉ S ∧ w ∉ V ∧ w - 1 ∈ V ∧ w - 1 ∉ S)
  | 0, v, hk, hv, hS => by
    refine .inl ⟨1, fun i hi => ?_, .inr (by omega)⟩
    obtain rfl : i = 0 := by omega
    simpa using ⟨hS, hv⟩
  | k + 1, v, hk, hv, hS => by
    by_cases h1 : v + 1 ∈ S
    · refine .inl ⟨1, fun i hi => ?_, .inl (by simpa using h1)⟩
      obtain rfl : i = 0 := by omega
      simpa using ⟨hS, hv⟩
    by_cases h2 : v + 1 ∈ V
    · rcases up k (v + 1) (by omega) h2 h1 with ⟨j, hj, he⟩ | h
      · refine .inl ⟨j + 1, fun i hi => ?_, ?_⟩
        · cases i with
          | zero => simpa using ⟨hS, hv⟩
          | succ i =>
            have := hj i (by omega)
            rwa [show v + ((i + 1 : Nat) : Int) = v + 1 + i by omega]
        · rwa [show v + ((j + 1 : Nat) : Int) = v + 1 + j by omega]
      · exact .inr h
    · exact .inr ⟨v + 1, by omega, h1, h2, by simpa using hv, by simpa using hS⟩
theorem getD_mem {r : Row} {i : Nat} {v : Int} (h : r.getD i none = some v) : some v ∈ r := by
  rw [List.getD_eq_getElem?_getD] at h
  cases e : r[i]? with
  | none => rw [e] at h; cases h
  | some x => rw [e] at h; rw [show x = some v from h] at e; exact List.mem_of_getElem? e
/-- THE SMALL MODELS: a row alike that is not behind, of near values in the columns -/
theorem small_rows (C : List Nat) (S : List Int) (n : Nat) (hn : C.length ≤ n) : ∀ (k : Nat) (r : Row), wgt r ≤ k → ∃ r', NotBehind r' r ∧ Alike C S r r' ∧ ∀ i ∈ C, ∀ v, r'.getD i none = some v → Near S n v := by
  intro k
  induction k with
  | zero =>
    intro r hr
    refine ⟨r, .refl r, .refl C S r, fun i hi v hv => ?_⟩
    have hm := getD_mem hv
    exfalso
    have : ∀ {r : Row} , some v ∈ r → 0 < wgt r := by
      intro r
      induction r with
      | nil => intro h; cases h
      | cons x r ih =>
        intro h
        simp only [wgt, List.map_cons, List.sum_cons] at ih ⊢
        rcases List.mem_cons.mp h with rfl | h
        · have : 0 < okey (some v) := by simp only [okey]; split <;> omega
          omega
        · have := ih h; omega
    have := this hm
    omega
  | succ k ih =>
    intro r hr
    by_cases all : ∀ i ∈ C, ∀ v, r.getD i none = some v → Near S n v
    · exact ⟨r, .refl r, .refl C S r, all⟩
    -- a step
    have step : ∃ v w : Int, (v = w + 1 ∨ w = v + 1) ∧ okey (some w) < okey (some v) ∧ v ∈ valsOf C r ∧ v ∉ S ∧ w ∉ S ∧ w ∉ valsOf C r := by
      simp only [Classical.not_forall] at all
      obtain ⟨i, hi, v, hv, nn⟩ := all
      have hV : v ∈ valsOf C r := mem_valsOf.mpr ⟨i, hi, hv⟩
      have hS : v ∉ S := fun z => nn (.inl z)
      have h0 : v ≠ 0 := fun z => nn (.inr (.inl z))
      have hl := valsOf_len C r
      by_cases hp : 0 < v
      · rcases down (S := S) (V := valsOf C r) v.toNat v (by omega) hV hS with ⟨j, hj, he⟩ | ⟨w, w0, w1, w2, w3, w4⟩
        · exfalso
          have := run_le (m := valsOf C r) (fun i => v - i) (fun i j h => by omega) j fun i hi => (hj i hi).2
          exact nn (.inr (.inr (.inl ⟨hp, j, by omega, fun i hi => (hj i hi).1, he⟩)))
        · refine ⟨w + 1, w, .inl rfl, ?_, w3, w4, w1, w2⟩
          simp only [okey]
          split <;> split <;> omega
      · rcases up (S := S) (V := valsOf C r) (-v).toNat v (by omega) hV hS with ⟨j, hj, he⟩ | ⟨w, w0, w1, w2, w3, w4⟩
        · exfalso
          have := run_le (m := valsOf C r) (fun i => v + i) (fun i j h => by omega) j fun i hi => (hj i hi).2
          exact nn (.inr (.inr (.inr ⟨by omega, j, by omega, fun i hi => (hj i hi).1, he⟩)))
        · refine ⟨w - 1, w, .inr (by omega), ?_, w3, w4, w1, w2⟩
          simp only [okey]
          split <;> split <;> omega
    obtain ⟨v, w, h1, hk, hv, vS, wS, wV⟩ := step
    obtain ⟨i, hi, hvi⟩ := mem_valsOf.mp hv
    have a1 := alike_moved vS wS wV h1
    have a2 := moved_wgt hk (getD_mem hvi)
    obtain ⟨r', n1, a3, hr'⟩ := ih (moved v w r) (by omega)
    exact ⟨r', n1.trans (moved_nb hk r), a1.trans a3, hr'⟩
end PL
namespace PL
/-! ### enough values -/
def rngI (a b : Int) : List Int := (List.range (b - a).toNat).map fun (i : Nat) => a + (i : Int)
theorem mem_rngI {a b v : Int} : v ∈ rngI a b ↔ a ≤ v ∧ v < b := by
  simp only [rngI, List.mem_map, List.mem_range]
  constructor
  · rintro ⟨i, hi, rfl⟩; omega
  · rintro ⟨h1, h2⟩; exact ⟨(v - a).toNat, by omega, by omega⟩
/-- a region's first values -/
def nearL (lo hi : Option Int) (n : Int) : List Int := match lo, hi with
  | none, none => rngI (1 - n) (n - 1 + 1)
  | none, some h => if h < 0 then rngI (h - n + 1) (h + 1) else rngI (1 - n) (min (n - 1) h + 1)
  | some l, none => if 0 < l then rngI l (l + n - 1 + 1) else rngI (max (1 - n) l) (n - 1 + 1)
  | some l, some h => if 0 < l then rngI l (min (l + n - 1) h + 1) else if h < 0 then rngI (max (h - n + 1) l) (h + 1) else rngI (max (1 - n) l) (min (n - 1) h + 1)
def candSeq (n : Int) : Option Int → List Int → List Int
  | lo, [] => nearL lo none n
  | lo, i :: is => nearL lo (some (i - 1)) n ++ i :: candSeq n (some (i + 1)) is
/-- what is near stands in the sequence -/
theorem near_seq {S : List Int} {n : Nat} {v : Int} (hn : 1 ≤ n) (h : Near S n v) : ∀ (is : List Int) (lo : Option Int), is.Pairwise (· < ·) → (∀ s ∈ is, s ∈ S) →
    (match lo with | none => ∀ s ∈ S, s ∈ is | some l => l ≤ v ∧ l - 1 ∈ S ∧ (∀ s ∈ S, s < l ∨ s ∈ is) ∧ ∀ s ∈ is, l ≤ s) → v ∈ candSeq n lo is
  | [], lo, hp, h1, h3 => by
    unfold candSeq
    cases lo with
    | none =>
      have e : ∀ s, s ∉ S := fun s hs => by cases h3 s hs
      simp only [nearL, mem_rngI]
      rcases h with h | h | ⟨h0, j, hj, _, hz⟩ | ⟨h0, j, hj, _, hz⟩
      · exact absurd h (e _)
      · omega
      · rcases hz with hz | hz
        · exact absurd hz (e _)
        · omega
      · rcases hz with hz | hz
        · exact absurd hz (e _)
        · omega
    | some l =>
      obtain ⟨l1, l2, l3, l4⟩ := h3
      have l3 : ∀ s ∈ S, s < l := fun s hs => (l3 s hs).elim id fun z => nomatch z
      have hv : v ∉ S := fun z => by have := l3 v z; omega
      simp only [nearL]
      rcases h with h | h | ⟨h0, j, hj, hi, hz⟩ | ⟨h0, j, hj, hi, hz⟩
      · exact absurd h hv
      · rw [if_neg (by omega), mem_rngI]; omega
      · split
        · rw [mem_rngI]
          rcases hz with hz | hz
          · by_cases q : j = 0
            · subst q; exact absurd (by simpa using hz) hv
            · have := l3 _ hz; omega
          · exfalso
            have := hi (v - (l - 1)).toNat (by omega)
            rw [show v - ((v - (l - 1)).toNat : Int) = l - 1 by omega] at this
            exact this l2
        · rw [mem_rngI]
          rcases hz with hz | hz
          · by_cases q : j = 0
            · subst q; exact absurd (by simpa using hz) hv
            · have := l3 _ hz; omega
          · omega
      · rw [if_neg (by omega), mem_rngI]
        rcases hz with hz | hz
        · have := l3 _ hz; omega
        · omega
  | i :: is, lo, hp, h1, h3 => by
    obtain ⟨hp1, hp2⟩ := List.pairwise_cons.mp hp
    have hiS := h1 i List.mem_cons_self
    unfold candSeq
    rw [List.mem_append, List.mem_cons]
    by_cases c1 : v = i
    · exact .inr (.inl c1)
    by_cases c2 : i < v
    · refine .inr (.inr (near_seq hn h is (some (i + 1)) hp2 (fun s hs => h1 s (List.mem_cons_of_mem _ hs)) ⟨by omega, by rwa [Int.add_sub_cancel], fun s hs => ?_, fun s hs => by have := hp1 s hs; omega⟩))
      have q : s < i + 1 ∨ s ∈ i :: is := by
        cases lo with
        | none => exact .inr (h3 s hs)
        | some l =>
          obtain ⟨l1, l2, l3, l4⟩ := h3
          have := l4 i List.mem_cons_self
          rcases l3 s hs with q | q
          · exact .inl (by omega)
          · exact .inr q
      rcases q with q | q
      · exact .inl q
      · rcases List.mem_cons.mp q with rfl | q
        · exact .inl (by omega)
        · exact .inr q
    · left
      have part : ∀ s ∈ S, i ≤ s ∨ ∃ l, lo = some l ∧ s < l := fun s hs => by
        have k : ∀ s ∈ i :: is, i ≤ s := fun s q => by
          rcases List.mem_cons.mp q with rfl | q
          · exact Int.le_refl _
          · have := hp1 s q; omega
        cases lo with
        | none => exact .inl (k s (h3 s hs))
        | some l =>
          obtain ⟨l1, l2, l3, l4⟩ := h3
          rcases l3 s hs with q | q
          · exact .inr ⟨l, rfl, q⟩
          · exact .inl (k s q)
      have hv : v ∉ S := fun z => by
        rcases part v z with q | ⟨l, rfl, q⟩
        · omega
        · have := h3.1; omega
      have hi2 : ∀ s ∈ S, v < s → i ≤ s := fun s hs q => by
        rcases part s hs with q' | ⟨l, rfl, q'⟩
        · exact q'
        · have := h3.1; omega
      cases lo with
      | none =>
        simp only [nearL]
        rcases h with h | h | ⟨h0, j, hj, hi, hz⟩ | ⟨h0, j, hj, hi, hz⟩
        · exact absurd h hv
        · rw [if_neg (by omega), mem_rngI]; omega
        · rw [if_neg (by omega), mem_rngI]
          rcases hz with hz | hz
          · rcases part _ hz with q' | ⟨l, q', _⟩
            · by_cases q : j = 0
              · subst q; exact absurd (by simpa using hz) hv
              · omega
            · cases q'
          · omega
        · split
          · rw [mem_rngI]
            rcases hz with hz | hz
            · by_cases q : j = 0
              · subst q; exact absurd (by simpa using hz) hv
              · have := hi2 _ hz (by omega); omega
            · exfalso
              have := hi (i - v).toNat (by omega)
              rw [show v + ((i - v).toNat : Int) = i by omega] at this
              exact this hiS
          · rw [mem_rngI]
            rcases hz with hz | hz
            · by_cases q : j = 0
              · subst q; exact absurd (by simpa using hz) hv
              · have := hi2 _ hz (by omega); omega
            · omega
      | some l =>
        obtain ⟨l1, l2, l3, l4⟩ := h3
        have l5 : ∀ s ∈ S, s < v → s < l := fun s hs q => by
          rcases part s hs with q' | ⟨l', q', q2⟩
          · omega
          · cases q'; exact q2
        simp only [nearL]
        rcases h with h | h | ⟨h0, j, hj, hi, hz⟩ | ⟨h0, j, hj, hi, hz⟩
        · exact absurd h hv
        · rw [if_neg (by omega), if_neg (by omega), mem_rngI]; omega
        · split
          · rw [mem_rngI]
            rcases hz with hz | hz
            · by_cases q : j = 0
              · subst q; exact absurd (by simpa using hz) hv
              · have := l5 _ hz (by omega); omega
            · exfalso
              have := hi (v - (l - 1)).toNat (by omega)
              rw [show v - ((v - (l - 1)).toNat : Int) = l - 1 by omega] at this
              exact this l2
          · rw [if_neg (by omega), mem_rngI]
            rcases hz with hz | hz
            · by_cases q : j = 0
              · subst q; exact absurd (by simpa using hz) hv
              · have := l5 _ hz (by omega); omega
            · omega
        · rw [if_neg (by omega)]
          split
          · rw [mem_rngI]
            rcases hz with hz | hz
            · by_cases q : j = 0
              · subst q; exact absurd (by simpa using hz) hv
              · have := hi2 _ hz (by omega); omega
            · exfalso
              have := hi (i - v).toNat (by omega)
              rw [show v + ((i - v).toNat : Int) = i by omega] at this
              exact this hiS
          · rw [mem_rngI]
            rcases hz with hz | hz
            · by_cases q : j = 0
              · subst q; exact absurd (by simpa using hz) hv
              · have := hi2 _ hz (by omega); omega
            · omega
end PL
namespace PL
/-- no value is far -/
theorem seq_near {n v : Int} : ∀ (is : List Int) (lo : Option Int), v ∈ candSeq n lo is → v ∈ is ∨ (1 - n ≤ v ∧ v ≤ n - 1) ∨ (∃ l, lo = some l ∧ l ≤ v ∧ v ≤ l + n - 1) ∨ ∃ s ∈ is, (s - n ≤ v ∧ v ≤ s + n)
  | [], lo, h => by
    unfold candSeq at h
    cases lo with
    | none => simp only [nearL, mem_rngI] at h; exact .inr (.inl (by omega))
    | some l =>
      simp only [nearL] at h
      split at h <;> rw [mem_rngI] at h
      · exact .inr (.inr (.inl ⟨l, rfl, by omega, by omega⟩))
      · exact .inr (.inl (by omega))
  | i :: is, lo, h => by
    unfold candSeq at h
    rw [List.mem_append, List.mem_cons] at h
    rcases h with h | h | h
    · cases lo with
      | none =>
        simp only [nearL] at h
        split at h <;> rw [mem_rngI] at h
        · exact .inr (.inr (.inr ⟨i, List.mem_cons_self, by omega, by omega⟩))
        · exact .inr (.inl (by omega))
      | some l =>
        simp only [nearL] at h
        split at h
        · rw [mem_rngI] at h
          exact .inr (.inr (.inl ⟨l, rfl, by omega, by omega⟩))
        · split at h <;> rw [mem_rngI] at h
          · exact .inr (.inr (.inr ⟨i, List.mem_cons_self, by omega, by omega⟩))
          · exact .inr (.inl (by omega))
    · subst h; exact .inl List.mem_cons_self
    · rcases seq_near is _ h with h | h | ⟨l, e, h1, h2⟩ | ⟨s, hs, h⟩
      · exact .inl (List.mem_cons_of_mem _ h)
      · exact .inr (.inl h)
      · cases e; exact .inr (.inr (.inr ⟨i, List.mem_cons_self, by omega, by omega⟩))
      · exact .inr (.inr (.inr ⟨s, List.mem_cons_of_mem _ hs, h⟩))
/-! ### sorted by the order of values -/
def insK (x : Option Int) : Row → Row
  | [] => [x]
  | y :: ys => if okey x ≤ okey y then x :: y :: ys else y :: insK x ys
def sortK : Row → Row
  | [] => []
  | x :: xs => insK x (sortK xs)
theorem insK_perm (x : Option Int) : ∀ l : Row, (insK x l).Perm (x :: l)
  | [] => .refl _
  | y :: ys => by
    unfold insK
    split
    · exact .refl _
    · exact ((insK_perm x ys).cons y).trans (.swap x y ys)
theorem sortK_perm : ∀ l : Row, (sortK l).Perm l
  | [] => .refl _
  | x :: xs => (insK_perm x (sortK xs)).trans ((sortK_perm xs).cons x)
theorem insK_sorted (x : Option Int) : ∀ {l : Row}, l.Pairwise (fun a b => okey a ≤ okey b) → (insK x l).Pairwise (fun a b => okey a ≤ okey b)
  | [], _ => by simp [insK]
  | y :: ys, h => by
    unfold insK
    obtain ⟨h1, h2⟩ := List.pairwise_cons.mp h
    split
    · rename_i q
      exact List.pairwise_cons.mpr ⟨fun z hz => by
        rcases List.mem_cons.mp hz with rfl | hz
        · exact q
        · exact Nat.le_trans q (h1 z hz), h⟩
    · rename_i q
      refine List.pairwise_cons.mpr ⟨fun z hz => ?_, insK_sorted x h2⟩
      rcases List.mem_cons.mp ((insK_perm x ys).mem_iff.mp hz) with rfl | hz
      · omega
      · exact h1 z hz
theorem sortK_sorted : ∀ l : Row, (sortK l).Pairwise (fun a b => okey a ≤ okey b)
  | [] => .nil
  | x :: xs => insK_sorted x (sortK_sorted xs)
/-- two arrangements by the order are one -/
theorem sortK_uniq : ∀ {l m : Row}, l.Perm m → l.Pairwise (fun a b => okey a ≤ okey b) → m.Pairwise (fun a b => okey a ≤ okey b) → l = m
  | [], m, h, _, _ => (List.Perm.eq_nil h.symm).symm
  | x :: l, [], h, _, _ => absurd h.length_eq (by simp)
  | x :: l, y :: m, h, hl, hm => by
    obtain ⟨a1, a2⟩ := List.pairwise_cons.mp hl
    obtain ⟨b1, b2⟩ := List.pairwise_cons.mp hm
    have e : x = y := by
      rcases List.mem_cons.mp (h.mem_iff.mp List.mem_cons_self) with q | q
      · exact q
      · rcases List.mem_cons.mp (h.mem_iff.mpr List.mem_cons_self) with q2 | q2
        · exact q2.symm
        · exact okey_inj (Nat.le_antisymm (a1 y q2) (b1 x q))
    subst e
    rw [sortK_uniq h.cons_inv a2 b2]
def addO (acc : Row) (x : Option Int) : Row := if x ∈ acc then acc else acc ++ [x]
def dedO (l : Row) : Row := l.foldl addO []
theorem foldO_mem (x : Option Int) : ∀ (l acc : Row), x ∈ l.foldl addO acc ↔ x ∈ acc ∨ x ∈ l
  | [], acc => by simp
  | y :: l, acc => by
    rw [List.foldl_cons, foldO_mem x l]
    unfold addO
    by_cases h : y ∈ acc
    · rw [if_pos h, List.mem_cons]
      constructor
      · rintro (q | q)
        · exact .inl q
        · exact .inr (.inr q)
      · rintro (q | rfl | q)
        · exact .inl q
        · exact .inl h
        · exact .inr q
    · rw [if_neg h, List.mem_append, List.mem_singleton, List.mem_cons, or_assoc]
theorem foldO_nodup : ∀ (l acc : Row), acc.Nodup → (l.foldl addO acc).Nodup
  | [], acc, h => h
  | y :: l, acc, h => by
    rw [List.foldl_cons]
    refine foldO_nodup l _ ?_
    unfold addO
    split
    · exact h
    · rename_i q
      rw [List.nodup_append]
      refine ⟨h, by simp, ?_⟩
      intro a ha b hb
      rw [List.mem_singleton] at hb
      subst hb
      rintro rfl
      exact q ha
theorem mem_dedO {x : Option Int} {l : Row} : x ∈ dedO l ↔ x ∈ l := by simp [dedO, foldO_mem]
theorem dedO_nodup (l : Row) : (dedO l).Nodup := foldO_nodup l [] (by simp)
theorem foldO_len : ∀ (l acc : Row), (l.foldl addO acc).length ≤ acc.length + l.length
  | [], acc => by simp
  | y :: l, acc => by
    rw [List.foldl_cons]
    have h1 := foldO_len l (addO acc y)
    have h2 : (addO acc y).length ≤ acc.length + 1 := by unfold addO; split <;> simp
    simp only [List.length_cons]; omega
theorem dedO_len (l : Row) : (dedO l).length ≤ l.length := by simpa [dedO] using foldO_len l []
def srtO (l : Row) : Row := sortK (dedO l)
theorem mem_srtO {x : Option Int} {l : Row} : x ∈ srtO l ↔ x ∈ l := (sortK_perm _).mem_iff.trans mem_dedO
theorem srtO_strict (l : Row) : (srtO l).Pairwise (fun a b => okey a < okey b) := by
  have h1 := sortK_sorted (dedO l)
  have h2 : (srtO l).Nodup := (sortK_perm _).nodup_iff.mpr (dedO_nodup l)
  exact (List.pairwise_iff_getElem.mpr fun i j hi hj hij => by
    have a := List.pairwise_iff_getElem.mp h1 i j hi hj hij
    have b := List.pairwise_iff_getElem.mp h2 i j hi hj hij
    have : okey (srtO l)[i] ≠ okey (srtO l)[j] := fun z => b (okey_inj z)
    exact Nat.lt_of_le_of_ne a this)
theorem srtO_len (l : Row) : (srtO l).length ≤ l.length := by
  unfold srtO
  rw [(sortK_perm _).length_eq]
  exact dedO_len l
def candL (n : Nat) (S : List Int) : Row := srtO (none :: (candSeq n none S).map some)
theorem none_candL (n : Nat) (S : List Int) : none ∈ candL n S := mem_srtO.mpr List.mem_cons_self
theorem near_candL {n : Nat} {S : List Int} {v : Int} (hn : 1 ≤ n) (hS : S.Pairwise (· < ·)) (h : Near S n v) : some v ∈ candL n S :=
  mem_srtO.mpr (List.mem_cons_of_mem _ (List.mem_map_of_mem (near_seq hn h S none hS (fun _ h => h) (fun _ h => h))))
theorem candL_near {n : Nat} {S : List Int} {v : Int} (h : some v ∈ candL n S) : v ∈ S ∨ (1 - (n : Int) ≤ v ∧ v ≤ n - 1) ∨ ∃ s ∈ S, (s - n ≤ v ∧ v ≤ s + n) := by
  have h := mem_srtO.mp h
  rcases List.mem_cons.mp h with h | h
  · cases h
  · obtain ⟨w, hw, e⟩ := List.mem_map.mp h
    cases e
    rcases seq_near S none hw with h | h | ⟨l, e, _⟩ | h
    · exact .inl h
    · exact .inr (.inl h)
    · cases e
    · exact .inr (.inr h)
/-! ### rows, in order -/
def rlt : Row → Row → Prop
  | a :: r, b :: s => okey a < okey b ∨ (a = b ∧ rlt r s)
  | _, _ => False
theorem rlt_trans : ∀ {a b c : Row}, rlt a b → rlt b c → rlt a c
  | a :: r, b :: s, c :: t, h1, h2 => by
    rcases h1 with h1 | ⟨rfl, h1⟩ <;> rcases h2 with h2 | ⟨rfl, h2⟩
    · exact .inl (by omega)
    · exact .inl h1
    · exact .inl h2
    · exact .inr ⟨rfl, rlt_trans h1 h2⟩
  | [], _, _, h1, _ => h1.elim
  | _ :: _, [], _, h1, _ => h1.elim
  | _ :: _, _ :: _, [], _, h2 => h2.elim
theorem rlt_irrefl : ∀ {a : Row}, ¬ rlt a a
  | [], h => h
  | a :: r, h => by
    rcases h with h | ⟨_, h⟩
    · omega
    · exact rlt_irrefl h
def rle (a b : Row) : Prop := a = b ∨ rlt a b
theorem rle_trans {a b c : Row} (h1 : rle a b) (h2 : rle b c) : rle a c := by
  rcases h1 with rfl | h1
  · exact h2
  · rcases h2 with rfl | h2
    · exact .inr h1
    · exact .inr (rlt_trans h1 h2)
theorem rle_antisymm {a b : Row} (h1 : rle a b) (h2 : rle b a) : a = b := by
  rcases h1 with rfl | h1
  · rfl
  · rcases h2 with rfl | h2
    · rfl
    · exact (rlt_irrefl (rlt_trans h1 h2)).elim
theorem nb_rle : ∀ {a b : Row}, NotBehind a b → rle a b
  | [], [], _ => .inl rfl
  | [], _ :: _, h => by cases h.1
  | _ :: _, [], h => by cases h.1
  | x :: a, y :: b, h => by
    have h0 : okey x ≤ okey y := by simpa using h.2 0
    have ht : NotBehind a b := ⟨by simpa using h.1, fun i => by simpa using h.2 (i + 1)⟩
    by_cases e : x = y
    · subst e
      rcases nb_rle ht with rfl | q
      · exact .inl rfl
      · exact .inr (.inr ⟨rfl, q⟩)
    · exact .inr (.inl (Nat.lt_of_le_of_ne h0 fun z => e (okey_inj z)))
def rowsL (f : Nat → Row) : Nat → List Row
  | 0 => [[]]
  | k + 1 => (rowsL f k).flatMap fun r => (f k).map fun v => r ++ [v]
theorem rowsL_len {f : Nat → Row} : ∀ {k : Nat} {r : Row}, r ∈ rowsL f k → r.length = k
  | 0, r, h => by simp [rowsL] at h; simp [h]
  | k + 1, r, h => by
    simp only [rowsL, List.mem_flatMap, List.mem_map] at h
    obtain ⟨q, hq, v, _, rfl⟩ := h
    simp [rowsL_len hq]
theorem mem_rowsL {f : Nat → Row} : ∀ {k : Nat} {r : Row}, r ∈ rowsL f k ↔ r.length = k ∧ ∀ i, i < k → r.getD i none ∈ f i
  | 0, r => by cases r <;> simp [rowsL]
  | k + 1, r => by
    simp only [rowsL, List.mem_flatMap, List.mem_map]
    constructor
    · rintro ⟨q, hq, v, hv, rfl⟩
      obtain ⟨h1, h2⟩ := mem_rowsL.mp hq
      refine ⟨by simp [h1], fun i hi => ?_⟩
      by_cases e : i = k
      · subst e
        rw [List.getD_eq_getElem?_getD, List.getElem?_append_right (by omega)]
        simpa [h1] using hv
      · have := h2 i (by omega)
        rw [List.getD_eq_getElem?_getD] at this ⊢
        rwa [List.getElem?_append_left (by omega)]
    · rintro ⟨h1, h2⟩
      have e : r = r.take k ++ [r.getD k none] := by
        apply List.ext_getElem?
        intro i
        by_cases hi : i < k
        · rw [List.getElem?_append_left (by simp; omega), List.getElem?_take_of_lt hi]
        · by_cases e : i = k
          · subst e
            rw [List.getElem?_append_right (by rw [List.length_take]; omega), List.getD_eq_getElem?_getD]
            have : i < r.length := by omega
            simp [List.length_take, Nat.min_eq_left (Nat.le_of_lt this), List.getElem?_eq_getElem this]
          · rw [List.getElem?_eq_none (by omega), List.getElem?_eq_none (by simp; omega)]
      refine ⟨r.take k, mem_rowsL.mpr ⟨by simp; omega, fun i hi => ?_⟩, r.getD k none, h2 k (by omega), e.symm⟩
      have := h2 i (by omega)
      rw [List.getD_eq_getElem?_getD] at this ⊢
      rwa [List.getElem?_take_of_lt hi]
theorem rlt_app : ∀ {a b : Row} (u v : Row), rlt a b → rlt (a ++ u) (b ++ v)
  | a :: r, b :: s, u, v, h => by
    rcases h with h | ⟨rfl, h⟩
    · exact .inl h
    · exact .inr ⟨rfl, rlt_app u v h⟩
  | [], _, _, _, h => h.elim
  | _ :: _, [], _, _, h => h.elim
theorem rlt_app2 {u v : Option Int} (h : okey u < okey v) : ∀ (a : Row), rlt (a ++ [u]) (a ++ [v])
  | [] => .inl h
  | a :: r => .inr ⟨rfl, rlt_app2 h r⟩
theorem rowsL_sorted {f : Nat → Row} : ∀ {k : Nat}, (∀ i, i < k → (f i).Pairwise (fun a b => okey a < okey b)) → (rowsL f k).Pairwise rlt
  | 0, _ => by simp [rowsL]
  | k + 1, h => by
    unfold rowsL
    rw [List.pairwise_flatMap]
    refine ⟨fun r _ => ?_, (rowsL_sorted fun i hi => h i (by omega)).imp fun {a b} hab => ?_⟩
    · rw [List.pairwise_map]
      exact (h k (by omega)).imp fun q => rlt_app2 q r
    · intro x hx y hy
      obtain ⟨u, _, rfl⟩ := List.mem_map.mp hx
      obtain ⟨v, _, rfl⟩ := List.mem_map.mp hy
      exact rlt_app _ _ hab
/-- the first with a property is before all others with it -/
theorem find_first {p : Row → Bool} : ∀ {l : List Row} {x : Row}, l.Pairwise rlt → l.find? p = some x → x ∈ l ∧ p x = true ∧ ∀ y ∈ l, p y = true → rle x y
  | a :: l, x, hs, h => by
    obtain ⟨h1, h2⟩ := List.pairwise_cons.mp hs
    rw [List.find?_cons] at h
    split at h
    · rename_i q
      cases h
      refine ⟨List.mem_cons_self, q, fun y hy _ => ?_⟩
      rcases List.mem_cons.mp hy with rfl | hy
      · exact .inl rfl
      · exact .inr (h1 y hy)
    · rename_i q
      obtain ⟨i1, i2, i3⟩ := find_first h2 h
      refine ⟨List.mem_cons_of_mem _ i1, i2, fun y hy hp => ?_⟩
      rcases List.mem_cons.mp hy with rfl | hy
      · rw [hp] at q; cases q
      · exact i3 y hy hp
/-- the first of the smaller rows is the first of all -/
theorem find_agree {p : Row → Bool} {P L : List Row} (hP : P.Pairwise rlt) (hL : L.Pairwise rlt) (sub : ∀ r ∈ P, r ∈ L) (small : ∀ r ∈ L, p r = true → ∃ r' ∈ P, rle r' r ∧ p r' = true) : P.find? p = L.find? p := by
  cases e1 : P.find? p with
  | none =>
    cases e2 : L.find? p with
    | none => rfl
    | some y =>
      obtain ⟨h1, h2, _⟩ := find_first hL e2
      obtain ⟨r', h3, _, h4⟩ := small y h1 h2
      have := List.find?_eq_none.mp e1 r' h3
      exact absurd h4 this
  | some x =>
    obtain ⟨a1, a2, a3⟩ := find_first hP e1
    cases e2 : L.find? p with
    | none => exact absurd a2 (List.find?_eq_none.mp e2 x (sub x a1))
    | some y =>
      obtain ⟨b1, b2, b3⟩ := find_first hL e2
      obtain ⟨r', h3, h4, h5⟩ := small y b1 b2
      rw [rle_antisymm (rle_trans (a3 r' h3 h5) h4) (b3 x (sub x a1) a2)]
/-! ### the program's rows -/
def progF (n : Nat) (C : List Nat) (S : List Int) (i : Nat) : Row := if i ∈ C then candL n S else [none]
def progRows (w n : Nat) (C : List Nat) (S : List Int) : List Row := rowsL (progF n C S) w
theorem progRows_sorted (w n : Nat) (C : List Nat) (S : List Int) : (progRows w n C S).Pairwise rlt := rowsL_sorted fun i _ => by
  unfold progF
  split
  · exact srtO_strict _
  · simp
def blank (C : List Nat) (r : Row) : Row := r.mapIdx fun i x => if i ∈ C then x else none
theorem blank_get (C : List Nat) (r : Row) (i : Nat) : (blank C r).getD i none = if i ∈ C then r.getD i none else none := by
  unfold blank
  rw [List.getD_eq_getElem?_getD, List.getD_eq_getElem?_getD, List.getElem?_mapIdx]
  cases r[i]? <;> simp
theorem blank_alike (C : List Nat) (S : List Int) (r : Row) : Alike C S r (blank C r) := by
  refine ⟨fun i hi => by rw [blank_get, if_pos hi], fun i hi j hj a b a' b' h1 h2 h3 h4 => ?_, fun i hi s _ a a' h1 h2 => ?_⟩
  · rw [blank_get, if_pos hi, h1] at h3
    rw [blank_get, if_pos hj, h2] at h4
    cases h3; cases h4; exact Iff.rfl
  · rw [blank_get, if_pos hi, h1] at h2
    cases h2; exact ⟨Iff.rfl, Iff.rfl⟩
theorem blank_nb (C : List Nat) (r : Row) : NotBehind (blank C r) r := by
  refine ⟨by simp [blank], fun i => ?_⟩
  rw [blank_get]
  split
  · exact Nat.le_refl _
  · simp [okey]
/-- each row has one of the program's that is alike and not behind -/
theorem prog_small {w n : Nat} {C : List Nat} {S : List Int} (hC : C.length ≤ n) (hn : 1 ≤ n) (hS : S.Pairwise (· < ·)) {r : Row} (hr : r.length = w) : ∃ r' ∈ progRows w n C S, rle r' r ∧ Alike C S r r' := by
  obtain ⟨q, n1, a1, hq⟩ := small_rows C S n hC _ r (Nat.le_refl _)
  refine ⟨blank C q, mem_rowsL.mpr ⟨by simp [blank, n1.1, hr], fun i hi => ?_⟩, nb_rle ((blank_nb C q).trans n1), a1.trans (blank_alike C S q)⟩
  rw [blank_get]
  unfold progF
  split
  · rename_i h
    cases e : q.getD i none with
    | none => exact none_candL n S
    | some v => exact near_candL hn hS (hq i h v e)
  · simp
/-- what depends on the truth alone is found first where the program looks -/
theorem prog_find {w n : Nat} {C : List Nat} {S : List Int} {p : Row → Bool} {L : List Row} (hC : C.length ≤ n) (hn : 1 ≤ n) (hS : S.Pairwise (· < ·)) (hp : ∀ r r', Alike C S r r' → p r = p r') (hL : L.Pairwise rlt) (hlen : ∀ r ∈ L, r.length = w) (sub : ∀ r ∈ progRows w n C S, r ∈ L) :
    (progRows w n C S).find? p = L.find? p := find_agree (progRows_sorted w n C S) hL sub fun r hr h => by
  obtain ⟨r', h1, h2, h3⟩ := prog_small hC hn hS (hlen r hr)
  exact ⟨r', h1, h2, by rw [← hp r r' h3]; exact h⟩
end PL


/-! PMb: what the law draws: three integers, predicates. Plain. -/
namespace PL
/-- three rising integers, not far -/
def Rise (I : List Int) : Prop := ∃ a b c, I = [a, b, c] ∧ a < b ∧ b < c ∧ -1000 ≤ a ∧ c ≤ 1000
theorem Rise.lit {I : List Int} (h : Rise I) {i : Int} (hi : i ∈ I) : -1000 ≤ i ∧ i ≤ 1000 := by
  obtain ⟨a, b, c, rfl, h1, h2, h3, h4⟩ := h
  simp only [List.mem_cons, List.not_mem_nil, or_false] at hi
  omega
def Opd.known : Opd → Bool
  | .lit none => false
  | _ => true
def Pr.plain : Pr → Bool
  | .cst t => t.isSome
  | .cmp _ a b => a.known && b.known
  | .inn a l => a.known && l.all Option.isSome
  | .qnt _ _ a l => a.known && l.all Option.isSome
  | .nul _ => false
  | .nott p => p.plain
  | .bin _ p q => p.plain && q.plain
  | .iss _ _ => false
/-- drawn: for a width, of the integers I, of at most d levels -/
structure Drawn (w : Int) (I : List Int) (d : Nat) (bare : Bool) (p : Pr) : Prop where
  ok : p.ok w = true
  dp : p.depth ≤ d
  pl : p.parts.length + 1 ≤ 2 ^ d
  li : ∀ i ∈ p.li, i ∈ I
  pn : bare = true → p.plain = true
structure DrawnO (w : Int) (I : List Int) (bare : Bool) (a : Opd) : Prop where
  ok : a.ok w = true
  li : ∀ i ∈ a.li, i ∈ I
  pn : bare = true → a.known = true
structure DrawnL (I : List Int) (bare : Bool) (l : Row) : Prop where
  le : l.length ≤ 3
  li : ∀ i ∈ rowI l, i ∈ I
  pn : bare = true → l.all Option.isSome = true
theorem lits_ok {I : List Int} (hI : Rise I) : ∀ {l : Row}, (∀ i ∈ rowI l, i ∈ I) → l.all litOk = true
  | [], _ => rfl
  | none :: l, h => by
    have := lits_ok hI (l := l) fun i hi => h i (by simpa [rowI] using hi)
    simp [litOk, this]
  | some v :: l, h => by
    have := lits_ok hI (l := l) fun i hi => h i (by simp [rowI] at hi ⊢; exact .inr hi)
    have hv := hI.lit (h v (by simp [rowI]))
    simp only [List.all_cons, this, litOk, Bool.and_eq_true, decide_eq_true_eq, and_true]
    exact hv
theorem DrawnL.lst {I : List Int} {b : Bool} {l : Row} (hI : Rise I) (h : DrawnL I b l) : lstOk l = true := by
  have := h.le
  simp only [lstOk, lits_ok hI h.li, Bool.and_true, decide_eq_true_eq]
  omega
theorem Drawn.cst (w : Int) (I : List Int) (bare : Bool) (t : Option Bool) (h : bare = true → t.isSome = true) : Drawn w I 1 bare (.cst t) := ⟨rfl, Nat.le_refl _, Nat.le_refl _, (fun i h => by simp [Pr.li] at h), h⟩
theorem Drawn.cmp {w : Int} {I : List Int} {bare : Bool} (o : Op4) {a b : Opd} (ha : DrawnO w I bare a) (hb : DrawnO w I bare b) : Drawn w I 1 bare (.cmp o a b) :=
  ⟨by simp [Pr.ok, ha.ok, hb.ok], Nat.le_refl _, Nat.le_refl _, fun i h => (List.mem_append.mp h).elim (ha.li i) (hb.li i), fun e => by simp [Pr.plain, ha.pn e, hb.pn e]⟩
theorem Drawn.inn {w : Int} {I : List Int} {bare : Bool} (hI : Rise I) {a : Opd} {l : Row} (ha : DrawnO w I bare a) (hl : DrawnL I bare l) : Drawn w I 1 bare (.inn a l) :=
  ⟨by simp [Pr.ok, ha.ok, hl.lst hI], Nat.le_refl _, Nat.le_refl _, fun i h => (List.mem_append.mp h).elim (ha.li i) (hl.li i), fun e => by simp only [Pr.plain, ha.pn e, hl.pn e, Bool.and_self]⟩
theorem Drawn.qnt {w : Int} {I : List Int} {bare : Bool} (hI : Rise I) (al : Bool) (o : Op4) {a : Opd} {l : Row} (ha : DrawnO w I bare a) (hl : DrawnL I bare l) : Drawn w I 1 bare (.qnt al o a l) :=
  ⟨by simp [Pr.ok, ha.ok, hl.lst hI], Nat.le_refl _, Nat.le_refl _, fun i h => (List.mem_append.mp h).elim (ha.li i) (hl.li i), fun e => by simp only [Pr.plain, ha.pn e, hl.pn e, Bool.and_self]⟩
theorem Drawn.nul {w : Int} {I : List Int} {a : Opd} {b : Bool} (ha : DrawnO w I b a) : Drawn w I 1 false (.nul a) := ⟨ha.ok, Nat.le_refl _, Nat.le_refl _, ha.li, fun e => nomatch e⟩
theorem Drawn.up {w : Int} {I : List Int} {bare : Bool} {p : Pr} {d e : Nat} (h : Drawn w I d bare p) (hd : d ≤ e) : Drawn w I e bare p :=
  ⟨h.ok, Nat.le_trans h.dp hd, Nat.le_trans h.pl (Nat.pow_le_pow_right (by decide) hd), h.li, h.pn⟩
theorem Drawn.nott {w : Int} {I : List Int} {bare : Bool} {p : Pr} {d : Nat} (h : Drawn w I d bare p) : Drawn w I (d + 1) bare (.nott p) := by
  have hp : 1 ≤ p.parts.length := by cases p <;> simp [Pr.parts]
  refine ⟨h.ok, Nat.succ_le_succ h.dp, ?_, h.li, h.pn⟩
  have := h.pl
  simp only [Pr.parts, List.length_cons, List.length_map, Nat.pow_succ]
  omega
theorem Drawn.iss {w : Int} {I : List Int} {p : Pr} {d : Nat} {b : Bool} (t : Option Bool) (h : Drawn w I d b p) : Drawn w I (d + 1) false (.iss t p) := by
  have hp : 1 ≤ p.parts.length := by cases p <;> simp [Pr.parts]
  refine ⟨h.ok, Nat.succ_le_succ h.dp, ?_, h.li, fun e => nomatch e⟩
  have := h.pl
  simp only [Pr.parts, List.length_cons, List.length_map, Nat.pow_succ]
  omega
theorem Drawn.bin {w : Int} {I : List Int} {bare : Bool} {p q : Pr} {d : Nat} (or : Bool) (h : Drawn w I d bare p) (k : Drawn w I d bare q) : Drawn w I (d + 1) bare (.bin or p q) := by
  refine ⟨by simp [Pr.ok, h.ok, k.ok], ?_, ?_, fun i hi => (List.mem_append.mp hi).elim (h.li i) (k.li i), fun e => by simp [Pr.plain, h.pn e, k.pn e]⟩
  · have := h.dp; have := k.dp; simp only [Pr.depth]; omega
  · have := h.pl; have := k.pl
    simp only [Pr.parts, List.length_cons, List.length_append, List.length_map, Nat.pow_succ]
    omega
/-! ### the integers of a predicate -/
theorem lits_li (p : Pr) (i : Int) : some i ∈ p.lits → i ∈ p.li := by
  have ho : ∀ a : Opd, some i ∈ a.lits → i ∈ a.li := fun a h => by
    cases a with
    | col c => simp [Opd.lits] at h
    | lit v => simp [Opd.lits] at h; simp [Opd.li, ← h]
  have hr : ∀ l : Row, some i ∈ l → i ∈ rowI l := fun l h => by simpa [rowI] using h
  cases p <;> simp only [Pr.lits, Pr.li, List.mem_append] <;> intro h
  · cases h
  · exact h.imp (ho _) (ho _)
  · exact h.symm.imp (ho _) (hr _)
  · exact h.symm.imp (ho _) (hr _)
  · exact ho _ h
  · cases h
  · cases h
  · cases h
theorem mem_allLits {p : Pr} {i : Int} : i ∈ p.allLits ↔ ∃ x ∈ p.parts, some i ∈ x.2.lits := by simp [Pr.allLits]
theorem li_lits : ∀ {p : Pr} {i : Int}, i ∈ p.li ↔ ∃ x ∈ p.parts, some i ∈ x.2.lits := by
  have leaf : ∀ (p : Pr), p.parts = [([], p)] → (∀ i, i ∈ p.li → some i ∈ p.lits) → ∀ i, i ∈ p.li ↔ ∃ x ∈ p.parts, some i ∈ x.2.lits := fun p e k i => by
    rw [e]
    simp only [List.mem_singleton, exists_eq_left]
    exact ⟨k i, lits_li p i⟩
  have ho : ∀ (a : Opd) i, i ∈ a.li → some i ∈ a.lits := fun a i h => by
    cases a with
    | col c => simp [Opd.li] at h
    | lit v => simp [Opd.li] at h; simp [Opd.lits, ← h]
  have hr : ∀ (l : Row) i, i ∈ rowI l → some i ∈ l := fun l i h => by simpa [rowI] using h
  intro p
  induction p with
  | cst t => exact leaf _ rfl (fun i h => by simp [Pr.li] at h) _
  | cmp o a b => exact leaf _ rfl (fun i h => by simp only [Pr.lits, Pr.li, List.mem_append] at h ⊢; exact h.imp (ho _ _) (ho _ _)) _
  | inn a l => exact leaf _ rfl (fun i h => by simp only [Pr.lits, Pr.li, List.mem_append] at h ⊢; exact h.symm.imp (hr _ _) (ho _ _)) _
  | qnt al o a l => exact leaf _ rfl (fun i h => by simp only [Pr.lits, Pr.li, List.mem_append] at h ⊢; exact h.symm.imp (hr _ _) (ho _ _)) _
  | nul a => exact leaf _ rfl (fun i h => ho _ _ h) _
  | nott p ih =>
    intro i
    simp only [Pr.li, Pr.parts, List.mem_cons, List.mem_map, ih]
    constructor
    · rintro ⟨x, hx, h⟩; exact ⟨_, .inr ⟨x, hx, rfl⟩, h⟩
    · rintro ⟨_, rfl | ⟨x, hx, rfl⟩, h⟩
      · simp [Pr.lits] at h
      · exact ⟨x, hx, h⟩
  | iss t p ih =>
    intro i
    simp only [Pr.li, Pr.parts, List.mem_cons, List.mem_map, ih]
    constructor
    · rintro ⟨x, hx, h⟩; exact ⟨_, .inr ⟨x, hx, rfl⟩, h⟩
    · rintro ⟨_, rfl | ⟨x, hx, rfl⟩, h⟩
      · simp [Pr.lits] at h
      · exact ⟨x, hx, h⟩
  | bin or p q ih1 ih2 =>
    intro i
    simp only [Pr.li, Pr.parts, List.mem_cons, List.mem_append, List.mem_map, ih1, ih2]
    constructor
    · rintro (⟨x, hx, h⟩ | ⟨x, hx, h⟩)
      · exact ⟨_, .inr (.inl ⟨x, hx, rfl⟩), h⟩
      · exact ⟨_, .inr (.inr ⟨x, hx, rfl⟩), h⟩
    · rintro ⟨_, rfl | ⟨x, hx, rfl⟩ | ⟨x, hx, rfl⟩, h⟩
      · simp [Pr.lits] at h
      · exact .inl ⟨x, hx, h⟩
      · exact .inr ⟨x, hx, h⟩
theorem foldI_mem (x : Int) : ∀ (l acc : List Int), x ∈ l.foldl addI acc ↔ x ∈ acc ∨ x ∈ l
  | [], acc => by simp
  | y :: l, acc => by
    rw [List.foldl_cons, foldI_mem x l]
    unfold addI
    by_cases h : y ∈ acc
    · rw [if_pos h, List.mem_cons]
      constructor
      · rintro (q | q)
        · exact .inl q
        · exact .inr (.inr q)
      · rintro (q | rfl | q)
        · exact .inl q
        · exact .inl h
        · exact .inr q
    · rw [if_neg h, List.mem_append, List.mem_singleton, List.mem_cons, or_assoc]
theorem foldI_nodup : ∀ (l acc : List Int), acc.Nodup → (l.foldl addI acc).Nodup
  | [], acc, h => h
  | y :: l, acc, h => by
    rw [List.foldl_cons]
    refine foldI_nodup l _ ?_
    unfold addI
    split
    · exact h
    · rename_i q
      rw [List.nodup_append]
      refine ⟨h, by simp, ?_⟩
      intro a ha b hb
      rw [List.mem_singleton] at hb
      subst hb
      rintro rfl
      exact q ha
/-- the different ones, rising -/
def srtI (l : List Int) : List Int := sortI (l.foldl addI [])
theorem mem_srtI {i : Int} {l : List Int} : i ∈ srtI l ↔ i ∈ l := by
  unfold srtI
  rw [(sortI_perm _).mem_iff, foldI_mem]
  simp
theorem srtI_strict (l : List Int) : (srtI l).Pairwise (· < ·) := by
  have h1 := sortI_sorted (l.foldl addI [])
  have h2 : (srtI l).Nodup := (sortI_perm _).nodup_iff.mpr (foldI_nodup l [] (by simp))
  exact List.pairwise_iff_getElem.mpr fun i j hi hj hij => by
    have a := List.pairwise_iff_getElem.mp h1 i j hi hj hij
    have b := List.pairwise_iff_getElem.mp h2 i j hi hj hij
    have c : (srtI l)[i] ≤ (srtI l)[j] := a
    have d : (srtI l)[i] ≠ (srtI l)[j] := b
    omega
theorem srtI_nodup (l : List Int) : (srtI l).Nodup := (srtI_strict l).imp fun h z => by omega
theorem srtI_le {l m : List Int} (h : ∀ i ∈ l, i ∈ m) : (srtI l).length ≤ m.length := nodup_le (srtI_nodup l) fun i hi => h i (mem_srtI.mp hi)
theorem ints_srt (p : Pr) : p.ints = srtI p.allLits := rfl
theorem mem_ints {p : Pr} {i : Int} : i ∈ p.ints ↔ i ∈ p.li := by rw [ints_srt, mem_srtI, mem_allLits, li_lits]
theorem ints_strict (p : Pr) : p.ints.Pairwise (· < ·) := srtI_strict _
/-- what is drawn is a predicate -/
theorem Drawn.good {w : Int} {I : List Int} {bare : Bool} {p : Pr} (h : Drawn w I 4 bare p) (hI : I.length ≤ 3) : p.good w = true := by
  have h1 := h.dp
  have h2 := h.pl
  have h3 : p.ints.length ≤ I.length := nodup_le (srtI_nodup _) fun i hi => h.li i (mem_ints.mp hi)
  simp only [Pr.good, h.ok, Bool.true_and, Bool.and_eq_true, decide_eq_true_eq]
  omega
theorem Rise.len {I : List Int} (h : Rise I) : I.length = 3 := by obtain ⟨a, b, c, rfl, _⟩ := h; rfl
end PL


/-! PMc: blocks cut behind a statement with two ways. -/
namespace PL
open PySem PySem.Spec PyProof.Rows L2
def wSeqC (t u : DS) : DS := fun ρ m D => t ρ m { D with nx := fun ρ' m' => u ρ' m' D }
theorem jb_consC {X : Cx} {B : Bs} {st : Stmt} {rest : List Stmt} {t u : DS} (h1 : JS X B st t) (h2 : JB X B rest u) : JB X B (st :: rest) (wSeqC t u) := jb_cons h1 h2
/-- what holds between the two -/
theorem seqC {t u : DS} {ρ : PEnv} {m : Mem} {D : PEnds} (I : PEnv → Mem → Prop) (ht : ∀ N : PEnv → Mem → Prop, (∀ ρ' m', I ρ' m' → N ρ' m') → t ρ m { D with nx := N }) (hu : ∀ ρ' m', I ρ' m' → u ρ' m' D) : wSeqC t u ρ m D := ht _ hu
/-- the same, for any block in a row -/
theorem seqI {t u : DS} {ρ : PEnv} {m : Mem} {D : PEnds} (I : PEnv → Mem → Prop) (ht : ∀ N : PEnv → Mem → Prop, (∀ ρ' m', I ρ' m' → N ρ' m') → t ρ m { D with nx := N }) (hu : ∀ ρ' m', I ρ' m' → u ρ' m' D) : wSeq t u ρ m D := ht _ hu
end PL


/-! PMd: predicates as values: compared, their parts at their paths. Plain. -/
namespace PL
open PySem PySem.Spec PyProof.Rows L2
theorem okD_oP' (o : Option Int) : okD (oP o) = true := by cases o <;> simp [oP]
theorem dep_oP' (o : Option Int) : dep (oP o) = 0 := by cases o <;> simp [oP]
theorem cln_oP' (o : Option Int) : cln (oP o) = true := by cases o <;> simp [oP]
theorem okD_row' (r : Row) : okD (rowP r) = true := by
  simp only [rowP, okD_tup, okDs_all, List.mem_map]
  rintro x ⟨o, _, rfl⟩
  exact okD_oP' o
theorem cln_row' (r : Row) : cln (rowP r) = true := by
  simp only [rowP, cln_tup, clns_all, List.mem_map]
  rintro x ⟨o, _, rfl⟩
  exact cln_oP' o
theorem dep_row' (r : Row) : dep (rowP r) = 1 := by
  have : deps (r.map oP) = 0 := by
    refine Nat.le_zero.mp (deps_le.mpr fun x hx => ?_)
    obtain ⟨o, _, rfl⟩ := List.mem_map.mp hx
    rw [dep_oP']
    exact Nat.le_refl _
  simp only [rowP, dep_tup, this]
@[simp] theorem okS_op (o : Op4) : PyData.strOk o.s = true := by cases o <;> simp [Op4.s]
@[simp] theorem okS_truth (t : Option Bool) : PyData.strOk (truthS t) = true := by rcases t with _ | _ | _ <;> simp [truthS]
theorem okD_opd' (a : Opd) : okD (opdP a) = true := by
  cases a with
  | col i => simp [opdP]
  | lit v => simp [opdP, okD_oP']
theorem cln_opd' (a : Opd) : cln (opdP a) = true := by
  cases a with
  | col i => simp [opdP]
  | lit v => simp [opdP, cln_oP']
theorem dep_opd' (a : Opd) : dep (opdP a) = 1 := by
  cases a with
  | col i => simp [opdP]
  | lit v => simp [opdP, dep_oP']
theorem okD_prP : ∀ p : Pr, okD (prP p) = true
  | .cst t => by simp [prP]
  | .cmp o a b => by simp [prP, okD_opd']
  | .inn a l => by simp [prP, okD_opd', okD_row']
  | .qnt al o a l => by cases al <;> simp [prP, okD_opd', okD_row']
  | .nul a => by simp [prP, okD_opd']
  | .nott p => by simp [prP, okD_prP p]
  | .bin or p q => by cases or <;> simp [prP, okD_prP p, okD_prP q]
  | .iss t p => by simp [prP, okD_prP p]
theorem cln_prP : ∀ p : Pr, cln (prP p) = true
  | .cst t => by simp [prP]
  | .cmp o a b => by simp [prP, cln_opd']
  | .inn a l => by simp [prP, cln_opd', cln_row']
  | .qnt al o a l => by cases al <;> simp [prP, cln_opd', cln_row']
  | .nul a => by simp [prP, cln_opd']
  | .nott p => by simp [prP, cln_prP p]
  | .bin or p q => by cases or <;> simp [prP, cln_prP p, cln_prP q]
  | .iss t p => by simp [prP, cln_prP p]
theorem dep_prP : ∀ p : Pr, dep (prP p) ≤ p.depth + 2
  | .cst t => by simp [prP, Pr.depth]
  | .cmp o a b => by simp [prP, dep_opd', Pr.depth]
  | .inn a l => by simp [prP, dep_opd', dep_row', Pr.depth]
  | .qnt al o a l => by simp [prP, dep_opd', dep_row', Pr.depth]
  | .nul a => by simp [prP, dep_opd', Pr.depth]
  | .nott p => by have := dep_prP p; simp [prP, Pr.depth]; omega
  | .bin or p q => by have := dep_prP p; have := dep_prP q; simp [prP, Pr.depth]; omega
  | .iss t p => by have := dep_prP p; simp [prP, Pr.depth]; omega
theorem peq_prP (p q : Pr) : peq (prP p) (prP q) = decide (p = q) := by
  by_cases h : p = q
  · subst h; rw [decide_eq_true rfl]; exact (peq_iff (cln_prP p) (cln_prP p)).mpr rfl
  · rw [decide_eq_false h]; exact (peq_false (cln_prP p) (cln_prP q)).mpr fun e => h (prP_inj e)
theorem gEq_pr {p q : Pr} {Q : PV → Prop} (hd : p.depth ≤ 100) (h : Q (.bl (decide (p = q)))) : gEq (prP p) (prP q) Q :=
  ⟨okD_prP p, okD_prP q, Nat.le_trans (Nat.min_le_left _ _) (by have := dep_prP p; omega), by rw [peq_prP]; exact h⟩
theorem gNe_pr {p q : Pr} {Q : PV → Prop} (hd : p.depth ≤ 100) (h : Q (.bl (!decide (p = q)))) : gNe (prP p) (prP q) Q :=
  ⟨okD_prP p, okD_prP q, Nat.le_trans (Nat.min_le_left _ _) (by have := dep_prP p; omega), by rw [peq_prP]; exact h⟩
theorem eq_same {p q : PV} {Q : PV → Prop} (h : p = q) (c : cln p = true) (o : okD p = true) (d : dep p ≤ 150) (k : Q (.bl true)) : gEq p q Q := by
  subst h
  refine ⟨o, o, Nat.le_trans (Nat.min_le_left _ _) d, ?_⟩
  rw [(peq_iff c c).mpr rfl]
  exact k
theorem ne_same {p q : PV} {Q : PV → Prop} (h : p = q) (c : cln p = true) (o : okD p = true) (d : dep p ≤ 150) (k : Q (.bl false)) : gNe p q Q := by
  subst h
  refine ⟨o, o, Nat.le_trans (Nat.min_le_left _ _) d, ?_⟩
  rw [(peq_iff c c).mpr rfl]
  exact k
theorem depth_pos (p : Pr) : 1 ≤ p.depth := by cases p <;> simp [Pr.depth]
/-! ### parts at their paths -/
def Pr.kid : Pr → Int → Option Pr
  | .nott p, i => if i = 1 then some p else none
  | .bin _ p q, i => if i = 1 then some p else if i = 2 then some q else none
  | .iss _ p, i => if i = 2 then some p else none
  | _, _ => none
def Pr.sub : Pr → List PV → Option Pr
  | p, [] => some p
  | p, .int i :: l => (p.kid i).bind fun q => q.sub l
  | _, _ :: _ => none
theorem kid_depth {p q : Pr} {i : Int} (h : p.kid i = some q) : q.depth + 1 ≤ p.depth := by
  cases p <;> simp only [Pr.kid] at h <;> first | (cases h; done) | skip
  · split at h <;> cases h; simp [Pr.depth]
  · split at h
    · cases h; simp [Pr.depth]; omega
    · split at h <;> cases h; simp [Pr.depth]; omega
  · split at h <;> cases h; simp [Pr.depth]
theorem sub_depth : ∀ {l : List PV} {p q : Pr}, p.sub l = some q → q.depth + l.length ≤ p.depth
  | [], p, q, h => by cases h; simp
  | x :: l, p, q, h => by
    cases x <;> simp only [Pr.sub] at h <;> first | (cases h; done) | skip
    rename_i i
    cases e : p.kid i with
    | none => rw [e] at h; cases h
    | some r =>
      rw [e] at h
      have h1 := kid_depth e
      have h2 := sub_depth (l := l) (p := r) h
      simp only [List.length_cons]
      omega
theorem sub_app : ∀ {l k : List PV} {p : Pr}, p.sub (l ++ k) = (p.sub l).bind fun q => q.sub k
  | [], k, p => rfl
  | x :: l, k, p => by
    cases x <;> simp only [List.cons_append, Pr.sub] <;> try rfl
    rename_i i
    cases p.kid i with
    | none => rfl
    | some q => exact sub_app
theorem parts_sub : ∀ {p : Pr}, ∀ x ∈ p.parts, p.sub (x.1.map PV.int) = some x.2 := by
  intro p
  induction p with
  | nott p ih =>
    intro x hx
    simp only [Pr.parts, List.mem_cons, List.mem_map] at hx
    rcases hx with rfl | ⟨y, hy, rfl⟩
    · rfl
    · simpa [Pr.sub, Pr.kid] using ih y hy
  | iss t p ih =>
    intro x hx
    simp only [Pr.parts, List.mem_cons, List.mem_map] at hx
    rcases hx with rfl | ⟨y, hy, rfl⟩
    · rfl
    · simpa [Pr.sub, Pr.kid] using ih y hy
  | bin or p q ih1 ih2 =>
    intro x hx
    simp only [Pr.parts, List.mem_cons, List.mem_append, List.mem_map] at hx
    rcases hx with rfl | ⟨y, hy, rfl⟩ | ⟨y, hy, rfl⟩
    · rfl
    · simpa [Pr.sub, Pr.kid] using ih1 y hy
    · simpa [Pr.sub, Pr.kid] using ih2 y hy
  | _ =>
    intro x hx
    simp only [Pr.parts, List.mem_cons, List.not_mem_nil, or_false] at hx
    subst hx
    rfl
/-- what a part keeps -/
theorem parts_in : ∀ {p : Pr}, ∀ x ∈ p.parts, (∀ w, p.ok w = true → x.2.ok w = true) ∧ x.2.depth ≤ p.depth ∧ x.2.parts.length ≤ p.parts.length ∧ (∀ i ∈ x.2.li, i ∈ p.li) ∧ (p.plain = true → x.2.plain = true) := by
  intro p
  induction p with
  | nott p ih =>
    intro x hx
    simp only [Pr.parts, List.mem_cons, List.mem_map] at hx
    rcases hx with rfl | ⟨y, hy, rfl⟩
    · exact ⟨fun _ h => h, Nat.le_refl _, Nat.le_refl _, fun _ h => h, fun h => h⟩
    · obtain ⟨h1, h2, h3, h4, h5⟩ := ih y hy
      exact ⟨fun w h => h1 w h, by simp only [Pr.depth]; omega, by simp only [Pr.parts, List.length_cons, List.length_map]; omega, h4, h5⟩
  | iss t p ih =>
    intro x hx
    simp only [Pr.parts, List.mem_cons, List.mem_map] at hx
    rcases hx with rfl | ⟨y, hy, rfl⟩
    · exact ⟨fun _ h => h, Nat.le_refl _, Nat.le_refl _, fun _ h => h, fun h => h⟩
    · obtain ⟨h1, h2, h3, h4, h5⟩ := ih y hy
      exact ⟨fun w h => h1 w h, by simp only [Pr.depth]; omega, by simp only [Pr.parts, List.length_cons, List.length_map]; omega, h4, fun h => nomatch h⟩
  | bin or p q ih1 ih2 =>
    intro x hx
    simp only [Pr.parts, List.mem_cons, List.mem_append, List.mem_map] at hx
    rcases hx with rfl | ⟨y, hy, rfl⟩ | ⟨y, hy, rfl⟩
    · exact ⟨fun _ h => h, Nat.le_refl _, Nat.le_refl _, fun _ h => h, fun h => h⟩
    · obtain ⟨h1, h2, h3, h4, h5⟩ := ih1 y hy
      exact ⟨fun w h => h1 w (by simp only [Pr.ok, Bool.and_eq_true] at h; exact h.1), by simp only [Pr.depth]; omega, by simp only [Pr.parts, List.length_cons, List.length_append, List.length_map]; omega, fun i hi => List.mem_append.mpr (.inl (h4 i hi)), fun h => h5 (by simp only [Pr.plain, Bool.and_eq_true] at h; exact h.1)⟩
    · obtain ⟨h1, h2, h3, h4, h5⟩ := ih2 y hy
      exact ⟨fun w h => h1 w (by simp only [Pr.ok, Bool.and_eq_true] at h; exact h.2), by simp only [Pr.depth]; omega, by simp only [Pr.parts, List.length_cons, List.length_append, List.length_map]; omega, fun i hi => List.mem_append.mpr (.inr (h4 i hi)), fun h => h5 (by simp only [Pr.plain, Bool.and_eq_true] at h; exact h.2)⟩
  | _ =>
    intro x hx
    simp only [Pr.parts, List.mem_cons, List.not_mem_nil, or_false] at hx
    subst hx
    exact ⟨fun _ h => h, Nat.le_refl _, Nat.le_refl _, fun _ h => h, fun h => h⟩
theorem ints_le {p q : Pr} (h : ∀ i ∈ p.li, i ∈ q.li) : p.ints.length ≤ q.ints.length := nodup_le (srtI_nodup _) fun i hi => mem_ints.mpr (h i (mem_ints.mp hi))
theorem parts_good {w : Int} {p : Pr} (h : p.good w = true) : ∀ x ∈ p.parts, x.2.good w = true := fun x hx => by
  obtain ⟨h1, h2, h3, h4, _⟩ := parts_in x hx
  have := ints_le h4
  simp only [Pr.good, Bool.and_eq_true, decide_eq_true_eq] at h ⊢
  exact ⟨⟨⟨h1 w h.1.1.1, by omega⟩, by omega⟩, by omega⟩
/-! ### a value put at a path -/
def Pr.putV : Pr → List Int → PV → PV
  | _, [], v => v
  | .nott p, _ :: l, v => .tup [.str "not", p.putV l v]
  | .bin or p q, i :: l, v => if i = 1 then .tup [.str (if or then "or" else "and"), p.putV l v, prP q] else .tup [.str (if or then "or" else "and"), prP p, q.putV l v]
  | .iss t p, _ :: l, v => .tup [.str "is", .str (truthS t), p.putV l v]
  | p, _ :: _, _ => prP p
/-- a predicate put at a path -/
def Pr.put : Pr → List Int → Pr → Pr
  | _, [], v => v
  | .nott p, _ :: l, v => .nott (p.put l v)
  | .bin or p q, i :: l, v => if i = 1 then .bin or (p.put l v) q else .bin or p (q.put l v)
  | .iss t p, _ :: l, v => .iss t (p.put l v)
  | p, _ :: _, _ => p
theorem putV_P : ∀ {p : Pr} {l : List Int} {v : Pr}, p.putV l (prP v) = prP (p.put l v)
  | p, [], v => by cases p <;> simp [Pr.putV, Pr.put]
  | .nott p, _ :: l, v => by simp [Pr.putV, Pr.put, prP, putV_P]
  | .bin or p q, i :: l, v => by simp only [Pr.putV, Pr.put]; split <;> simp [prP, putV_P]
  | .iss t p, _ :: l, v => by simp [Pr.putV, Pr.put, prP, putV_P]
  | .cst _, _ :: _, _ => rfl
  | .cmp _ _ _, _ :: _, _ => rfl
  | .inn _ _, _ :: _, _ => rfl
  | .qnt _ _ _ _, _ :: _, _ => rfl
  | .nul _, _ :: _, _ => rfl
/-- what doesn't fit makes the whole not fit -/
theorem putV_bad {w : Int} {v : PV} (hv : ∀ d, fitsB w d v = false) : ∀ {l : List Int} {p q : Pr} {d : Nat}, p.sub (l.map PV.int) = some q → fitsB w d (p.putV l v) = false
  | [], p, q, d, h => by
    rw [show p.putV [] v = v by cases p <;> simp [Pr.putV]]; exact hv d
  | i :: l, p, q, d, h => by
    rw [List.map_cons, Pr.sub] at h
    cases e : p.kid i with
    | none => rw [e] at h; cases h
    | some r =>
      rw [e] at h
      have ih := fun d => putV_bad hv (l := l) (p := r) (q := q) (d := d) h
      cases d with
      | zero => unfold fitsB; rfl
      | succ d =>
        cases p <;> simp only [Pr.kid] at e <;> first | (cases e; done) | skip
        · split at e <;> cases e
          simp (decide := true) [Pr.putV, fitsB, ih]
        · rename_i or _ _
          split at e
          · rename_i e1; subst e1; cases e
            cases or <;> simp (decide := true) [Pr.putV, fitsB, ih]
          · rename_i e1
            split at e <;> cases e
            cases or <;> simp (decide := true) [Pr.putV, fitsB, ih, e1]
        · split at e <;> cases e
          simp (decide := true) [Pr.putV, fitsB, ih]
theorem okD_putV {v : PV} (hv : okD v = true) : ∀ {l : List Int} {p : Pr}, okD (p.putV l v) = true
  | [], p => by rw [show p.putV [] v = v by cases p <;> simp [Pr.putV]]; exact hv
  | i :: l, .nott p => by simp [Pr.putV, okD_putV hv]
  | i :: l, .bin or p q => by simp only [Pr.putV]; split <;> cases or <;> simp [okD_putV hv, okD_prP]
  | i :: l, .iss t p => by simp [Pr.putV, okD_putV hv]
  | i :: l, .cst _ => okD_prP _
  | i :: l, .cmp _ _ _ => okD_prP _
  | i :: l, .inn _ _ => okD_prP _
  | i :: l, .qnt _ _ _ _ => okD_prP _
  | i :: l, .nul _ => okD_prP _
theorem any_ints (l : List Int) (i : Int) : ((l.map PV.int).any fun y => peq y (.int i)) = decide (i ∈ l) := by
  induction l with
  | nil => rfl
  | cons a l ih =>
    rw [List.map_cons, List.any_cons, ih]
    by_cases h : a = i
    · simp [h]
    · have h2 : ¬ i = a := fun z => h z.symm
      simp [h, h2]
theorem okDs_ints (l : List Int) : okDs (l.map PV.int) = true := by
  rw [okDs_all]
  intro x hx
  obtain ⟨i, _, rfl⟩ := List.mem_map.mp hx
  rfl
end PL


/-! PMe: dicts and tuples of the module, by what the top leaves. -/
namespace PL
open PySem PySem.Spec PyProof.Rows L2
def pvB' (p : PV) (u : Value) : Bool := match p, u with
  | .non, .none => true
  | .bl a, .bool b => a == b
  | .int i, .int j _ => decide (i = j)
  | .str x, .str y _ => decide (x = y)
  | _, _ => false
theorem pvB'_ok {K : PySem.W.Frag} {p : PV} {u : Value} (h : pvB' p u = true) : ∃ v, RelV v u ∧ ∀ F, Rep K F v p := by
  unfold pvB' at h
  split at h
  · exact ⟨.non, rfl, fun F => .non⟩
  · rename_i a b
    have e : a = b := by simpa using h
    subst e
    exact ⟨.bl a, rfl, fun F => .bl a⟩
  · rename_i i j t
    have e : i = j := by simpa using h
    subst e
    exact ⟨.int i, ⟨t, rfl⟩, fun F => .int i⟩
  · rename_i x y t
    have e : x = y := by simpa using h
    subst e
    exact ⟨.str x, ⟨t, rfl⟩, fun F => .str x⟩
  · cases h
def gdL : List DictEntry → List (Str × PV) → Bool
  | [], [] => true
  | e :: es, kv :: kvs => (match e.key with | .str x _ => decide (x = kv.1) | _ => false) && pvB' kv.2 e.val && gdL es kvs
  | _, _ => false
def gdB (K : PySem.W.Frag) (x : Str) (kvs : List (Str × PV)) : Bool := match K.lookup (He.ga K x) with
  | some ⟨.type _, none, .dict es _, _⟩ => gdL es.toList kvs
  | _ => false
theorem gdL_keys : ∀ {es : List DictEntry} {kvs : List (Str × PV)}, gdL es kvs = true → es.map (fun e => (He.keyOf e).map (·.1)) = kvs.map (fun kv => some kv.1)
  | [], [], _ => rfl
  | e :: es, kv :: kvs, h => by
    simp only [gdL, Bool.and_eq_true] at h
    obtain ⟨⟨h1, h2⟩, h3⟩ := h
    rw [List.map_cons, List.map_cons, gdL_keys h3]
    congr 1
    unfold He.keyOf
    split at h1
    · rename_i x t q
      rw [q]
      have e1 : x = kv.1 := by simpa using h1
      simp [e1]
    · cases h1
  | [], _ :: _, h => by cases h
  | _ :: _, [], h => by cases h
theorem gdL_find {z : Str} : ∀ {es : List DictEntry} {kvs : List (Str × PV)}, gdL es kvs = true → (match kvs.lookup z with
    | some p => ∃ e, es.find? (·.key.isStr z) = some e ∧ pvB' p e.val = true
    | none => es.find? (·.key.isStr z) = none ∧ es.any (·.refKey) = false)
  | [], [], _ => ⟨rfl, rfl⟩
  | e :: es, kv :: kvs, h => by
    simp only [gdL, Bool.and_eq_true] at h
    obtain ⟨⟨h1, h2⟩, h3⟩ := h
    have ih := gdL_find (z := z) h3
    split at h1
    · rename_i x t q
      have e1 : x = kv.1 := by simpa using h1
      have hk : e.key.isStr z = (x == z) := by rw [q]; rfl
      have hr : e.refKey = false := by unfold DictEntry.refKey; rw [q]
      rw [List.lookup_cons]
      by_cases c : z = kv.1
      · rw [show (z == kv.1) = true by simpa using c]
        refine ⟨e, ?_, h2⟩
        rw [List.find?_cons, hk, e1, c]
        simp
      · rw [show (z == kv.1) = false by simpa using c]
        have hk' : e.key.isStr z = false := by rw [hk, e1]; simpa using fun z => c z.symm
        rw [List.find?_cons, hk', List.any_cons, hr]
        exact ih
    · cases h1
  | [], _ :: _, h => by cases h
  | _ :: _, [], h => by cases h
theorem gdict_of {w : World} {K : PySem.W.Frag} {mg : Str → Option Value} {x : Str} {kvs : List (Str × PV)} (hm : mg x = some (.ref (He.ga K x))) (hk : ∃ es n, KDict K w (He.ga K x) es n) (h : gdB K x kvs = true) : GDict w K mg x kvs := by
  obtain ⟨es, n, kd⟩ := hk
  unfold gdB at h
  rw [kd.at_] at h
  refine ⟨_, es, n, hm, kd, gdL_keys h, fun z => ?_⟩
  have f := gdL_find (z := z) h
  cases e : kvs.lookup z with
  | none =>
    rw [e] at f
    simp only [PySem.W.nsIn, kd.at_, f.1, f.2]
    rfl
  | some p =>
    rw [e] at f
    obtain ⟨en, f1, f2⟩ := f
    obtain ⟨v, f3, f4⟩ := pvB'_ok (K := K) f2
    exact ⟨en.val, v, by simp only [PySem.W.nsIn, kd.at_, f1], f3, f4⟩
theorem reps_strs {K : PySem.W.Frag} {F : Hp} : ∀ ss : List Str, RepAll K F ((ss.map He.Dv.str).map (He.Dv.v K)) (ss.map PV.str)
  | [] => .nil
  | s :: ss => .cons (.str s) (reps_strs ss)
theorem gval_strs {K : PySem.W.Frag} {mg : Str → Option Value} {x : Str} (ss : List Str) (hm : mg x = some (.ref (He.ga K x))) (h : He.tupB K x (ss.map He.Dv.str) = true) : GVal K mg x (.tup (ss.map PV.str)) :=
  ⟨_, .ref (He.ga K x), hm, rfl, fun F => .tup (He.tupB_ok h F) (reps_strs ss)⟩
end PL


/-! PMf: lambdas that capture nothing; sorted by such a key. -/
namespace PL
open PySem PySem.Spec PyProof.Rows L2
/-! ### a lambda that captures nothing, called -/
theorem cloFrom_nil {cells : List (Str × Addr)} : ∀ {names : List (Str × NameKind)} {acc : List (Str × Addr)}, (∀ y ∈ names, y.2 ≠ .free) → cloFrom cells names acc = acc
  | [], _, _ => rfl
  | (n, k) :: r, acc, h => by
    have hk : (k == NameKind.free) = false := by
      have := h (n, k) List.mem_cons_self
      cases k <;> first | rfl | exact absurd rfl this
    show (if (k == NameKind.free) = true then _ else _) = acc
    rw [hk, if_neg Bool.false_ne_true]
    exact cloFrom_nil fun y hy => h y (List.mem_cons_of_mem _ hy)
section
variable {P : Program} {w : World} {K : PySem.W.Frag} {mg : Str → Option Value} {base : Heap} {T : List (Addr × Str)}
theorem lam1_run {q : Str} {params : Arguments} {body : PySem.Expr} {scope : Scope} {N ps : List Str} {f c' : Addr} {pm ctv : Value} {k : Nat} {t : DE} (Sc : FnScope N ps scope) {A : Around} {outer : List Env} {s : Shared} {H F0 : Hp} {m0 : Mem} {us : List Value} {vs : List V} {qs : List PV} {Qp : KV'}
    (hf : s.heap.get? f = some (PySem.W.kla_obj "<lambda>" q params body scope [] pm c' ctv)) (hc : H c' = some (LamX.CodeO c' q)) (hr : Room (k + 1) A) (e0 : Env0 P w K mg base A outer s H)
    (hb : bindArgs (PySem.W.kla_fn "<lambda>" q params body scope [] pm (.ref c') ctv) ⟨us, []⟩ = pure (ps.zip us)) (r : Vals vs us) (hl : vs.length = ps.length)
    (hs : Same F0 H) (nt : ∀ a o, F0 a = some o → noTbl o) (hm : ∀ a c, m0 a = some c → F0 a = none ∧ RepC K F0 H a c) (ht : LamX.Tabs T H) (rp : RepAll K F0 vs qs)
    (hbody : Room k (A.deeper (envOfC q scope s.heap.objs.size f (.ref c'))) → JE (cxOf (L2N.CX P w) P w K mg base N q scope f (.ref c') A outer s H fun _ _ _ => False) ⟨P, F0, H, m0, T⟩ body t) (h : t (startP N qs) m0 Qp xBot) :
    codeAny (model P w) A (.call (.ref f) ⟨us, []⟩) (CR (L2N.CX P w) outer P w H s (fun v H' => ∃ p F' m', GSt w K ⟨P, F0, H, m0, T⟩ F' H' m' ∧ Rep K F' v p ∧ Qp p m') fun _ _ _ => False) s := by
  obtain ⟨⟨oc, vc, t0, hoc, hdc, hvc⟩, _, _⟩ := e0.hok c' _ hc
  have lim : s.heap.NoLimit := e0.mod.nolimit.keeps fun b o e => (e0.bs b o e).1
  have hkind : ∀ y ∈ ps.zip us, scope.names.lookup y.1 = some .local ∨ (scope.names.lookup y.1 = some .cell ∧ ((cellsFrom (s.heap.objs.size + 1) scope.names []).lookup y.1).isSome = true) := by
    rintro ⟨n, v⟩ hy
    exact (Sc.par n (List.of_mem_zip hy).1).imp id fun z => ⟨z, PySem.W.cellsFrom_some _ _ _ (.inl z)⟩
  refine PySem.W.kla_callFunE hr.depth hf rfl Sc.co Sc.gen rfl ⟨c', oc, vc, t0, rfl, hoc, hdc, hvc⟩ ?_
  rw [hb]
  refine wpAny_pure (wpAny_newFunctionEnv_cells Sc.kind hkind fun env he s1 x => ?_)
  subst he
  refine ⟨lim.keeps x.toInCall.keep, ?_⟩
  have I := inv_start (CX := L2N.CX P w) (E := fun _ _ _ => False) (f := f) (cd := .ref c') (qual := q) Sc hr.hd e0 hl r x
  have st0 : PSt w K ⟨P, F0, H, m0, T⟩ F0 (L2.start N vs) H (startP N qs) m0 := pst_start hs nt hm ht rp
  have jb := hbody (hr.deeper _)
  refine PySem.W.kla_codeExpr (wpAny_mono (jb.run (fun _ => xBot) ((L2N.takes_of (E := fun _ _ _ => False) rfl rfl rfl rfl).imp fun c d σ' H' ⟨F', ρ', m', C, e1, e2, st', z⟩ => z.elim) [] s1 _ F0 H _ m0 Qp I st0 h) (fun v s' hq => ?_) fun e s' hq => hq)
  obtain ⟨v', p, F', H', m', J, st', ex', rv, rp', q'⟩ := hq
  exact ⟨v', H', J.os, J.bare, J.base, J.hok, rv, p, F', m', st'.g, rp', q'⟩
end

/-! ### what an untracked object's change leaves -/
section
variable {P : Program} {w : World} {fs : List Addr} {H H1 : Hp} {h h1 h2 : Heap} {a : Addr}
theorem un_upd (u : Un fs [] H H1 h h1) (n : h.get? a = none) (k : ∀ b o, b ≠ a → h1.get? b = some o → h2.get? b = some o) (ha : ∃ o, h2.get? a = some o) : Un fs [] H H1 h h2 := by
  have ne : ∀ b o, h.get? b = some o → b ≠ a := fun b o e z => by rw [z, n] at e; cases e
  refine ⟨fun b o e x y z => k b o (ne b o e) (u.keep b o e x y z), fun b o e x y z => ?_, u.free, fun b o e x => ?_, u.tups, u.frzs, u.tbls⟩
  · obtain ⟨sl, q⟩ := u.slot b o e x y z
    exact ⟨sl, k b _ (ne b o e) q⟩
  · obtain ⟨o', q⟩ := u.there b o e x
    exact ⟨o', k b _ (ne b o e) q⟩
theorem hok_upd (x : HOk P w H1 h1) (n : H1 a = none) (k : ∀ b o, b ≠ a → h1.get? b = some o → h2.get? b = some o) : HOk P w H1 h2 := fun b o e =>
  (x b o e).stay (fun d v hd q => k d v (by
    rintro rfl
    rcases hd with rfl | z
    · rw [n] at e; cases e
    · rw [n] at z; cases z) q) (fun _ z => z) fun _ _ z => z
theorem hok_new {o : HO} (x : HOk P w H1 h1) (n : H1 a = none) (new : ObjOk P w (L2.upd H1 a o) h1 a o) : HOk P w (L2.upd H1 a o) h1 := fun b u e => by
  by_cases hb : b = a
  · subst hb
    rw [upd_same] at e
    cases e
    exact new
  · rw [upd_ne hb] at e
    have kp : ∀ d v, H1 d = some v → L2.upd H1 a o d = some v := fun d v q => by
      rw [upd_ne (ne_of_none q n)]; exact q
    exact (x b u e).stay (fun _ _ _ q => q) (fun d q => kp d _ q) fun d _ q => kp d _ q
end
/-! ### sorted(xs, key=f): None and ints -/
def oV : Option Int → V
  | none => .non
  | some i => .int i
def bkV : Value → Option Int
  | .int i _ => some i
  | _ => none
theorem rep_oV {K : PySem.W.Frag} {F : Hp} {v : V} {x : Option Int} (r : Rep K F v (oP x)) : v = oV x := by
  cases x with
  | none => cases r; rfl
  | some i => cases r; rfl
theorem oV_rep {K : PySem.W.Frag} {F : Hp} : ∀ l : Row, RepAll K F (l.map oV) (l.map oP)
  | [] => .nil
  | none :: l => .cons .non (oV_rep l)
  | some i :: l => .cons (.int i) (oV_rep l)
theorem reps_oV {K : PySem.W.Frag} {F : Hp} : ∀ {l : Row} {vs : List V}, RepAll K F vs (l.map oP) → vs = l.map oV
  | [], _, .nil => rfl
  | x :: l, _, .cons r t => by rw [rep_oV r, reps_oV t]; rfl
theorem bk_oV {x : Option Int} {u : Value} (r : RelV (oV x) u) : bkV u = x := by
  cases x with
  | none => cases (show u = Value.none from r); rfl
  | some i => obtain ⟨t, rfl⟩ := (show ∃ t, u = Value.int i t from r); rfl
theorem bks_oV : ∀ {l : Row} {us : List Value}, Vals (l.map oV) us → us.map bkV = l
  | [], _, .nil => rfl
  | x :: l, _, .cons r t => by rw [List.map_cons, bk_oV r, bks_oV t]
theorem oV_bk {l : Row} {us : List Value} (h : Vals (l.map oV) us) : ∀ u ∈ us, RelV (oV (bkV u)) u := by
  induction l generalizing us with
  | nil => cases h; intro u hu; cases hu
  | cons x l ih =>
    cases h with
    | cons r t =>
      intro u hu
      rcases List.mem_cons.mp hu with rfl | hu
      · rw [bk_oV r]; exact r
      · exact ih t u hu
theorem vals_bk : ∀ {us : List Value}, (∀ u ∈ us, RelV (oV (bkV u)) u) → Vals ((us.map bkV).map oV) us
  | [], _ => .nil
  | u :: us, h => .cons (h u List.mem_cons_self) (vals_bk fun v hv => h v (List.mem_cons_of_mem _ hv))
section
variable {X : Cx} {B : Bs} {pins : List (Addr × Obj)} {F H : Hp} {σ : L2.St} {ρ : PEnv} {m : Mem} {s : Shared}
/-- a state behind s, the frame's things in order -/
def SJ (X : Cx) (B : Bs) (σ : L2.St) (ρ : PEnv) (m : Mem) (s : Shared) (H F : Hp) (s1 : Shared) (H1 F1 : Hp) : Prop :=
  s1.os = s.os ∧ AllBare s1.gens ∧ Un (frs X.stack) [] H H1 s.heap s1.heap ∧ HOk X.prog X.w H1 s1.heap ∧ PSt X.w X.K B F1 σ H1 ρ m ∧ Ext F H m F1 H1 m
theorem SJ.inv {s1 : Shared} {H1 F1 : Hp} (I : Inv X pins σ H s) (j : SJ X B σ ρ m s H F s1 H1 F1) : Inv X pins σ H1 s1 :=
  I.call' j.1 j.2.2.1 j.2.2.2.1 j.2.1 fun b z => absurd z (by simp)
/-- own objects: unknown to the frames -/
abbrev Own1 (X : Cx) (s1 : Shared) (H1 : Hp) (p : Addr × Obj) : Prop := s1.heap.get? p.1 = some p.2 ∧ H1 p.1 = none ∧ p.1 ∉ frs X.stack
/-- what the key's call brings -/
def KeyTurn (X : Cx) (B : Bs) (σ : L2.St) (ρ : PEnv) (m : Mem) (s : Shared) (H F : Hp) (f : Value) (u : Value) (k : Int) : Prop :=
  ∀ (s1 : Shared) (H1 F1 : Hp), SJ X B σ ρ m s H F s1 H1 F1 → wpAny (model X.prog X.w) X.A.in1.in1 (call f [u]) (fun r s2 => ∃ t H2 F2, r = .int k t ∧ SJ X B σ ρ m s H F s2 H2 F2 ∧ ∀ p, Own1 X s1 H1 p → Own1 X s2 H2 p) (fun _ _ => False) s1
end

section
variable {prog : Program} {w : World} {A : Around} {E : Value → Shared → Prop} {s : Shared} {a kS : Addr} {vs : List Value} {kz : List Int} {keys : Array Value} {e e1 : Nat} {R : PySem.Fin → Shared → Prop}
/-- the keys are there: the rest of the sort, its two lists alone are written -/
theorem key_tail {st : SortSt} (hk1 : s.heap.get? kS = some (seqObj "list" keys e)) (ha1 : s.heap.get? a = some (seqObj "list" #[] e1)) (ne : kS ≠ a) (hi : IntsAre keys.toList kz) (hl : kz.length = vs.length) (hz : vs.length ≤ 1000000)
    (hp : (arrOf st).Perm (keys.zip vs.toArray)) (hs : SortedTo (arrOf st) (arrOf st).size) (hf : failedOf st = none)
    (h : ∀ out : Array Value, out.size = vs.length → KskOut false kz vs out.toList → R (.done (.ret .none)) { s with heap := (s.heap.update kS (Obj.mapSeq fun _ => (#[] : Array Value))).update a (Obj.mapSeq fun _ => out) }) :
    wpAny (model prog w) A (ksk_tail a false e1 (.ref kS) st) R E s := by
  have zk : keys.size = vs.length := by have := hi.length; rw [Array.length_toList] at this; omega
  have zs : (arrOf st).size = vs.length := by rw [hp.size_eq, Array.size_zip, zk, List.size_toArray, Nat.min_self]
  have zl : (1000000 : Nat) ≤ sizeLine := by decide
  have ha2 : (s.heap.update kS (Obj.mapSeq fun _ => (#[] : Array Value))).get? a = some (seqObj "list" #[] e1) := (Heap.get?_update_ne _ _ _ _ ne.symm).trans ha1
  unfold ksk_tail
  dsimp only
  refine wpAny_bind (listUpdate_at hk1 rfl (wpAny_bind (wpAny_letGo (wpAny_bind (seqEpoch_at ha2 rfl (wpAny_bind (listUpdate_at ha2 rfl ?_ (Nat.zero_le _) (by
    show ((arrOf st).map (·.2)).size ≤ _
    rw [Array.size_map, zs]; omega))))))) (by rw [zk]; omega) (Nat.zero_le _))
  rw [hf]
  simp only [Bool.false_eq_true, bne_self_eq_false, if_false]
  have o := ksk_out (b := false) hi hp hs
  rw [if_neg Bool.false_ne_true] at o
  exact wpAny_pure (h ((arrOf st).map (·.2)) (by rw [Array.size_map, zs]) o)
theorem key_end (hk1 : s.heap.get? kS = some (seqObj "list" keys e)) (ha1 : s.heap.get? a = some (seqObj "list" #[] e1)) (ne : kS ≠ a) (hi : IntsAre keys.toList kz) (hl : kz.length = vs.length) (hz : vs.length ≤ 1000000)
    (h : ∀ out : Array Value, out.size = vs.length → KskOut false kz vs out.toList → R (.done (.ret .none)) { s with heap := (s.heap.update kS (Obj.mapSeq fun _ => (#[] : Array Value))).update a (Obj.mapSeq fun _ => out) }) :
    wpAny (model prog w) A (ksk_end a false vs.toArray e1 (.ref kS) keys) R E s := by
  have zk : keys.size = vs.length := by have := hi.length; rw [Array.length_toList] at this; omega
  have zz : (keys.zip vs.toArray).size = vs.length := by rw [Array.size_zip, zk, List.size_toArray, Nat.min_self]
  have zl : (1000000 : Nat) ≤ sizeLine := by decide
  unfold ksk_end
  simp only [Bool.false_eq_true, if_false]
  by_cases h2 : vs.toArray.size < 2
  · rw [if_pos h2, if_pos h2]
    refine wpAny_bind (wpAny_pure ?_)
    rw [StateT.run_pure]
    refine wpAny_bind (wpAny_pure (key_tail (st := SortSt.mk' general' (keys.zip vs.toArray) #[] 7 none) hk1 ha1 ne hi hl hz (Array.Perm.refl _) (fun i j hij hj => ?_) rfl h))
    have hj' : j < (keys.zip vs.toArray).size := hj
    rw [List.size_toArray] at h2
    obtain rfl : i = j := by omega
    exact Int.le_refl _
  · rw [if_neg h2, if_neg h2]
    rw [List.size_toArray] at h2
    rw [ksk_kind hi (by omega)]
    refine wpAny_bind (wpAny_pure (wpAny_bind (wpAny_mono (wpS_sortRunsAny (κ := intKind) (a₀ := keys.zip vs.toArray) (st := SortSt.mk' oneType' (keys.zip vs.toArray) #[] 7 none)
      (Q := fun _ z => (arrOf z).Perm (keys.zip vs.toArray) ∧ failedOf z = none ∧ SortedTo (arrOf z) (keys.zip vs.toArray).size) intKind_oneLt (ksk_keysOfInt (ksk_intKeys hi)) ⟨Array.Perm.refl _, rfl, rfl⟩ rfl (by rw [zz]; omega)
      fun z b1 b2 b3 => ⟨b1, b2, sortedTo_of_int b3⟩) ?_ fun _ _ x => x)))
    rintro ⟨⟨⟩, z⟩ s' ⟨rfl, b1, b2, b3⟩
    exact key_tail hk1 ha1 ne hi hl hz b1 (by rw [b1.size_eq]; exact b3) b2 h
end
section
variable {X : Cx} {B : Bs} {pins : List (Addr × Obj)} {F H : Hp} {σ : L2.St} {ρ : PEnv} {m : Mem} {s : Shared} {a kS : Addr} {e1 : Nat} {us : List Value} {kz : List Int} {f : Value} {R : PySem.Fin → Shared → Prop} {E : Value → Shared → Prop}
theorem key_rest (hl : kz.length = us.length) (hz : us.length ≤ 1000000) (turn : ∀ (i : Nat) (u : Value) (k : Int), us[i]? = some u → kz[i]? = some k → KeyTurn X B σ ρ m s H F f u k) {s0 : Shared} {H0 F0 : Hp} (j0 : SJ X B σ ρ m s H F s0 H0 F0) (ns : s.heap.get? kS = none) (ne : kS ≠ a)
    (oa : Own1 X s0 H0 (a, seqObj "list" #[] e1)) (ok : Own1 X s0 H0 (kS, seqObj "list" #[] 0))
    (h : ∀ s1 H1 F1 keys e, SJ X B σ ρ m s H F s1 H1 F1 → Own1 X s1 H1 (a, seqObj "list" #[] e1) → Own1 X s1 H1 (kS, seqObj "list" keys e) → IntsAre keys.toList kz → wpAny (model X.prog X.w) X.A.in1.in1 (ksk_end a false us.toArray e1 (.ref kS) keys) R E s1) :
    wpAny (model X.prog X.w) X.A.in1.in1 (ksk_rest a f false us.toArray e1 (.ref kS)) R E s0 := by
  have zl : (1000000 : Nat) ≤ sizeLine := by decide
  unfold ksk_rest
  refine wpAny_bind (wpAny_rule ?_)
  rw [List.forIn_toArray]
  refine wpAny_bind (ksk_fold (fun i s1 => ∃ H1 F1 keys e, SJ X B σ ρ m s H F s1 H1 F1 ∧ Own1 X s1 H1 (a, seqObj "list" #[] e1) ∧ Own1 X s1 H1 (kS, seqObj "list" keys e) ∧ IntsAre keys.toList (kz.take i)) us 0 s0 ⟨H0, F0, #[], 0, j0, oa, ok, by simpa using IntsAre.nil⟩ ?_ ?_)
  · rintro i u s1 hu ⟨H1, F1, keys, e, j1, oa1, ok1, hi⟩
    rw [Nat.zero_add] at hi ⊢
    have hlt := (List.getElem?_eq_some_iff.mp hu).1
    have hk : kz[i]? = some kz[i] := List.getElem?_eq_getElem (by omega)
    have zk : keys.size ≤ us.length := by
      have := hi.length
      rw [Array.length_toList, List.length_take] at this
      omega
    refine wpAny_bind (wpAny_attempt (wpAny_mono (turn i u _ hu hk s1 H1 F1 j1) (fun r s2 q => ?_) fun _ _ z => z.elim))
    obtain ⟨t, H2, F2, rfl, j2, keep⟩ := q
    have oa2 := keep _ oa1
    obtain ⟨k1, k2, k3⟩ := keep _ ok1
    have kp : ∀ b o, b ≠ kS → s2.heap.get? b = some o → (s2.heap.update kS (Obj.mapSeq (·.push (Value.int kz[i] t)))).get? b = some o := fun b o nb z => (Heap.get?_update_ne _ _ _ _ nb).trans z
    have new := get?_update_seq k1 (·.push (Value.int kz[i] t))
    obtain ⟨j21, j22, j23, j24, j25, j26⟩ := j2
    refine wpAny_bind (listUpdate_at k1 rfl (wpAny_pure ⟨rfl, H2, F2, keys.push (.int kz[i] t), (if ((keys.push (Value.int kz[i] t)).size == keys.size) = true then e else e + 1), ⟨j21, j22, un_upd j23 ns kp ⟨_, new⟩, hok_upd j24 k2 kp, j25, j26⟩, ⟨kp _ _ ne.symm oa2.1, oa2.2⟩, ⟨new, k2, k3⟩, ?_⟩) (by omega) (by
      rw [Array.size_push]; omega))
    rw [List.take_add_one, hk, Array.toList_push]
    exact ksk_snoc hi
  · rintro s1 ⟨H1, F1, keys, e, j1, oa1, ok1, hi⟩
    rw [Nat.zero_add, ← hl, List.take_length] at hi
    exact wpAny_bind (listItems_at ok1.1 rfl (h s1 H1 F1 keys e j1 oa1 ok1 hi))
end

section
variable {X : Cx} {B : Bs} {pins : List (Addr × Obj)} {F H : Hp} {σ : L2.St} {ρ : PEnv} {m : Mem} {s : Shared} {us : List Value} {kz : List Int} {f l : Addr} {Q : Value → Shared → Prop} {E : Value → Shared → Prop}
theorem own_new (I : Inv X pins σ H s) {g : Heap} {p : Addr × Obj} (hp : s.heap.objs.size ≤ p.1) (hg : g.get? p.1 = some p.2) : Own1 X { s with heap := g } H p := by
  refine ⟨hg, I.hok.fresh hp, fun z => ?_⟩
  rcases List.mem_cons.mp (I.stkSub _ z) with e | e
  · have h1 := I.lt
    rw [← e] at h1
    exact Nat.lt_irrefl _ (Nat.lt_of_lt_of_le h1 hp)
  · exact I.nofs hp e
theorem key_sorted (I : Inv X pins σ H s) (st : PSt X.w X.K B F σ H ρ m) (hl : s.heap.IsList l us.toArray) (hk : kz.length = us.length) (hz : us.length ≤ 1000000)
    (turn : ∀ (i : Nat) (u : Value) (k : Int), us[i]? = some u → kz[i]? = some k → KeyTurn X B σ ρ m s H F (.ref f) u k)
    (h : ∀ (a : Addr) (out : Array Value) (c : Nat) (s2 : Shared) (H2 F2 : Hp), SJ X B σ ρ m s H F s2 H2 F2 → Own1 X s2 H2 (a, seqObj "list" out c) → s.heap.get? a = none → out.size = us.length → KskOut false kz us out.toList → Q (.ref a) s2) :
    wpAny (model X.prog X.w) X.A (call (.builtin "sorted") [.ref l] [(Str.ofString "key", .ref f)]) Q E s := by
  have zl : (1000000 : Nat) ≤ sizeLine := by decide
  refine call_function_entry_kw kind_sorted plain_sorted entry_sorted (ksk_s1 _ _) ?_
  unfold Builtin.«sorted»
  refine wpAny_bind (m := checkCount "sorted" 1 1 _) (wpAny_pure (wpAny_bind (collect_list hl (wpAny_bind (wpAny_newList ?_ (by omega))) (by omega))))
  generalize e0 : (s.heap.push (seqObj "list" #[] 0)).update s.heap.objs.size (Obj.mapSeq (· ++ us.toArray)) = g0
  have z0 : g0.objs.size = s.heap.objs.size + 1 := by rw [← e0, Heap.size_update, Heap.size_push]
  have k0 : ∀ b o, s.heap.get? b = some o → g0.get? b = some o := fun b o q => by
    rw [← e0]
    exact (Heap.get?_update_ne _ _ _ _ (Nat.ne_of_lt (Heap.lt_size q))).trans (Heap.get?_push_of_some _ q)
  have eo : (g0.push (seqObj "list" us.toArray 0)).get? g0.objs.size = some (seqObj "list" us.toArray 0) := Heap.get?_push_size _ rfl
  show wpAny _ _ _ _ _ { s with heap := g0.push (seqObj "list" us.toArray 0) }
  refine wpAny_bind (wpAny_holding (wpAny_call_entry_kw slot_list_sort ⟨_, eo, rfl⟩ entry_list_sort ?_ (ksk_l1 _ _)))
  rw [ksk_t1]
  unfold ksk_tree
  obtain ⟨a, ea⟩ : ∃ a, g0.objs.size = a := ⟨_, rfl⟩
  rw [ea] at eo ⊢
  obtain ⟨e1, eu⟩ : ∃ e1, ((g0.push (seqObj "list" us.toArray 0)).update a (Obj.mapSeq fun _ => (#[] : Array Value))).get? a = some (seqObj "list" #[] e1) := ⟨_, get?_update_seq eo fun _ => #[]⟩
  refine wpAny_bind (listItems_at eo rfl (wpAny_bind (listUpdate_at eo rfl (wpAny_bind (seqEpoch_at eu rfl (wpAny_bind (wpAny_newTuple (wpAny_bind (wpAny_newList (wpAny_holding ?_) (Nat.zero_le _))) (by
    show us.length ≤ _; omega))))) (by rw [List.size_toArray]; omega) (Nat.zero_le _))))
  generalize e2 : ((g0.push (seqObj "list" us.toArray 0)).update a (Obj.mapSeq fun _ => (#[] : Array Value))).push (seqObj "tuple" us.toArray 0) = g2
  have z2 : g2.objs.size = s.heap.objs.size + 3 := by rw [← e2, Heap.size_push, Heap.size_update, Heap.size_push, z0]
  have k2 : ∀ b o, s.heap.get? b = some o → (g2.push (seqObj "list" #[] 0)).get? b = some o := fun b o q => by
    have nb : b ≠ a := Nat.ne_of_lt (by rw [← ea, z0]; exact Nat.lt_succ_of_lt (Heap.lt_size q))
    refine Heap.get?_push_of_some _ ?_
    rw [← e2]
    exact Heap.get?_push_of_some _ ((Heap.get?_update_ne _ _ _ _ nb).trans (Heap.get?_push_of_some _ (k0 b o q)))
  have ka : (g2.push (seqObj "list" #[] 0)).get? a = some (seqObj "list" #[] e1) := Heap.get?_push_of_some _ (by rw [← e2]; exact Heap.get?_push_of_some _ eu)
  have nS : s.heap.get? g2.objs.size = none := by
    cases q : s.heap.get? g2.objs.size with
    | none => rfl
    | some o => exact absurd (Heap.lt_size q) (Nat.not_lt.mpr (by rw [z2]; exact Nat.le_add_right _ _))
  have nA : s.heap.get? a = none := by
    cases q : s.heap.get? a with
    | none => rfl
    | some o => exact absurd (Heap.lt_size q) (Nat.not_lt.mpr (by rw [← ea, z0]; exact Nat.le_add_right _ _))
  have ne : g2.objs.size ≠ a := by rw [z2, ← ea, z0]; exact Nat.ne_of_gt (Nat.add_lt_add_left (by decide) _)
  show wpAny (model X.prog X.w) X.A.in1.in1 (ksk_rest a (.ref f) false us.toArray e1 (.ref g2.objs.size)) _ _ { s with heap := g2.push (seqObj "list" #[] 0) }
  have j0 : SJ X B σ ρ m s H F { s with heap := g2.push (seqObj "list" #[] 0) } H F := ⟨rfl, I.bare, Un.kept k2, I.hok.kept k2, st, Ext.refl _ _ _⟩
  refine key_rest hk hz turn j0 nS ne (own_new I (p := (a, _)) (by show _ ≤ a; rw [← ea, z0]; exact Nat.le_add_right _ _) ka) (own_new I (p := (g2.objs.size, _)) (by show _ ≤ g2.objs.size; rw [z2]; exact Nat.le_add_right _ _) (Heap.get?_push_size _ rfl)) fun s1 H1 F1 keys e j1 oa ok hi => ?_
  refine key_end ok.1 oa.1 ne hi hk hz fun out ho hko => ⟨_, rfl, wpAny_pure ⟨_, rfl, ?_⟩⟩
  have kp1 : ∀ b o, b ≠ g2.objs.size → s1.heap.get? b = some o → (s1.heap.update g2.objs.size (Obj.mapSeq fun _ => (#[] : Array Value))).get? b = some o := fun b o nb q => (Heap.get?_update_ne _ _ _ _ nb).trans q
  have ha1 := kp1 _ _ ne.symm oa.1
  have kp2 : ∀ b o, b ≠ a → (s1.heap.update g2.objs.size (Obj.mapSeq fun _ => (#[] : Array Value))).get? b = some o → ((s1.heap.update g2.objs.size (Obj.mapSeq fun _ => (#[] : Array Value))).update a (Obj.mapSeq fun _ => out)).get? b = some o := fun b o nb q => (Heap.get?_update_ne _ _ _ _ nb).trans q
  obtain ⟨j1, j2, j3, j4, j5, j6⟩ := j1
  have n1 := get?_update_seq ok.1 fun _ => (#[] : Array Value)
  have n2 := get?_update_seq ha1 fun _ => out
  exact h a out _ _ H1 F1 ⟨j1, j2, un_upd (un_upd j3 nS kp1 ⟨_, n1⟩) nA kp2 ⟨_, n2⟩, hok_upd (hok_upd j4 ok.2.1 kp1) oa.2.1 kp2, j5, j6⟩ ⟨n2, oa.2⟩ nA ho hko
end

/-! ### sorted(e, key=lambda x: body) -/
theorem cxF' {P : Program} {w : World} {outer : List Env} {H : Hp} {s : Shared} {e : Value} {s' : Shared} (h : L2N.CX P w outer H s (fun _ _ _ => False) e s') : False := by
  obtain ⟨_, _, _, _, _, q⟩ := h
  exact q.2.2.2.2.2.2.2.elim
theorem out_row {g : Option Int → Int} {l : Row} {us out : List Value} (hv : Vals (l.map oV) us) (h : KskOut false (l.map g) us out) :
    (out.map bkV).Perm l ∧ (out.map bkV).Pairwise (fun a b => g a ≤ g b) ∧ Vals ((out.map bkV).map oV) out := by
  obtain ⟨ps, hp, rfl, ho⟩ := h
  have el := bks_oV hv
  have len := hv.length
  rw [List.length_map] at len
  have ez : (l.map g).zip us = us.map fun u => (g (bkV u), u) := by
    rw [← el, List.map_map]
    clear hp ho el len hv
    induction us with
    | nil => rfl
    | cons u us ih => rw [List.map_cons, List.zip_cons_cons, ih]; rfl
  rw [ez] at hp
  have hmem : ∀ p ∈ ps, p.1 = g (bkV p.2) ∧ p.2 ∈ us := fun p hm => by
    obtain ⟨u, hu, rfl⟩ := List.mem_map.mp (hp.mem_iff.mp hm)
    exact ⟨rfl, hu⟩
  refine ⟨?_, ?_, ?_⟩
  · have h1 := (hp.map Prod.snd).map bkV
    rw [List.map_map (l := us), show (Prod.snd ∘ fun u => (g (bkV u), u)) = (id : Value → Value) from rfl, List.map_id] at h1
    rw [← el]
    exact h1
  · rw [List.pairwise_map, List.pairwise_map]
    refine ho.imp_of_mem fun {p q} m1 m2 hr => ?_
    rw [if_neg Bool.false_ne_true, (hmem p m1).1, (hmem q m2).1] at hr
    exact hr
  · exact vals_bk fun u hu => by
      obtain ⟨p, hp', rfl⟩ := List.mem_map.mp hu
      exact oV_bk hv _ (hmem p hp').2
@[simp] def wSortK (x : Str) (te tk : DE) : DE := fun ρ m Q R => te ρ m (fun q m1 => ∃ (l : Row) (g : Option Int → Int), q = .lst (l.map oP) ∧ l.length ≤ 1000000 ∧ (∀ y ∈ l, tk (startP [x] [oP y]) m1 (fun r m' => m' = m1 ∧ r = .int (g y)) xBot) ∧
  ∀ l' : Row, l'.Perm l → l'.Pairwise (fun a b => g a ≤ g b) → Q (.lst (l'.map oP)) m1) R
theorem je_sortK {X : Cx} {B : Bs} {x : Str} {k : Nat} {c P0 : Addr} {params : Arguments} {body e : PySem.Expr} {scope : Scope} {te tk : DE} {p lpos kpos pos : Pos} (hP : B.P = X.prog) (hm : X.mg "sorted" = none) (TB : LamX.TabB X.base X.mg c P0) (hcode : X.env.code = .ref c)
    (hmT : (P0, X.env.qual ++ "<lambda>") ∈ B.T) (hu : ∀ q ∈ B.T, q.1 = P0 → q.2 = X.env.qual ++ "<lambda>") (hr : Room (k + 2) X.A) (Sc : FnScope [x] [x] scope) (hdef : defaultsOf params X.env = ([], []))
    (hbind : ∀ (q : Str) (pm cv ctv u : Value), bindArgs (PySem.W.kla_fn "<lambda>" q params body scope [] pm cv ctv) ⟨[u], []⟩ = pure [(x, u)]) (he : JE X B e te)
    (hbody : ∀ (A : Around) (outer : List Env) (s : Shared) (H F0 : Hp) (m0 : Mem) (f : Addr) (cdv : Value), Room k (A.deeper (envOfC (X.env.qual ++ "<lambda>") scope s.heap.objs.size f cdv)) → JE (cxOf (L2N.CX X.prog X.w) X.prog X.w X.K X.mg X.base [x] (X.env.qual ++ "<lambda>") scope f cdv A outer s H fun _ _ _ => False) ⟨X.prog, F0, H, m0, B.T⟩ body tk)
    (hg : Gl X "sorted" := by rfl) (hst : backTo pos (starEach [e] X.env) = (false, eval e X.env) :: backTo pos (starEach [] X.env) := by rfl) :
    JE X B (.Call (.Name "sorted" p) [e] [⟨some "key", .Lambda params body scope lpos, kpos⟩] pos) (wSortK x te tk) := by
  refine ⟨fun R tkR pins s σ F H ρ m Q I st h => ?_⟩
  refine wpAny_Call_Name_kw (ld_blt (u := .builtin "sorted") I hg hm (by decide +kernel) ?_ (by decide) (by decide))
  refine PyProof.Rows.callWith_kw ?_ hst (by rw [hst]; rfl) (by rfl) (by rfl)
  rw [hst]
  refine Calls.spliced_cons (thn (he.run R tkR pins s σ F H ρ m _ I st h) fun u s1 ⟨v, q, F1, H1, m1, I1, st1, ex1, r1, rp1, hq⟩ => Calls.spliced_nil ?_)
  obtain ⟨l, g, rfl, hz, hkey, hfin⟩ := hq
  show wpAny _ _ (evalAll ((do let v ← eval (.Lambda params body scope lpos) X.env; standAt pos; pure v) :: [])) _ _ s1
  refine wpAny_evalAll_cons (wpAny_bind (LamX.lam_make2 I1 TB hcode hmT hu st1.tab hdef (fun y hy e => absurd e (Sc.nofree y hy)) fun f c' pm' ctv H2 s2 I2 eN T2 hf hfn hfr hco => wpAny_bind (wpAny_standAt (wpAny_pure (wpAny_evalAll_nil ?_)))))
  rw [cloFrom_nil Sc.nofree] at hf
  have st2 : PSt X.w X.K B F1 σ H2 ρ m1 := st1.grown eN T2
  have exA : Ext F1 H1 m1 F1 H2 m1 := ⟨Same.refl F1, fun a u e n _ => eN a u e n, fun _ _ _ _ z => z, fun _ _ _ _ z => z, fun a u e n => ⟨u, eN a u e n, n⟩⟩
  have hmc : m1 c' = none := by
    cases q : m1 c' with
    | none => rfl
    | some o =>
      obtain ⟨_, z⟩ := st2.mem c' o q
      cases o with
      | dice => obtain ⟨i, j, z⟩ := z; rw [hco] at z; unfold LamX.CodeO at z; cases z
      | lst xs => obtain ⟨vs, z, _⟩ := z; rw [hco] at z; unfold LamX.CodeO at z; cases z
      | ins C fs => obtain ⟨dx, fv, z, _⟩ := z; rw [hco] at z; unfold LamX.CodeO at z; cases z
  have zl : (1000000 : Nat) ≤ sizeLine := by decide
  cases rp1 with
  | @lst ad vs _ hF ra =>
  obtain rfl : u = Value.ref ad := r1
  obtain rfl := reps_oV ra
  obtain ⟨its, rv, hil, hzz⟩ := I2.list (SqL.of (st2.sub _ _ hF))
  have hlen := rv.length
  rw [List.length_map] at hlen
  show wpAny (model X.prog X.w) X.A (call (.builtin "sorted") [.ref ad] [(Str.ofString "key", .ref f)]) _ _ s2
  refine key_sorted (kz := l.map g) I2 st2 hil.isList (by rw [List.length_map]; exact hlen) (by omega) (fun i w' k' hw hk' s3 H3 F3 j3 => ?_) fun a out cc s3 H3 F3 j3 own nA ho hko => ?_
  · have I3 := j3.inv I2
    obtain ⟨j1, j2, un, hok, st3, ex3⟩ := id j3
    have hf3 := un.keep f _ hf hfn hfr (by simp)
    have hc3 := ex3.kp c' _ hco (fun ps z => by unfold LamX.CodeO at z; cases z) hmc
    have e0 := I3.env0
    obtain ⟨y, hy, ey⟩ : ∃ y, l[i]? = some y ∧ k' = g y := by
      rw [List.getElem?_map] at hk'
      cases q : l[i]? with
      | none => rw [q] at hk'; cases hk'
      | some y => rw [q] at hk'; exact ⟨y, rfl, (Option.some.inj hk').symm⟩
    subst ey
    have ry : RelV (oV y) w' := by
      have hb := bks_oV rv
      have h1 := oV_bk rv w' (List.mem_of_getElem? hw)
      have h2 : (its.map bkV)[i]? = some (bkV w') := by rw [List.getElem?_map, hw]; rfl
      rw [hb, hy] at h2
      rw [Option.some.inj h2]
      exact h1
    have rpy : RepAll X.K F3 [oV y] [oP y] := oV_rep [y]
    have rc := lam1_run (P := X.prog) (w := X.w) (K := X.K) (mg := X.mg) (base := X.base) (T := B.T) (k := k) (t := tk) (A := X.A.in1.in1) (outer := X.stack) (ps := [x]) (qs := [oP y]) (Qp := fun r m' => m' = m1 ∧ r = .int (g y)) Sc hf3 hc3
      ⟨hr.hd, by have := hr.dp; show X.A.depth + 3 * (k + 1) + 5 < _; omega, by have := hr.un; show X.A.units + 1 + 1 + 16 * (k + 1) + 200 < _; omega⟩
      ⟨e0.frames, e0.mod, e0.bs, e0.bsz, e0.funs, e0.frf, e0.hok, e0.bare⟩ (hbind _ _ _ _ w') (.cons ry .nil) rfl st3.sub st3.nt st3.mem st3.tab rpy (fun hr' => hbody _ _ _ _ _ _ _ _ hr') (hkey y (List.mem_of_getElem? hy))
    refine wpAny_call (codeAny_mono rc fun r s4 hq => ?_)
    cases r with
    | error er => exact (cxF' hq).elim
    | ok fl =>
      cases fl with
      | ret u =>
        obtain ⟨v4, H4, os4, bare4, un4, hok4, rv4, p4, F4, m4, g4, rp4, em, ep⟩ := hq
        subst em ep
        cases rp4
        obtain ⟨t, rfl⟩ := (show ∃ t, u = Value.int (g y) t from rv4)
        have g4' : GSt X.w X.K ⟨B.P, F3, H3, m4, B.T⟩ F4 H4 m4 := by rw [hP]; exact g4
        exact ⟨t, H4, F4, rfl, ⟨os4.trans j1, bare4, un.trans un4, hok4, GSt.pst st3 g4', ex3.trans g4.ext⟩, fun q hq => ⟨un4.keep _ _ hq.1 hq.2.1 hq.2.2 (by simp), un4.free _ _ hq.1 hq.2.1 (by simp), hq.2.2⟩⟩
      | next => exact False.elim hq
      | brk => exact False.elim hq
      | cont => exact False.elim hq
  · obtain ⟨j1, j2, un, hok, st3, ex3⟩ := j3
    obtain ⟨o1, o2, o3⟩ := out_row rv hko
    obtain ⟨w1, w2, w3⟩ := own
    have nb : ∀ b o, H3 b = some o → b ≠ a := fun b o e z => by rw [z, w2] at e; cases e
    have un' : Un (frs X.stack) [] H2 (L2.upd H3 a (.lst ((out.toList.map bkV).map oV))) s2.heap s3.heap := by
      refine ⟨un.keep, un.slot, fun b o e n x => ?_, un.there, fun b xs e => ?_, fun b o u e => ?_, fun b ps e => ?_⟩
      · rw [upd_ne (fun z => by rw [z, nA] at e; cases e)]
        exact un.free b o e n x
      · have := un.tups b xs e; rw [upd_ne (nb b _ this)]; exact this
      · have := un.frzs b o u e; rw [upd_ne (nb b _ this)]; exact this
      · obtain ⟨more, this⟩ := un.tbls b ps e
        exact ⟨more, by rw [upd_ne (nb b _ this)]; exact this⟩
    have new : ObjOk X.prog X.w (L2.upd H3 a (.lst ((out.toList.map bkV).map oV))) s3.heap a (.lst ((out.toList.map bkV).map oV)) :=
      ⟨by rw [List.length_map, List.length_map, Array.length_toList, ho]; omega, out.toList, cc, o3, by rw [Array.toArray_toList]; exact w1⟩
    have I4 : Inv X pins σ (L2.upd H3 a (.lst ((out.toList.map bkV).map oV))) s3 := I2.call' j1 un' (hok_new hok w2 new) j2 fun b z => absurd z (by simp)
    obtain ⟨st4, ex4⟩ := st3.new (o := .lst ((out.toList.map bkV).map oV)) w2 lst_nt
    exact ⟨.ref a, .lst ((out.toList.map bkV).map oP), _, _, m1, I4, st4, (ex1.trans exA).trans (ex3.trans ex4), rfl, .lst upd_same (oV_rep _), hfin _ o1 o2⟩
end PL


/-! PMg: the law's own values and levels. Plain. -/
namespace PL
open PySem PySem.Spec PyProof.Rows L2
/-- 0, 1, 2 for false, unknown, true -/
def lvl : Option Bool → Int
  | none => 1
  | some true => 2
  | some false => 0
theorem lvl_inj {a b : Option Bool} (h : lvl a = lvl b) : a = b := by
  rcases a with _ | _ | _ <;> rcases b with _ | _ | _ <;> first | rfl | (exact absurd h (by decide))
theorem lvl_neg (a : Option Bool) : lvl (neg3 a) = 2 - lvl a := by rcases a with _ | _ | _ <;> rfl
theorem lvl_le (a : Option Bool) : 0 ≤ lvl a ∧ lvl a ≤ 2 := by rcases a with _ | _ | _ <;> decide
theorem lvl_or {l : List (Option Bool)} {k : Int} (h1 : k ∈ l.map lvl ++ [0]) (h2 : ∀ y ∈ l.map lvl ++ [0], y ≤ k) : k = lvl (orL l) := by
  unfold orL
  by_cases ht : some true ∈ l
  · rw [if_pos ht]
    have := h2 2 (List.mem_append_left _ (List.mem_map.mpr ⟨_, ht, rfl⟩))
    rcases List.mem_append.mp h1 with h | h
    · obtain ⟨x, _, rfl⟩ := List.mem_map.mp h
      have := (lvl_le x).2
      show _ = (2 : Int); omega
    · rw [List.mem_singleton.mp h] at this; omega
  · rw [if_neg ht]
    have np : ∀ x ∈ l, x ≠ some true := fun x hx z => ht (z ▸ hx)
    by_cases hn : none ∈ l
    · rw [if_pos hn]
      have := h2 1 (List.mem_append_left _ (List.mem_map.mpr ⟨_, hn, rfl⟩))
      rcases List.mem_append.mp h1 with h | h
      · obtain ⟨x, hx, rfl⟩ := List.mem_map.mp h
        have := np x hx
        rcases x with _ | _ | _
        · rfl
        · exact absurd this (by simp [lvl] at *)
        · exact absurd rfl this
      · rw [List.mem_singleton.mp h] at this; omega
    · rw [if_neg hn]
      rcases List.mem_append.mp h1 with h | h
      · obtain ⟨x, hx, rfl⟩ := List.mem_map.mp h
        have := np x hx
        rcases x with _ | _ | _
        · exact absurd hx hn
        · rfl
        · exact absurd rfl this
      · exact List.mem_singleton.mp h
theorem lvl_and {l : List (Option Bool)} {k : Int} (h1 : k ∈ l.map lvl ++ [2]) (h2 : ∀ y ∈ l.map lvl ++ [2], k ≤ y) : k = lvl (andL l) := by
  have e : ∀ x : Option Bool, lvl x = 2 - lvl (neg3 x) := fun x => by rw [lvl_neg]; omega
  have hk : 2 - k = lvl (orL (l.map neg3)) := by
    refine lvl_or ?_ fun y hy => ?_
    · rcases List.mem_append.mp h1 with h | h
      · obtain ⟨x, hx, rfl⟩ := List.mem_map.mp h
        exact List.mem_append_left _ (List.mem_map.mpr ⟨neg3 x, List.mem_map.mpr ⟨x, hx, rfl⟩, lvl_neg x⟩)
      · rw [List.mem_singleton.mp h]; exact List.mem_append_right _ (List.mem_singleton.mpr rfl)
    · rcases List.mem_append.mp hy with h | h
      · obtain ⟨z, hz, rfl⟩ := List.mem_map.mp h
        obtain ⟨x, hx, rfl⟩ := List.mem_map.mp hz
        have := h2 (lvl x) (List.mem_append_left _ (List.mem_map.mpr ⟨x, hx, rfl⟩))
        rw [lvl_neg]; omega
      · have := h2 2 (List.mem_append_right _ (List.mem_singleton.mpr rfl))
        rw [List.mem_singleton.mp h]; omega
  unfold andL
  rw [lvl_neg]; omega
/-! ### dicts of None and ints as keys -/
def oKy : Option Int → Option Key
  | none => none
  | some i => some (.inl i)
theorem oKy_inj {a b : Option Int} (h : oKy a = oKy b) : a = b := by cases a <;> cases b <;> simp_all [oKy]
theorem pvK_oP (x : Option Int) : pvK (oP x) = some (oKy x) := by cases x <;> rfl
theorem kPV_oKy (x : Option Int) : kPV (oKy x) = oP x := by cases x <;> rfl
def entO (x : Option Int) : Option Key × PV := (oKy x, .bl true)
theorem pput_O (acc : Row) (x : Option Int) : pput (acc.map entO) (oKy x) (.bl true) = (addO acc x).map entO := by
  have e : ((acc.map entO).any fun kv => decide (kv.1 = oKy x)) = decide (x ∈ acc) := by
    rw [List.any_map]
    induction acc with
    | nil => rfl
    | cons a acc ih =>
      rw [List.any_cons, ih]
      by_cases h : a = x
      · simp [entO, h]
      · have h2 : ¬ oKy a = oKy x := fun z => h (oKy_inj z)
        have h3 : ¬ x = a := fun z => h z.symm
        simp [entO, h2, h3]
  unfold pput addO
  rw [e]
  by_cases h : x ∈ acc
  · simp only [h, decide_true, if_true]
    rw [List.map_map]
    apply List.map_congr_left
    intro y _
    by_cases h2 : oKy y = oKy x <;> simp [entO, h2]
  · simp [h, entO]
theorem keysO (l : Row) : (l.map entO).map (fun kv => kPV kv.1) = l.map oP := by
  rw [List.map_map]
  exact List.map_congr_left fun x _ => kPV_oKy x
/-! ### the law's values -/
def lawSeq (I : List Int) : Row := none :: some 1000000000 :: some (-999999999) :: (I ++ [0]).flatMap fun i => (List.range 7).map fun (k : Nat) => some (i + (-3 + (k : Int)))
def lawVals (I : List Int) : Row := srtO (lawSeq I)
theorem mem_lawVals {I : List Int} {x : Option Int} : x ∈ lawVals I ↔ x = none ∨ x = some 1000000000 ∨ x = some (-999999999) ∨ ∃ i, (i ∈ I ∨ i = 0) ∧ ∃ v, x = some v ∧ i - 3 ≤ v ∧ v ≤ i + 3 := by
  unfold lawVals
  rw [mem_srtO, lawSeq, List.mem_cons, List.mem_cons, List.mem_cons, List.mem_flatMap]
  constructor
  · rintro (h | h | h | ⟨i, hi, hx⟩)
    · exact .inl h
    · exact .inr (.inl h)
    · exact .inr (.inr (.inl h))
    · obtain ⟨k, hk, rfl⟩ := List.mem_map.mp hx
      have := List.mem_range.mp hk
      exact .inr (.inr (.inr ⟨i, by simpa using hi, _, rfl, by omega, by omega⟩))
  · rintro (h | h | h | ⟨i, hi, v, rfl, h1, h2⟩)
    · exact .inl h
    · exact .inr (.inl h)
    · exact .inr (.inr (.inl h))
    · refine .inr (.inr (.inr ⟨i, by simpa using hi, List.mem_map.mpr ⟨(v - i + 3).toNat, List.mem_range.mpr (by omega), ?_⟩⟩))
      congr 1
      omega
theorem lawVals_len {I : List Int} (h : I.length = 3) : (lawVals I).length ≤ 31 := by
  refine Nat.le_trans (srtO_len _) ?_
  simp only [lawSeq, List.length_cons]
  have : ((I ++ [0]).flatMap fun i => (List.range 7).map fun (k : Nat) => some (i + (-3 + (k : Int)))).length = 28 := by
    match I, h with
    | [a, b, c], _ => rfl
  omega
theorem lawVals_pos (I : List Int) : 0 < (lawVals I).length := List.length_pos_of_mem (mem_lawVals.mpr (.inl rfl))
theorem srtO_of {l l' : Row} (h1 : l'.Perm (dedO l)) (h2 : l'.Pairwise (fun a b => (okey a : Int) ≤ (okey b : Int))) : l' = srtO l :=
  sortK_uniq (h1.trans (sortK_perm _).symm) (h2.imp fun h => by omega) (sortK_sorted _)
end PL
namespace PL
open PySem PySem.Spec PyProof.Rows L2
theorem addO_le (acc : Row) (x : Option Int) : (addO acc x).length ≤ acc.length + 1 := by
  unfold addO; split <;> simp
theorem addOs_le : ∀ (l acc : Row), (l.foldl addO acc).length ≤ acc.length + l.length
  | [], acc => Nat.le_refl _
  | x :: l, acc => by
    have h1 := addOs_le l (addO acc x)
    have h2 := addO_le acc x
    simp only [List.foldl_cons, List.length_cons]; omega
/-- a loop that puts keys into a dict of True: mk the slots by what is in it and the loop's name -/
theorem forW_fill {g : DG} {tb : DS} {D : PEnds} {m : Mem} (mk : Row → Option SV → PEnv) (f : PV → Option Int) (B : Nat) : ∀ (ps : List PV) (acc : Row) (v : Option SV),
    (∀ x ∈ ps, ∀ (acc : Row) (v : Option SV) (N : PEnv → Mem → Prop), acc.length < B → N (mk (addO acc (f x)) (some (.val x))) m → g x (mk acc v) fun ρ1 => tb ρ1 m { D with nx := N, ct := N, bk := D.nx }) →
    acc.length + ps.length ≤ B → (∀ v, D.nx (mk ((ps.map f).foldl addO acc) v) m) → forW g tb ps (mk acc v) m D
  | [], acc, v, _, _, h => h v
  | x :: xs, acc, v, hs, e, h => by
    simp only [List.length_cons] at e
    refine hs x List.mem_cons_self acc v _ (by omega) ?_
    exact forW_fill mk f B xs _ _ (fun y hy => hs y (List.mem_cons_of_mem _ hy)) (by have := addO_le acc (f x); omega) h
/-- .. within a loop -/
theorem forW_fill2 {g : DG} {tb : DS} {D : PEnds} {m : Mem} (mk : Row → Option SV → Option SV → PEnv) (f : PV → Row) (B K : Nat) (hf : ∀ x, (f x).length ≤ K) : ∀ (ps : List PV) (acc : Row) (v u : Option SV),
    (∀ x ∈ ps, ∀ (acc : Row) (v u : Option SV) (N : PEnv → Mem → Prop), acc.length + K ≤ B → (∀ u, N (mk ((f x).foldl addO acc) (some (.val x)) u) m) → g x (mk acc v u) fun ρ1 => tb ρ1 m { D with nx := N, ct := N, bk := D.nx }) →
    acc.length + K * ps.length ≤ B → (∀ v u, D.nx (mk ((ps.flatMap f).foldl addO acc) v u) m) → forW g tb ps (mk acc v u) m D
  | [], acc, v, u, _, _, h => h v u
  | x :: xs, acc, v, u, hs, e, h => by
    have e' : acc.length + (K * xs.length + K) ≤ B := by simpa [Nat.mul_add] using e
    refine hs x List.mem_cons_self acc v u _ (by omega) fun u' => ?_
    refine forW_fill2 mk f B K hf xs _ _ _ (fun y hy => hs y (List.mem_cons_of_mem _ hy)) (by have := addOs_le (f x) acc; have := hf x; omega) fun v u => ?_
    rw [← List.foldl_append, ← List.flatMap_cons]
    exact h v u
theorem ded_len' (l : Row) (x : Option Int) : (addO (dedO l) x).length ≤ l.length + 1 := by
  have := dedO_len (l ++ [x])
  simpa [dedO, List.foldl_append] using this
end PL


/-! PMh: predicates without not. Plain. -/
namespace PL
open PySem PySem.Spec PyProof.Rows L2
theorem neg3_neg3 (a : Option Bool) : neg3 (neg3 a) = a := by rcases a with _ | _ | _ <;> rfl
theorem neg3_orL (l : List (Option Bool)) : neg3 (orL l) = andL (l.map neg3) := by
  unfold andL
  rw [List.map_map, show neg3 ∘ neg3 = id from funext neg3_neg3, List.map_id]
theorem neg3_andL (l : List (Option Bool)) : neg3 (andL l) = orL (l.map neg3) := by unfold andL; exact neg3_neg3 _
theorem orL_snoc (l : List (Option Bool)) (x : Option Bool) : orL [orL l, x] = orL (l ++ [x]) := by
  unfold orL
  by_cases h1 : some true ∈ l <;> by_cases h2 : none ∈ l <;> rcases x with _ | _ | _ <;> simp [h1, h2]
theorem andL_snoc (l : List (Option Bool)) (x : Option Bool) : andL [andL l, x] = andL (l ++ [x]) := by
  unfold andL
  simp only [List.map_cons, List.map_nil, List.map_append, neg3_neg3, orL_snoc]
theorem orL_one (x : Option Bool) : orL [x] = x := by rcases x with _ | _ | _ <;> rfl
theorem andL_one (x : Option Bool) : andL [x] = x := by rcases x with _ | _ | _ <;> rfl
def flipP (o : Op4) (a b : Opd) : Pr := match o with
  | .eq => .cmp .ne a b
  | .ne => .cmp .eq a b
  | .lt => .cmp .le b a
  | .le => .cmp .lt b a
theorem neg3_cmp (o : Op4) (x y : Option Int) : neg3 (cmpO o x y) = (match o with | .eq => cmpO .ne x y | .ne => cmpO .eq x y | .lt => cmpO .le y x | .le => cmpO .lt y x) := by
  cases x with
  | none => cases o <;> (cases y <;> rfl)
  | some a =>
    cases y with
    | none => cases o <;> rfl
    | some b =>
      cases o with
      | eq => rfl
      | ne => simp only [cmpO, Op4.f, neg3, Bool.not_not]
      | lt =>
        simp only [cmpO, Op4.f, neg3]
        congr 1
        by_cases h : a < b
        · rw [decide_eq_true h, decide_eq_false (by omega)]; rfl
        · rw [decide_eq_false h, decide_eq_true (by omega)]; rfl
      | le =>
        simp only [cmpO, Op4.f, neg3]
        congr 1
        by_cases h : a ≤ b
        · rw [decide_eq_true h, decide_eq_false (by omega)]; rfl
        · rw [decide_eq_false h, decide_eq_true (by omega)]; rfl
theorem flip_ev (r : Row) (o : Op4) (a b : Opd) : (flipP o a b).ev r = neg3 (cmpO o (a.val r) (b.val r)) := by
  rw [neg3_cmp]; cases o <;> rfl
def joinP (or : Bool) : List Pr → Pr
  | [] => .cst none
  | p :: ps => ps.foldl (fun a b => .bin or a b) p
theorem fold_ev (r : Row) (or : Bool) : ∀ (ps : List Pr) (p : Pr) (l : List (Option Bool)), p.ev r = (if or then orL else andL) l → (ps.foldl (fun a b => .bin or a b) p).ev r = (if or then orL else andL) (l ++ ps.map (Pr.ev r))
  | [], p, l, h => by simpa using h
  | q :: ps, p, l, h => by
    rw [List.foldl_cons]
    rw [fold_ev r or ps (.bin or p q) (l ++ [q.ev r]) ?_]
    · simp
    · simp only [Pr.ev, h]
      cases or with
      | false => exact andL_snoc _ _
      | true => exact orL_snoc _ _
theorem join_ev (r : Row) (or : Bool) {ps : List Pr} (h : ps ≠ []) : (joinP or ps).ev r = (if or then orL else andL) (ps.map (Pr.ev r)) := by
  cases ps with
  | nil => exact absurd rfl h
  | cons p ps =>
    refine fold_ev r or ps p [p.ev r] ?_
    cases or with
    | false => exact (andL_one _).symm
    | true => exact (orL_one _).symm
def othersT (t : Option Bool) : List (Option Bool) := ([some true, some false, none] : List (Option Bool)).filter fun x => decide (x ≠ t)
def negL (al : Bool) (o : Op4) (a : Opd) (l : Row) : Pr := match o with
  | .eq => .qnt (!al) .ne a l
  | .ne => .qnt (!al) .eq a l
  | o => if l = [] then .cst (some (!al)) else joinP al (l.map fun v => flipP o a (.lit v))
theorem negQ (al : Bool) (l : List (Option Bool)) : neg3 ((if al then andL else orL) l) = (if (!al) then andL else orL) (l.map neg3) := by
  cases al with
  | false => exact neg3_orL l
  | true => exact neg3_andL l
theorem negL_ev (r : Row) (al : Bool) (o : Op4) (a : Opd) (l : Row) : (negL al o a l).ev r = neg3 ((Pr.qnt al o a l).ev r) := by
  have j : ∀ o : Op4, (if l = [] then Pr.cst (some (!al)) else joinP al (l.map fun v => flipP o a (.lit v))).ev r = neg3 ((Pr.qnt al o a l).ev r) := fun o => by
    simp only [Pr.ev, negQ]
    by_cases h : l = []
    · subst h
      cases al <;> rfl
    · rw [if_neg h, join_ev r al (by simpa using h), List.map_map, List.map_map]
      have e : (Pr.ev r ∘ fun v => flipP o a (.lit v)) = (neg3 ∘ cmpO o (a.val r)) := funext fun v => flip_ev r o a (.lit v)
      rw [e]
      cases al <;> rfl
  cases o with
  | eq =>
    simp only [negL, Pr.ev, negQ, List.map_map]
    rw [show neg3 ∘ cmpO .eq (a.val r) = cmpO .ne (a.val r) from funext fun y => neg3_cmp .eq _ y]
  | ne =>
    simp only [negL, Pr.ev, negQ, List.map_map]
    rw [show neg3 ∘ cmpO .ne (a.val r) = cmpO .eq (a.val r) from funext fun y => neg3_cmp .ne _ y]
  | lt => exact j .lt
  | le => exact j .le
/-- without not; b: negated -/
def nw : Pr → Bool → Pr
  | .cst t, b => .cst (if b then neg3 t else t)
  | .cmp o x y, b => if b then flipP o x y else .cmp o x y
  | .inn a l, b => if b then .qnt true .ne a l else .inn a l
  | .qnt al o a l, b => if b then negL al o a l else .qnt al o a l
  | .nul a, b => if b then .iss (some false) (.nul a) else .nul a
  | .nott p, b => nw p (!b)
  | .bin or p q, b => if b then .bin (!or) (nw p true) (nw q true) else .bin or (nw p false) (nw q false)
  | .iss t p, b => if b then joinP true ((othersT t).map fun t' => .iss t' (nw p false)) else .iss t (nw p false)
theorem nw_ev (r : Row) : ∀ (p : Pr) (b : Bool), (nw p b).ev r = if b then neg3 (p.ev r) else p.ev r
  | .cst t, b => by cases b <;> rfl
  | .cmp o x y, b => by
    cases b with
    | false => rfl
    | true => exact flip_ev r o x y
  | .inn a l, b => by
    cases b with
    | false => rfl
    | true =>
      simp only [nw, Pr.ev, if_true, neg3_orL, List.map_map]
      rw [show neg3 ∘ cmpO .eq (a.val r) = cmpO .ne (a.val r) from funext fun y => neg3_cmp .eq _ y]
  | .qnt al o a l, b => by
    cases b with
    | false => rfl
    | true => exact negL_ev r al o a l
  | .nul a, b => by
    cases b with
    | false => rfl
    | true =>
      show some (decide (some (a.val r).isNone = some false)) = neg3 (some (a.val r).isNone)
      cases a.val r <;> rfl
  | .nott p, b => by
    simp only [nw, Pr.ev]
    rw [nw_ev r p (!b)]
    cases b with
    | false => rfl
    | true => exact (neg3_neg3 _).symm
  | .bin or p q, b => by
    cases b with
    | false =>
      simp only [nw, Pr.ev, Bool.false_eq_true, if_false]
      rw [nw_ev r p false, nw_ev r q false]
      rfl
    | true =>
      simp only [nw, Pr.ev, if_true]
      rw [nw_ev r p true, nw_ev r q true]
      cases or with
      | false => exact (neg3_andL [p.ev r, q.ev r]).symm
      | true => exact (neg3_orL [p.ev r, q.ev r]).symm
  | .iss t p, b => by
    cases b with
    | false =>
      simp only [nw, Pr.ev, Bool.false_eq_true, if_false]
      rw [nw_ev r p false]
      rfl
    | true =>
      simp only [nw, if_true]
      have hne : (othersT t).map (fun t' => Pr.iss t' (nw p false)) ≠ [] := by rcases t with _ | _ | _ <;> simp [othersT]
      rw [join_ev r true hne, List.map_map]
      have e : (Pr.ev r ∘ fun t' => Pr.iss t' (nw p false)) = fun t' => some (decide (p.ev r = t')) := funext fun t' => by
        simp only [Function.comp, Pr.ev]
        rw [nw_ev r p false]
        rfl
      rw [e]
      simp only [Pr.ev]
      generalize p.ev r = x
      rcases t with _ | _ | _ <;> rcases x with _ | _ | _ <;> decide
def hasNot : Pr → Bool
  | .nott _ => true
  | .bin _ p q => hasNot p || hasNot q
  | .iss _ p => hasNot p
  | _ => false
theorem flip_not (o : Op4) (a b : Opd) : hasNot (flipP o a b) = false := by cases o <;> rfl
theorem join_not (or : Bool) {ps : List Pr} (h : ∀ p ∈ ps, hasNot p = false) : hasNot (joinP or ps) = false := by
  cases ps with
  | nil => rfl
  | cons p ps =>
    have key : ∀ (ps : List Pr) (p : Pr), hasNot p = false → (∀ q ∈ ps, hasNot q = false) → hasNot (ps.foldl (fun a b => .bin or a b) p) = false := by
      intro ps
      induction ps with
      | nil => intro p h _; exact h
      | cons q ps ih =>
        intro p h h2
        refine ih (.bin or p q) ?_ fun q' hq => h2 q' (List.mem_cons_of_mem _ hq)
        show (hasNot p || hasNot q) = false
        rw [h, h2 q List.mem_cons_self]
        rfl
    exact key ps p (h p List.mem_cons_self) fun q hq => h q (List.mem_cons_of_mem _ hq)
theorem nw_not : ∀ (p : Pr) (b : Bool), hasNot (nw p b) = false
  | .cst t, b => rfl
  | .cmp o x y, b => by
    cases b with
    | false => rfl
    | true => exact flip_not o x y
  | .inn a l, b => by cases b <;> rfl
  | .qnt al o a l, b => by
    cases b with
    | false => rfl
    | true =>
      have j : ∀ o : Op4, hasNot (if l = [] then Pr.cst (some (!al)) else joinP al (l.map fun v => flipP o a (.lit v))) = false := fun o => by
        split
        · rfl
        · refine join_not al fun p hp => ?_
          obtain ⟨v, _, rfl⟩ := List.mem_map.mp hp
          exact flip_not _ _ _
      cases o with
      | eq => rfl
      | ne => rfl
      | lt => exact j .lt
      | le => exact j .le
  | .nul a, b => by cases b <;> rfl
  | .nott p, b => by simp only [nw]; exact nw_not p (!b)
  | .bin or p q, b => by
    cases b with
    | false => simp only [nw, Bool.false_eq_true, if_false, hasNot]; rw [nw_not p false, nw_not q false]; rfl
    | true => simp only [nw, if_true, hasNot]; rw [nw_not p true, nw_not q true]; rfl
  | .iss t p, b => by
    cases b with
    | false => simp only [nw, Bool.false_eq_true, if_false, hasNot]; exact nw_not p false
    | true =>
      simp only [nw, if_true]
      refine join_not true fun q hq => ?_
      obtain ⟨v, _, rfl⟩ := List.mem_map.mp hq
      exact nw_not p false
theorem flip_ok {w : Int} (o : Op4) {a b : Opd} (ha : a.ok w = true) (hb : b.ok w = true) : (flipP o a b).ok w = true := by cases o <;> simp [flipP, Pr.ok, ha, hb]
theorem join_ok {w : Int} (or : Bool) {ps : List Pr} (h : ∀ p ∈ ps, p.ok w = true) : (joinP or ps).ok w = true := by
  cases ps with
  | nil => rfl
  | cons p ps =>
    have key : ∀ (ps : List Pr) (p : Pr), p.ok w = true → (∀ q ∈ ps, q.ok w = true) → (ps.foldl (fun a b => Pr.bin or a b) p).ok w = true := by
      intro ps
      induction ps with
      | nil => intro p h _; exact h
      | cons q ps ih =>
        intro p h h2
        refine ih (.bin or p q) ?_ fun q' hq => h2 q' (List.mem_cons_of_mem _ hq)
        show (p.ok w && q.ok w) = true
        rw [h, h2 q List.mem_cons_self]
        rfl
    exact key ps p (h p List.mem_cons_self) fun q hq => h q (List.mem_cons_of_mem _ hq)
theorem join_dp (or : Bool) {ps : List Pr} {k : Nat} (h : ∀ p ∈ ps, p.depth ≤ k) (h1 : ps ≠ []) : (joinP or ps).depth ≤ k + ps.length - 1 := by
  cases ps with
  | nil => exact absurd rfl h1
  | cons p ps =>
    have key : ∀ (ps : List Pr) (p : Pr) (j : Nat), p.depth ≤ j → k ≤ j → (∀ q ∈ ps, q.depth ≤ k) → (ps.foldl (fun a b => Pr.bin or a b) p).depth ≤ j + ps.length := by
      intro ps
      induction ps with
      | nil => intro p j h _ _; exact h
      | cons q ps ih =>
        intro p j h hk h2
        have := ih (.bin or p q) (j + 1) (by have := h2 q List.mem_cons_self; simp only [Pr.depth]; omega) (by omega) fun q' hq => h2 q' (List.mem_cons_of_mem _ hq)
        simp only [List.foldl_cons, List.length_cons]
        omega
    have := key ps p k (h p List.mem_cons_self) (Nat.le_refl _) fun q hq => h q (List.mem_cons_of_mem _ hq)
    simp only [joinP, List.length_cons]
    omega
theorem flip_dp (o : Op4) (a b : Opd) : (flipP o a b).depth = 1 := by cases o <;> rfl
theorem nw_ok {w : Int} : ∀ (p : Pr) (b : Bool), p.ok w = true → (nw p b).ok w = true ∧ (nw p b).depth ≤ 2 * p.depth + 2
  | .cst t, b, _ => ⟨rfl, by simp [nw, Pr.depth]⟩
  | .cmp o x y, b, h => by
    simp only [Pr.ok, Bool.and_eq_true] at h
    cases b with
    | false => exact ⟨by simp [nw, Pr.ok, h], by simp [nw, Pr.depth]⟩
    | true => exact ⟨flip_ok o h.1 h.2, by show (flipP o x y).depth ≤ _; rw [flip_dp]; simp [Pr.depth]⟩
  | .inn a l, b, h => by
    cases b with
    | false => exact ⟨h, by simp [nw, Pr.depth]⟩
    | true => exact ⟨h, by simp [nw, Pr.depth]⟩
  | .qnt al o a l, b, h => by
    cases b with
    | false => exact ⟨h, by simp [nw, Pr.depth]⟩
    | true =>
      simp only [Pr.ok, Bool.and_eq_true, lstOk, decide_eq_true_eq] at h
      have j : ∀ o : Op4, (if l = [] then Pr.cst (some (!al)) else joinP al (l.map fun v => flipP o a (.lit v))).ok w = true ∧ (if l = [] then Pr.cst (some (!al)) else joinP al (l.map fun v => flipP o a (.lit v))).depth ≤ 4 := fun o => by
        by_cases hl : l = []
        · rw [if_pos hl]; exact ⟨rfl, by simp [Pr.depth]⟩
        · rw [if_neg hl]
          refine ⟨join_ok al fun p hp => ?_, Nat.le_trans (join_dp al (k := 1) (fun p hp => ?_) (by simpa using hl)) (by have := h.2.1; simp only [List.length_map]; omega)⟩
          · obtain ⟨v, hv, rfl⟩ := List.mem_map.mp hp
            exact flip_ok _ h.1 (List.all_eq_true.mp h.2.2 v hv)
          · obtain ⟨v, hv, rfl⟩ := List.mem_map.mp hp
            rw [flip_dp]; exact Nat.le_refl _
      cases o with
      | eq => exact ⟨by simp [nw, negL, Pr.ok, lstOk, h], by simp [nw, negL, Pr.depth]⟩
      | ne => exact ⟨by simp [nw, negL, Pr.ok, lstOk, h], by simp [nw, negL, Pr.depth]⟩
      | lt => exact ⟨(j .lt).1, by have := (j .lt).2; simp only [Pr.depth]; exact Nat.le_trans this (by omega)⟩
      | le => exact ⟨(j .le).1, by have := (j .le).2; simp only [Pr.depth]; exact Nat.le_trans this (by omega)⟩
  | .nul a, b, h => by
    cases b with
    | false => exact ⟨h, by simp [nw, Pr.depth]⟩
    | true => exact ⟨h, by simp [nw, Pr.depth]⟩
  | .nott p, b, h => by
    have := nw_ok p (!b) h
    simp only [nw, Pr.depth]
    exact ⟨this.1, by omega⟩
  | .bin or p q, b, h => by
    simp only [Pr.ok, Bool.and_eq_true] at h
    cases b with
    | false =>
      have h1 := nw_ok p false h.1
      have h2 := nw_ok q false h.2
      simp only [nw, Bool.false_eq_true, if_false, Pr.ok, Pr.depth, h1.1, h2.1]
      exact ⟨rfl, by omega⟩
    | true =>
      have h1 := nw_ok p true h.1
      have h2 := nw_ok q true h.2
      simp only [nw, if_true, Pr.ok, Pr.depth, h1.1, h2.1]
      exact ⟨rfl, by omega⟩
  | .iss t p, b, h => by
    have h1 := nw_ok p false h
    cases b with
    | false =>
      exact ⟨h1.1, by simp only [nw, Bool.false_eq_true, if_false, Pr.depth]; omega⟩
    | true =>
      simp only [nw, if_true]
      refine ⟨join_ok true fun q hq => ?_, Nat.le_trans (join_dp true (k := 2 * p.depth + 3) (fun q hq => ?_) (by rcases t with _ | _ | _ <;> simp [othersT])) ?_⟩
      · obtain ⟨v, _, rfl⟩ := List.mem_map.mp hq
        exact h1.1
      · obtain ⟨v, _, rfl⟩ := List.mem_map.mp hq
        simp only [Pr.depth]; omega
      · have : (othersT t).length = 2 := by rcases t with _ | _ | _ <;> rfl
        rw [List.length_map, this]
        simp only [Pr.depth]; omega
end PL


/-! PMi: comprehensions of two clauses, their targets names. -/
namespace PL
open PySem PySem.Spec PyProof.Rows L2
def compW2 (g : DG) (c : DT) (ti1 : DI) (g1 : DG) (c1 : DT) (t : DE) (vs1 : List Nat) (ρw : PEnv) : List PV → List PV → Mem → (List PV → Mem → Prop) → Prop
  | [], acc, m, Q => Q acc m
  | x :: xs, acc, m, Q => g x ρw fun ρ2 => c ρ2 m (fun b m3 => match b with
    | true => ti1 ρ2 m3 (fun ps1 m4 => acc.length + ps1.length ≤ 1000000 ∧ compW g1 c1 t (wipeP ρ2 vs1) ps1 acc m4 (fun acc' m5 => compW2 g c ti1 g1 c1 t vs1 ρw xs acc' m5 Q)) xBot
    | false => compW2 g c ti1 g1 c1 t vs1 ρw xs acc m3 Q) xBot
@[simp] def wLc2 (ti : DI) (g : DG) (c : DT) (ti1 : DI) (g1 : DG) (c1 : DT) (t : DE) (vs vs1 : List Nat) : DE := fun ρ m Q R => ti ρ m (fun ps m1 => compW2 g c ti1 g1 c1 t vs1 (wipeP ρ vs) ps [] m1 (fun acc m2 => Q (.lst acc) m2)) R
/-- a source's reading, whoever walks it -/
def tI (X : Cx) (B : Bs) (ti : DI) : TI := fun σ H RR => ∃ F ρ m Q, PSt X.w X.K B F σ H ρ m ∧ ti ρ m Q xBot ∧ ∀ J F1 H1 m1 ps, PSt X.w X.K B F1 σ H1 ρ m1 → Ext F H m F1 H1 m1 → Wk X B J F1 ps → ps.length ≤ sizeLine → Q ps m1 → RR J H1
section
variable {X : Cx} {B : Bs} {F H : Hp} {σ : L2.St} {ρ : PEnv} {m : Mem}
theorem JI.blk {tg iter : Expr} {ti : DI} {s : Shared} {H : Hp} {scope : Scope} {env : Env} {fp : List Addr} (h : JI (X.blk s H scope env fp) B tg iter ti) : PI (X.blk s H scope env fp) tg iter (tI X B ti) := by
  obtain ⟨wi, hp, hk⟩ := h.pi pBot takes_bot
  exact ⟨fun pins s σ H RR I ⟨F, ρ, m, Q, st, ht, k⟩ => hp.run pins s σ H RR I (hk F σ H ρ m Q RR st ht fun J F1 H1 m1 ps s1 e1 wk => k J F1 H1 m1 ps s1 e1 ⟨wk.go, wk.yld, wk.stop⟩)⟩
theorem wipeP_own {ρ : PEnv} {i : Nat} {v : SV} : ∀ {vs : List Nat}, (wipeP ρ vs)[i]? = some (some v) → ρ[i]? = some (some v) ∧ i ∉ vs
  | [], h => ⟨h, by simp⟩
  | j :: vs, h => by
    unfold wipeP at h
    rw [put_set] at h
    by_cases hj : j = i
    · subst hj
      by_cases hi : j < (wipeP ρ vs).length
      · rw [List.getElem?_set_self hi] at h; cases h
      · rw [List.getElem?_eq_none (by rw [List.length_set]; omega)] at h; cases h
    · rw [List.getElem?_set_ne hj] at h
      obtain ⟨h1, h2⟩ := wipeP_own h
      exact ⟨h1, by simp [h2, Ne.symm hj]⟩
/-- no owned slot of the frame is the object at D -/
def OwnNe (σ : L2.St) (ρ : PEnv) (D : Addr) : Prop := ∀ (i : Nat) (o : OO), ρ[i]? = some (some (.own o)) → σ[i]? ≠ some (some (.ref D))
theorem OwnNe.wipe {D : Addr} (h : OwnNe σ ρ D) (vs : List Nat) : OwnNe (wipe σ vs) (wipeP ρ vs) D := fun i o e => by
  obtain ⟨h1, h2⟩ := wipeP_own e
  rw [wipe_out h2]
  exact h i o h1
theorem OwnNe.put {D : Addr} {j : Nat} {p : PV} {vs : List Nat} {σ' : L2.St} (h : OwnNe (L2.wipe σ vs) (wipeP ρ vs) D) (hj : j ∈ vs) (e : L2.wipe σ' vs = L2.wipe σ vs) : OwnNe σ' (PL.put (wipeP ρ vs) j (some (.val p))) D := fun i o eo => by
  rw [put_set] at eo
  have ne : j ≠ i := by
    rintro rfl
    by_cases hi : j < (wipeP ρ vs).length
    · rw [List.getElem?_set_self hi] at eo; cases eo
    · rw [List.getElem?_eq_none (by rw [List.length_set]; omega)] at eo; cases eo
  rw [List.getElem?_set_ne ne] at eo
  have h2 := (wipeP_own eo).2
  have := h i o eo
  rw [← e, wipe_out h2] at this
  exact this
theorem lc2_read {R : PX} {wi : TI} {vs vs1 : List Nat} {j j1 : Nat} {ti ti1 : DI} {tt tt1 : DT} {te : DE} {Q : KV'} {Qh : VK}
    (hk : ∀ F σ H ρ m Q (RR : It → Hp → Prop), PSt X.w X.K B F σ H ρ m → ti ρ m Q (R ρ) →
      (∀ J F1 H1 m1 ps, PSt X.w X.K B F1 σ H1 ρ m1 → Ext F H m F1 H1 m1 → Wk X B J F1 ps → ps.length ≤ sizeLine → Q ps m1 → RR J H1) → wi σ H RR)
    (hj : j ∈ vs) (hj1 : j1 ∈ vs1) (st : PSt X.w X.K B F σ H ρ m) (h : wLc2 ti (gN j) tt ti1 (gN j1) tt1 te vs vs1 ρ m Q (R ρ))
    (k : ∀ v p F' H' m', PSt X.w X.K B F' σ H' ρ m' → Ext F H m F' H' m' → Rep X.K F' v p → Q p m' → Qh v H') : tLc2 wi (tG X B [j] (gN j)) (tT X B pBot tt) (tI X B ti1) (tG X B [j1] (gN j1)) (tT X B pBot tt1) (tE X B pBot te) vs vs1 σ H Qh := by
  refine hk F σ H ρ m _ _ st h fun J F1 H1 m1 ps st1 ex1 wk hlen hw => ?_
  intro D hD
  have hF1 : F1 D = none := st1.sub.free hD
  have hBD : NoB B.H D := st1.ext.free hD
  have hm1 : m1 D = none := st1.mem_none hD
  have hHD : NoB H D := ex1.free hD
  have stw := st1.wipe vs
  have own0 : OwnNe σ ρ D := st1.own_ne hD
  have ownw : OwnNe (wipe σ vs) (wipeP ρ vs) D := stw.own_ne hD
  have noU : ∀ {o : HO} u, H1 D = some u → noTbl u → False := fun u e => by rw [hD] at e; cases e
  -- what holds at the turn i
  let Tn : Nat → Hp → Prop := fun i Hc => ∃ F2 m2 acc pacc, Hc D = some (.lst acc) ∧ PSt X.w X.K B F2 (wipe σ vs) Hc (wipeP ρ vs) m2 ∧ Ext F1 H1 m1 F2 Hc m2 ∧ F2 D = none ∧ m2 D = none ∧ RepAll X.K F2 acc pacc ∧
    compW2 (gN j) tt ti1 (gN j1) tt1 te vs1 (wipeP ρ vs) (ps.drop i) pacc m2 (fun acc m2 => Q (.lst acc) m2)
  refine ⟨fun i n Hc => n = ps.length - i ∧ i ≤ ps.length ∧ Tn i Hc, ⟨ps.length, by simp, Nat.zero_le _, F1, m1, [], [], upd_same, stw.newH hD, Ext.newH st1.sub hD, hF1, hm1, .nil, hw⟩, ?_⟩
  rintro i n Hc ⟨rfl, hi, F2, m2, acc, pacc, hDc, st2, ex2, hF2, hm2, rpa, hcomp⟩
  by_cases hlt : i < ps.length
  · refine .inr ⟨wk.go i F2 Hc ex2.fz st2.sub hlt, fun Hc => i + 1 ≤ ps.length ∧ Tn (i + 1) Hc, fun H' q => ⟨ps.length - (i + 1), by omega, rfl, q⟩, fun x H' hy => ?_⟩
    obtain ⟨F3, p, st3, ex3, hp, rp⟩ := wk.yld i F2 Hc x H' _ _ m2 ex2.fz st2 hy hlt
    have hD3 := ex3.kp D _ hDc lst_nt hm2
    have hF3 := ex3.ff D _ hDc lst_nt hF2
    rw [drop_get hp] at hcomp
    refine ⟨F3, wipeP ρ vs, m2, p, fun ρ' => ρ' = put (wipeP ρ vs) j (some (.val p)), st3, rp, rfl, fun σ4 ρ4 st4 wip h4 => ?_⟩
    subst h4
    have hw4 : wipe σ4 vs = wipe σ vs := (wip vs (fun i hi => by rw [List.mem_singleton.mp hi]; exact hj)).trans (wipe_wipe σ vs)
    have own4 : OwnNe σ4 (put (wipeP ρ vs) j (some (.val p))) D := ownw.put hj hw4
    have own41 := own4.wipe vs1
    refine ⟨hw4, ?_⟩
    refine ⟨F3, _, m2, _, st4, hcomp, fun b F5 H5 m5 st5 ex5 q5 => ?_⟩
    have hD5 := ex5.kp D _ hD3 lst_nt hm2
    have hF5 := ex5.ff D _ hD3 lst_nt hF3
    have hm5 := ex5.mf D _ hD3 lst_nt hm2
    have st5w := st3.step st5.sub st5.nt ex5 st5.mem st5.tab
    cases b with
    | false => exact ⟨hlt, F5, m5, acc, pacc, hD5, st5w, (ex2.trans ex3).trans ex5, hF5, hm5, rpa.mono (ex3.fz.trans ex5.fz), q5⟩
    | true =>
      refine ⟨F5, _, m5, _, st5, q5, fun J1 F6 H6 m6 ps1 st6 ex6 wk1 hlen1 ⟨hsz, hq⟩ => ?_⟩
      have hD6 := ex6.kp D _ hD5 lst_nt hm5
      have hF6 := ex6.ff D _ hD5 lst_nt hF5
      have hm6 := ex6.mf D _ hD5 lst_nt hm5
      have st6w := st5w.step st6.sub st6.nt ex6 st6.mem st6.tab
      have ex16 := ((ex2.trans ex3).trans ex5).trans ex6
      have hal : acc.length = pacc.length := rpa.length
      refine ⟨fun i1 n1 Hc => n1 = ps1.length - i1 ∧ i1 ≤ ps1.length ∧ ∃ F7 m7 acc7 pacc7, Hc D = some (.lst acc7) ∧ acc7.length ≤ acc.length + i1 ∧ PSt X.w X.K B F7 (wipe σ vs) Hc (wipeP ρ vs) m7 ∧ PSt X.w X.K B F7 (wipe σ4 vs1) Hc (wipeP (put (wipeP ρ vs) j (some (.val p))) vs1) m7 ∧ Ext F1 H1 m1 F7 Hc m7 ∧ Same F6 F7 ∧ F7 D = none ∧ m7 D = none ∧ RepAll X.K F7 acc7 pacc7 ∧
        compW (gN j1) tt1 te (wipeP (put (wipeP ρ vs) j (some (.val p))) vs1) (ps1.drop i1) pacc7 m7 (fun acc' m5 => compW2 (gN j) tt ti1 (gN j1) tt1 te vs1 (wipeP ρ vs) (ps.drop (i + 1)) acc' m5 (fun acc m2 => Q (.lst acc) m2)),
        ⟨ps1.length, by simp, Nat.zero_le _, F6, m6, acc, pacc, hD6, Nat.le_refl _, st6w, st6.wipe vs1, ex16, Same.refl F6, hF6, hm6, rpa.mono ((ex3.fz.trans ex5.fz).trans ex6.fz), hq⟩, ?_⟩
      rintro i1 n1 Hc1 ⟨rfl, hi1, F7, m7, acc7, pacc7, hD7, hal7, st7w, st7, ex7, e67, hF7, hm7, rpa7, hcomp1⟩
      by_cases hlt1 : i1 < ps1.length
      · refine .inr ⟨wk1.go i1 F7 Hc1 e67 st7.sub hlt1, fun Hc => i1 + 1 ≤ ps1.length ∧ ∃ F7 m7 acc7 pacc7, Hc D = some (.lst acc7) ∧ acc7.length ≤ acc.length + (i1 + 1) ∧ PSt X.w X.K B F7 (wipe σ vs) Hc (wipeP ρ vs) m7 ∧ PSt X.w X.K B F7 (wipe σ4 vs1) Hc (wipeP (put (wipeP ρ vs) j (some (.val p))) vs1) m7 ∧ Ext F1 H1 m1 F7 Hc m7 ∧ Same F6 F7 ∧ F7 D = none ∧ m7 D = none ∧ RepAll X.K F7 acc7 pacc7 ∧
          compW (gN j1) tt1 te (wipeP (put (wipeP ρ vs) j (some (.val p))) vs1) (ps1.drop (i1 + 1)) pacc7 m7 (fun acc' m5 => compW2 (gN j) tt ti1 (gN j1) tt1 te vs1 (wipeP ρ vs) (ps.drop (i + 1)) acc' m5 (fun acc m2 => Q (.lst acc) m2)), fun H' q => ⟨ps1.length - (i1 + 1), by omega, rfl, q⟩, fun x1 H8' hy1 => ?_⟩
        obtain ⟨F8, p1, st8, ex8, hp1, rp1⟩ := wk1.yld i1 F7 Hc1 x1 H8' _ _ m7 e67 st7 hy1 hlt1
        have hD8 := ex8.kp D _ hD7 lst_nt hm7
        have hF8 := ex8.ff D _ hD7 lst_nt hF7
        have st8w := st7w.step st8.sub st8.nt ex8 st8.mem st8.tab
        rw [drop_get hp1] at hcomp1
        refine ⟨F8, _, m7, p1, _, st8, rp1, hcomp1, fun σ9 ρ9 st9 wip9 h9 => ⟨(wip9 vs1 (fun i hi => by rw [List.mem_singleton.mp hi]; exact hj1)).trans (wipe_wipe σ4 vs1), ?_⟩⟩
        refine ⟨F8, ρ9, m7, _, st9, h9, fun b F10 H10 m10 st10 ex10 q10 => ?_⟩
        have hD10 := ex10.kp D _ hD8 lst_nt hm7
        have hF10 := ex10.ff D _ hD8 lst_nt hF8
        have hm10 := ex10.mf D _ hD8 lst_nt hm7
        have st10w := st8w.step st10.sub st10.nt ex10 st10.mem st10.tab
        have st10v := st8.step st10.sub st10.nt ex10 st10.mem st10.tab
        cases b with
        | false => exact ⟨hlt1, F10, m10, acc7, pacc7, hD10, Nat.le_succ_of_le hal7, st10w, st10v, (ex7.trans ex8).trans ex10, e67.trans (ex8.fz.trans ex10.fz), hF10, hm10, rpa7.mono (ex8.fz.trans ex10.fz), q10⟩
        | true =>
          refine ⟨F10, ρ9, m10, _, st10, q10, fun v y F11 H11 m11 st11 ex11 rp11 q11 => ?_⟩
          have hD11 := ex11.kp D _ hD10 lst_nt hm10
          have hF11 := ex11.ff D _ hD10 lst_nt hF10
          have hm11 := ex11.mf D _ hD10 lst_nt hm10
          have st11w := st10w.step st11.sub st11.nt ex11 st11.mem st11.tab
          have st11v := st10v.step st11.sub st11.nt ex11 st11.mem st11.tab
          refine ⟨acc7, hD11, Nat.lt_of_lt_of_le (show acc7.length < 1000001 by omega) (by decide), hlt1, F11, m11, acc7 ++ [v], pacc7 ++ [y], upd_same, by simp; omega, ?_, ?_, (((ex7.trans ex8).trans ex10).trans ex11).updN (fun u e => absurd e (by rw [hD]; exact fun z => nomatch z)), e67.trans ((ex8.fz.trans ex10.fz).trans ex11.fz), hF11, hm11, (rpa7.mono ((ex8.fz.trans ex10.fz).trans ex11.fz)).append (.cons rp11 .nil), q11⟩
          · exact st11w.upd ⟨hF11, hm11, hBD, ⟨_, hD11, lst_nt⟩, ownw⟩ hD11 lst_nc lst_nt lst_no
          · exact st11v.upd ⟨hF11, hm11, hBD, ⟨_, hD11, lst_nt⟩, own41⟩ hD11 lst_nc lst_nt lst_no
      · have ei : i1 = ps1.length := by omega
        subst ei
        rw [List.drop_length] at hcomp1
        exact .inl ⟨wk1.stop _ F7 Hc1 e67 st7.sub (Nat.le_refl _), hlt, F7, m7, acc7, pacc7, hD7, st7w, ex7, hF7, hm7, rpa7, hcomp1⟩
  · have ei : i = ps.length := by omega
    subst ei
    rw [List.drop_length] at hcomp
    refine .inl ⟨wk.stop _ F2 Hc ex2.fz st2.sub (Nat.le_refl _), k (.ref D) (.lst pacc) (L2.upd F2 D (.lst acc)) Hc m2 ?_ ((ex1.trans ex2).frzN hHD hF2) (.lst upd_same (rpa.mono fun a u e => by rw [upd_ne (ne_of_none e hF2)]; exact e)) hcomp⟩
    exact (st1.step st2.sub st2.nt ex2 st2.mem st2.tab).freeze ⟨hF2, hm2, hBD, ⟨_, hDc, lst_nt⟩, own0⟩ hDc lst_nt lst_no
/-- name = [.. for a in .. for b in ..], the name a local -/
theorem js_setLc2 {y : Str} {py : Pos} {elt tg iter tg1 iter1 : Expr} {ifs ifs1 : List Expr} {scope : Scope} {own : List (Str × Nat)} {vs1 : List Nat} {pos spos : Pos} {j j1 : Nat} {ti ti1 : DI} {tt tt1 : DT} {te : DE} (i : Nat) (hc : X.calm = true) (hN : X.N.Nodup) (hi : JI X B tg iter ti) (ok : BlkOk X.N X.env.scope scope own)
    (hg : ∀ (s : Shared) (H : Hp) (C : Addr) (cl : List (Str × Addr)) (fp : List Addr), JG (X.blk s H scope (compEnvC scope cl C X.env) fp) B tg [j] (gN j)) (ht : ∀ (s : Shared) (H : Hp) (C : Addr) (cl : List (Str × Addr)) (fp : List Addr), JTs (X.blk s H scope (compEnvC scope cl C X.env) fp) B ifs tt)
    (hi1 : ∀ (s : Shared) (H : Hp) (C : Addr) (cl : List (Str × Addr)) (fp : List Addr), JI (X.blk s H scope (compEnvC scope cl C X.env) fp) B tg1 iter1 ti1)
    (hg1 : ∀ (s : Shared) (H : Hp) (C : Addr) (cl : List (Str × Addr)) (fp : List Addr), JG (X.blk s H scope (compEnvC scope cl C X.env) fp) B tg1 [j1] (gN j1)) (ht1 : ∀ (s : Shared) (H : Hp) (C : Addr) (cl : List (Str × Addr)) (fp : List Addr), JTs (X.blk s H scope (compEnvC scope cl C X.env) fp) B ifs1 tt1)
    (he : ∀ (s : Shared) (H : Hp) (C : Addr) (cl : List (Str × Addr)) (fp : List Addr), JE (X.blk s H scope (compEnvC scope cl C X.env) fp) B elt te) (hv : ∀ i ∈ vs1, i ∈ own.map (·.2) := by decide) (hj : j ∈ own.map (·.2) := by decide) (hj1 : j1 ∈ vs1 := by decide) (hy : X.N[i]? = some y := by rfl) (hyl : X.env.scope.names.lookup y = some .local := by rfl)
    (hsw : swapsWith (.ListComp elt [⟨tg, iter, ifs, 0⟩, ⟨tg1, iter1, ifs1, 0⟩] scope pos) (some (.Name y py)) spos.line X.env = pure true := by exact sw_true rfl rfl rfl (by decide +kernel)) (hs : ∀ x, foldedSetIterable iter X.env x = pure x := by intro _; rfl) (hs1 : ∀ env x, foldedSetIterable iter1 env x = pure x := by intro _ _; rfl) :
    JS X B (.Assign [.Name y py] (.ListComp elt [⟨tg, iter, ifs, 0⟩, ⟨tg1, iter1, ifs1, 0⟩] scope pos) spos) (wSet i (wLc2 ti (gN j) tt ti1 (gN j1) tt1 te (own.map (·.2)) vs1)) := by
  refine ⟨fun D tk pins s σ F H ρ m I st h => ?_⟩
  obtain ⟨wi, hpi, hk⟩ := hi.pi D.ex tk
  have pl := ps_setLc2 (pos := pos) (g := tG X B [j] (gN j)) (tt := tT X B pBot tt) (wi1 := tI X B ti1) (g1 := tG X B [j1] (gN j1)) (tt1 := tT X B pBot tt1) (te := tE X B pBot te) hc hN hy hyl hsw hpi ok hv (fun s H C cl fp => (hg s H C cl fp).pg) (fun s H C cl fp => (ht s H C cl fp).pts pBot takes_bot)
    (fun s H C cl fp => (hi1 s H C cl fp).blk) (fun s H C cl fp => (hg1 s H C cl fp).pg) (fun s H C cl fp => (ht1 s H C cl fp).pts pBot takes_bot) (fun s H C cl fp => (he s H C cl fp).pe takes_bot) hs hs1
  refine thn (pl.run pins s σ H { nx := fun σ' H' => ∃ F' ρ' m', PSt X.w X.K B F' σ' H' ρ' m' ∧ Same F F' ∧ D.nx ρ' m', rt := fun _ _ => False } I ?_) fun fl s1 q => ?_
  · exact lc2_read (R := D.ex) (Q := fun p m1 => D.nx (PL.put ρ i (some (.val p))) m1) hk hj hj1 st h fun v p F' H' m' st' ex rp q => ⟨F', _, m', st'.put (slot_lt (w := X.w) (K := X.K) I hy) rp, ex.fz, q⟩
  · cases fl with
    | next => obtain ⟨σ', H', I', F', ρ', m', st', e, q⟩ := q; exact ⟨σ', F', H', ρ', m', I', st', e, q⟩
    | ret u => obtain ⟨_, _, _, _, _, q⟩ := q; exact q.elim
    | brk => obtain ⟨_, _, _, q⟩ := q; exact q.elim
    | cont => obtain ⟨_, _, _, q⟩ := q; exact q.elim
end
end PL


/-! PMj: list(range(a, b)). -/
namespace PL
open PySem PySem.Spec PyProof.Rows L2
section
variable {X : Cx} {B : Bs}
@[simp] def wLR (ta tb : DE) : DE := fun ρ m Q R => ta ρ m (fun pa m1 => tb ρ m1 (fun pb m2 => match pa, pb with
  | .int i, .int j => (-1000000000000000 ≤ i ∧ i ≤ 1000000000000000 ∧ -1000000000000000 ≤ j ∧ j ≤ 1000000000000000 ∧ j - i ≤ 1000000) ∧ Q (.lst (rngP i (j - i).toNat)) m2
  | _, _ => False) R) R
theorem rep_rg {K : PySem.W.Frag} {F : Hp} (a : Int) : ∀ l : List Nat, RepAll K F (l.map fun (i : Nat) => V.int (a + (i : Int))) (l.map fun (i : Nat) => PV.int (a + (i : Int)))
  | [] => .nil
  | i :: l => .cons (.int _) (rep_rg a l)
theorem je_listRange {a b : Expr} {ta tb : DE} {p p2 p3 pos : Pos} (hc : X.calm = true) (hl : X.mg "list" = none) (hr : X.mg "range" = none) (ha : JE X B a ta) (hb : JE X B b tb) (hg : Gl X "list" := by rfl) (hg2 : Gl X "range" := by rfl)
    (na : starEach [a, b] X.env = (false, eval a X.env) :: starEach [b] X.env := by rfl) (nb : starEach [b] X.env = (false, eval b X.env) :: starEach [] X.env := by rfl) (hp : (backTo p3 (starEach [b] X.env)).any (·.1) = false := by rfl)
    (ne : starEach [.Call (.Name "range" p2) [a, b] [] p3] X.env = (false, eval (.Call (.Name "range" p2) [a, b] [] p3) X.env) :: starEach [] X.env := by rfl) :
    JE X B (.Call (.Name "list" p) [.Call (.Name "range" p2) [a, b] [] p3] [] pos) (wLR ta tb) := by
  refine ⟨fun R tk pins s σ F H ρ m Q I st h => ?_⟩
  refine thn ((pe_listRg hc hg hl (prg_2 hg2 hr (ha.pe tk) (hb.pe tk) na nb hp) ne).run pins s σ H (fun v H' => ∃ p F' m', PSt X.w X.K B F' σ H' ρ m' ∧ Ext F H m F' H' m' ∧ Rep X.K F' v p ∧ Q p m') I ?_) fun u s' ⟨v, H', I', r, p, F', m', st', ex, rp, q⟩ => ⟨v, p, F', H', m', I', st', ex, r, rp, q⟩
  refine ⟨F, ρ, m, _, st, h, fun va pa F1 H1 m1 st1 ex1 ra qa => ⟨F1, ρ, m1, _, st1, qa, fun vb pb F2 H2 m2 st2 ex2 rb qb => ?_⟩⟩
  split at qb
  · rename_i i j
    cases ra; cases rb
    obtain ⟨hb, q⟩ := qb
    refine ⟨i, j, rfl, rfl, ⟨by omega, by omega, by omega, by omega, by omega⟩, fun q' hq => ?_⟩
    obtain ⟨st3, ex3⟩ := st2.new (o := .lst (rgV i j)) hq (fun ps z => nomatch z)
    exact ⟨_, _, m2, st3, (ex1.trans ex2).trans ex3, .lst upd_same (rep_rg i _), q⟩
  · exact qb.elim
end
end PL


/-! PMk: predicates made simple. Plain. -/
namespace PL
open PySem PySem.Spec PyProof.Rows L2
/-- the one truth that p has on the rows L -/
def isC (L : List Row) (p : Pr) : Option (Option Bool) := match L with
  | [] => none
  | r0 :: L' => if (r0 :: L').all (fun r => decide (p.ev r = p.ev r0)) then some (p.ev r0) else none
theorem isC_cons (r0 : Row) (L : List Row) (p : Pr) : isC (r0 :: L) p = if ((r0 :: L).all fun r => decide (p.ev r = p.ev r0)) = true then some (p.ev r0) else none := rfl
theorem isC_some {L : List Row} {p : Pr} {t : Option Bool} (h : isC L p = some t) : L ≠ [] ∧ ∀ r ∈ L, p.ev r = t := by
  cases L with
  | nil => cases h
  | cons r0 L =>
    refine ⟨by simp, ?_⟩
    rw [isC_cons] at h
    split at h
    · rename_i ha
      cases h
      intro r hr
      exact of_decide_eq_true (List.all_eq_true.mp ha r hr)
    · cases h
theorem isC_of {L : List Row} {p : Pr} {t : Option Bool} (hn : L ≠ []) (h : ∀ r ∈ L, p.ev r = t) : isC L p = some t := by
  cases L with
  | nil => exact absurd rfl hn
  | cons r0 L =>
    have e : p.ev r0 = t := h r0 List.mem_cons_self
    rw [isC_cons, if_pos (List.all_eq_true.mpr fun r hr => decide_eq_true (by rw [h r hr, e])), e]
theorem isC_none {L : List Row} {p : Pr} (hn : L ≠ []) (h : isC L p = none) : ∃ r1 ∈ L, ∃ r2 ∈ L, p.ev r1 ≠ p.ev r2 := by
  cases L with
  | nil => exact absurd rfl hn
  | cons r0 L =>
    rw [isC_cons] at h
    split at h
    · cases h
    · rename_i ha
      rw [List.all_eq_true] at ha
      simp only [decide_eq_true_eq] at ha
      obtain ⟨r, hr⟩ := Classical.not_forall.mp ha
      obtain ⟨hr, he⟩ := Classical.not_imp.mp hr
      exact ⟨r, hr, r0, List.mem_cons_self, he⟩
theorem isC_same {L : List Row} {p q : Pr} (h : ∀ r ∈ L, p.ev r = q.ev r) : isC L p = isC L q := by
  by_cases hn : L = []
  · subst hn; rfl
  · cases e : isC L q with
    | some t => exact isC_of hn fun r hr => (h r hr).trans ((isC_some e).2 r hr)
    | none =>
      cases e2 : isC L p with
      | none => rfl
      | some t =>
        rw [isC_of hn fun r hr => (h r hr).symm.trans ((isC_some e2).2 r hr)] at e
        cases e
def notS : Pr → Pr
  | .nott x => x
  | s => .nott s
def binS (or : Bool) (s1 s2 : Pr) : Pr := if s1 = .cst (some (!or)) then s2 else if s2 = .cst (some (!or)) then s1 else .bin or s1 s2
def sim (L : List Row) : Pr → Pr
  | .cst t => (isC L (.cst t)).elim (.cst t) .cst
  | .cmp o a b => (isC L (.cmp o a b)).elim (.cmp o a b) .cst
  | .inn a l => (isC L (.inn a l)).elim (.inn a l) .cst
  | .qnt al o a l => (isC L (.qnt al o a l)).elim (.qnt al o a l) .cst
  | .nul a => (isC L (.nul a)).elim (.nul a) .cst
  | .nott q => (isC L (.nott q)).elim (notS (sim L q)) .cst
  | .bin or a b => (isC L (.bin or a b)).elim (binS or (sim L a) (sim L b)) .cst
  | .iss t q => (isC L (.iss t q)).elim (.iss t (sim L q)) .cst
theorem elim_ev {L : List Row} {p s : Pr} (h : ∀ r ∈ L, s.ev r = p.ev r) : ∀ r ∈ L, ((isC L p).elim s .cst).ev r = p.ev r := fun r hr => by
  cases e : isC L p with
  | none => exact h r hr
  | some t => exact ((isC_some e).2 r hr).symm
theorem notS_ev (r : Row) (s : Pr) : (notS s).ev r = neg3 (s.ev r) := by
  cases s <;> first | rfl | exact (neg3_neg3 _).symm
theorem binS_ev (r : Row) (or : Bool) (s1 s2 : Pr) : (binS or s1 s2).ev r = (Pr.bin or s1 s2).ev r := by
  unfold binS
  split
  · rename_i h
    subst h
    cases or <;> simp only [Pr.ev] <;> rcases s2.ev r with _ | _ | _ <;> decide
  · split
    · rename_i h
      subst h
      cases or <;> simp only [Pr.ev] <;> rcases s1.ev r with _ | _ | _ <;> decide
    · rfl
theorem sim_ev (L : List Row) : ∀ (p : Pr), ∀ r ∈ L, (sim L p).ev r = p.ev r
  | .cst t => elim_ev fun _ _ => rfl
  | .cmp o a b => elim_ev fun _ _ => rfl
  | .inn a l => elim_ev fun _ _ => rfl
  | .qnt al o a l => elim_ev fun _ _ => rfl
  | .nul a => elim_ev fun _ _ => rfl
  | .nott q => elim_ev fun r hr => by rw [notS_ev, sim_ev L q r hr]; rfl
  | .bin or a b => elim_ev fun r hr => by rw [binS_ev]; simp only [Pr.ev]; rw [sim_ev L a r hr, sim_ev L b r hr]
  | .iss t q => elim_ev fun r hr => by simp only [Pr.ev]; rw [sim_ev L q r hr]
/-- what is asked of every part of a simple predicate -/
def partS (L : List Row) (x : Pr) : Prop := ((∃ t, x = .cst t) ∨ isC L x = none) ∧ (∀ or a b, x = .bin or a b → ∀ b', a ≠ .cst (some b') ∧ b ≠ .cst (some b')) ∧ ∀ y, x ≠ .nott (.nott y)
def allS (L : List Row) : Pr → Prop
  | .nott q => partS L (.nott q) ∧ allS L q
  | .bin or a b => partS L (.bin or a b) ∧ allS L a ∧ allS L b
  | .iss t q => partS L (.iss t q) ∧ allS L q
  | p => partS L p
theorem allS_parts {L : List Row} : ∀ {p : Pr}, allS L p → ∀ x ∈ p.parts, partS L x.2
  | .cst t, h, x, hx => by rw [List.mem_singleton.mp hx]; exact h
  | .cmp o a b, h, x, hx => by rw [List.mem_singleton.mp hx]; exact h
  | .inn a l, h, x, hx => by rw [List.mem_singleton.mp hx]; exact h
  | .qnt al o a l, h, x, hx => by rw [List.mem_singleton.mp hx]; exact h
  | .nul a, h, x, hx => by rw [List.mem_singleton.mp hx]; exact h
  | .nott q, h, x, hx => by
    rcases List.mem_cons.mp hx with rfl | hx
    · exact h.1
    · obtain ⟨y, hy, rfl⟩ := List.mem_map.mp hx
      exact allS_parts h.2 y hy
  | .bin or a b, h, x, hx => by
    rcases List.mem_cons.mp hx with rfl | hx
    · exact h.1
    · rcases List.mem_append.mp hx with hx | hx
      · obtain ⟨y, hy, rfl⟩ := List.mem_map.mp hx
        exact allS_parts h.2.1 y hy
      · obtain ⟨y, hy, rfl⟩ := List.mem_map.mp hx
        exact allS_parts h.2.2 y hy
  | .iss t q, h, x, hx => by
    rcases List.mem_cons.mp hx with rfl | hx
    · exact h.1
    · obtain ⟨y, hy, rfl⟩ := List.mem_map.mp hx
      exact allS_parts h.2 y hy
theorem allS_cst (L : List Row) (t : Option Bool) : allS L (.cst t) := ⟨.inl ⟨t, rfl⟩, (fun _ _ _ h => nomatch h), fun _ h => nomatch h⟩
theorem notS_S {L : List Row} {s : Pr} (h : allS L s) (hn : isC L (notS s) = none) : allS L (notS s) := by
  cases s with
  | nott x => exact h.2
  | cst t => exact ⟨⟨.inr hn, (fun _ _ _ h => nomatch h), fun _ h => nomatch h⟩, h⟩
  | cmp o a b => exact ⟨⟨.inr hn, (fun _ _ _ h => nomatch h), fun _ h => nomatch h⟩, h⟩
  | inn a l => exact ⟨⟨.inr hn, (fun _ _ _ h => nomatch h), fun _ h => nomatch h⟩, h⟩
  | qnt al o a l => exact ⟨⟨.inr hn, (fun _ _ _ h => nomatch h), fun _ h => nomatch h⟩, h⟩
  | nul a => exact ⟨⟨.inr hn, (fun _ _ _ h => nomatch h), fun _ h => nomatch h⟩, h⟩
  | bin or a b => exact ⟨⟨.inr hn, (fun _ _ _ h => nomatch h), fun _ h => nomatch h⟩, h⟩
  | iss t q => exact ⟨⟨.inr hn, (fun _ _ _ h => nomatch h), fun _ h => nomatch h⟩, h⟩
theorem binS_S {L : List Row} (hL : L ≠ []) {or : Bool} {s1 s2 : Pr} (h1 : allS L s1) (h2 : allS L s2) (hn : isC L (.bin or s1 s2) = none) : allS L (binS or s1 s2) := by
  unfold binS
  split
  · exact h2
  · split
    · exact h1
    · rename_i n1 n2
      refine ⟨⟨.inr hn, fun or' a b e b' => ?_, fun _ h => nomatch h⟩, h1, h2⟩
      cases e
      constructor
      · rintro rfl
        have hb : b' = or := by
          cases b' <;> cases or <;> first | rfl | exact absurd rfl n1
        subst hb
        have : isC L (.bin b' (.cst (some b')) s2) = some (some b') := isC_of hL fun r hr => by
          cases b' <;> simp only [Pr.ev] <;> rcases s2.ev r with _ | _ | _ <;> decide
        rw [this] at hn
        cases hn
      · rintro rfl
        have hb : b' = or := by
          cases b' <;> cases or <;> first | rfl | exact absurd rfl n2
        subst hb
        have : isC L (.bin b' s1 (.cst (some b'))) = some (some b') := isC_of hL fun r hr => by
          cases b' <;> simp only [Pr.ev] <;> rcases s1.ev r with _ | _ | _ <;> decide
        rw [this] at hn
        cases hn
theorem elim_S {L : List Row} {p s : Pr} (h : isC L p = none → allS L s) : allS L ((isC L p).elim s .cst) := by
  cases e : isC L p with
  | none => exact h e
  | some t => exact allS_cst L t
theorem sim_S {L : List Row} (hL : L ≠ []) : ∀ p : Pr, allS L (sim L p)
  | .cst t => elim_S fun h => ⟨.inr h, (fun _ _ _ h => nomatch h), fun _ h => nomatch h⟩
  | .cmp o a b => elim_S fun h => ⟨.inr h, (fun _ _ _ h => nomatch h), fun _ h => nomatch h⟩
  | .inn a l => elim_S fun h => ⟨.inr h, (fun _ _ _ h => nomatch h), fun _ h => nomatch h⟩
  | .qnt al o a l => elim_S fun h => ⟨.inr h, (fun _ _ _ h => nomatch h), fun _ h => nomatch h⟩
  | .nul a => elim_S fun h => ⟨.inr h, (fun _ _ _ h => nomatch h), fun _ h => nomatch h⟩
  | .nott q => elim_S fun h => notS_S (sim_S hL q) ((isC_same fun r hr => by rw [notS_ev, sim_ev L q r hr]; rfl).trans h)
  | .bin or a b => elim_S fun h => binS_S hL (sim_S hL a) (sim_S hL b) ((isC_same fun r hr => by simp only [Pr.ev]; rw [sim_ev L a r hr, sim_ev L b r hr]).trans h)
  | .iss t q => elim_S fun h => ⟨⟨.inr ((isC_same fun r hr => by simp only [Pr.ev]; rw [sim_ev L q r hr]).trans h), (fun _ _ _ h => nomatch h), fun _ h => nomatch h⟩, sim_S hL q⟩
/-- no greater -/
def leS (w : Int) (s p : Pr) : Prop := s.parts.length ≤ p.parts.length ∧ s.depth ≤ p.depth ∧ (p.ok w = true → s.ok w = true) ∧ (∀ i ∈ s.li, i ∈ p.li)
theorem parts_pos (p : Pr) : 1 ≤ p.parts.length := by cases p <;> simp [Pr.parts]
theorem depth_1 (p : Pr) : 1 ≤ p.depth := by cases p <;> simp [Pr.depth]
theorem leS_cst (w : Int) (t : Option Bool) (p : Pr) : leS w (.cst t) p := ⟨parts_pos p, depth_1 p, fun _ => rfl, fun i h => by simp [Pr.li] at h⟩
theorem elim_le {w : Int} {L : List Row} {p s : Pr} (h : leS w s p) : leS w ((isC L p).elim s .cst) p := by
  cases isC L p with
  | none => exact h
  | some t => exact leS_cst w t p
theorem leS_refl (w : Int) (p : Pr) : leS w p p := ⟨Nat.le_refl _, Nat.le_refl _, id, fun _ h => h⟩
theorem notS_le {w : Int} {s q : Pr} (h : leS w s q) : leS w (notS s) (.nott q) := by
  obtain ⟨h1, h2, h3, h4⟩ := h
  have e1 : (Pr.nott q).parts.length = q.parts.length + 1 := by simp [Pr.parts]
  have e2 : (Pr.nott q).depth = q.depth + 1 := rfl
  have key : leS w (.nott s) (.nott q) := by
    refine ⟨by simp [Pr.parts]; exact h1, by simp only [Pr.depth]; omega, h3, h4⟩
  cases s with
  | nott x =>
    refine ⟨?_, ?_, h3, h4⟩
    · have : (Pr.nott x).parts.length = x.parts.length + 1 := by simp [Pr.parts]
      show x.parts.length ≤ _
      omega
    · show x.depth ≤ _
      simp only [Pr.depth] at h2 ⊢
      omega
  | _ => exact key
theorem binS_le {w : Int} {or : Bool} {s1 s2 a b : Pr} (h1 : leS w s1 a) (h2 : leS w s2 b) : leS w (binS or s1 s2) (.bin or a b) := by
  obtain ⟨g1, g2, g3, g4⟩ := h1
  obtain ⟨k1, k2, k3, k4⟩ := h2
  have e : ∀ x y : Pr, (Pr.bin or x y).parts.length = x.parts.length + y.parts.length + 1 := fun x y => by simp [Pr.parts]
  have ok : (Pr.bin or a b).ok w = true → a.ok w = true ∧ b.ok w = true := fun h => by simpa [Pr.ok] using h
  unfold binS
  split
  · exact ⟨by rw [e]; omega, by simp only [Pr.depth]; omega, fun h => k3 (ok h).2, fun i hi => List.mem_append_right _ (k4 i hi)⟩
  · split
    · exact ⟨by rw [e]; omega, by simp only [Pr.depth]; omega, fun h => g3 (ok h).1, fun i hi => List.mem_append_left _ (g4 i hi)⟩
    · refine ⟨by rw [e, e]; omega, by simp only [Pr.depth]; omega, fun h => by simp [Pr.ok, g3 (ok h).1, k3 (ok h).2], fun i hi => ?_⟩
      exact (List.mem_append.mp hi).elim (fun h => List.mem_append_left _ (g4 i h)) fun h => List.mem_append_right _ (k4 i h)
theorem sim_le (w : Int) (L : List Row) : ∀ p : Pr, leS w (sim L p) p
  | .cst t => elim_le (leS_refl w _)
  | .cmp o a b => elim_le (leS_refl w _)
  | .inn a l => elim_le (leS_refl w _)
  | .qnt al o a l => elim_le (leS_refl w _)
  | .nul a => elim_le (leS_refl w _)
  | .nott q => elim_le (notS_le (sim_le w L q))
  | .bin or a b => elim_le (binS_le (sim_le w L a) (sim_le w L b))
  | .iss t q => elim_le (by
    obtain ⟨h1, h2, h3, h4⟩ := sim_le w L q
    exact ⟨by simp [Pr.parts]; exact h1, by simp only [Pr.depth]; omega, h3, h4⟩)
theorem sim_const {L : List Row} {p : Pr} {t : Option Bool} (h : isC L p = some t) : sim L p = .cst t := by
  cases p <;> simp only [sim, h] <;> rfl
end PL


/-! PMl: a lambda with one parameter, handed to a def that calls it. -/
namespace PL
open PySem PySem.Spec PyProof.Rows L2 NdefX

/-! ### what a lambda sees -/
@[simp] def slP (ρ : PEnv) (j : Nat) : Option SV := match at' ρ j with
  | some (.val p) => some (.val p)
  | _ => none
@[simp] def lamP (js : List Nat) (ρ : PEnv) (p : PV) : PEnv := some (.val p) :: js.map (slP ρ)
/-- what a function that is handed over does -/
abbrev LT := PV → Mem → KV' → Prop
/-- x(e), x a name that holds the function -/
@[simp] def wFun (i : Nat) (f : Addr) (L : LT) (te : DE) : DE := fun ρ m Q R => at' ρ i = some (.val (.raw (.ref f))) ∧ te ρ m (fun p m1 => L p m1 Q) R
def Hands (X : Cx) (B : Bs) (a : Str) (i : Nat) (f : Addr) (L : LT) : Prop := ∀ (e : PySem.Expr) (te : DE) (p1 p2 : Pos), JE X B e te → starEach [e] X.env = (false, eval e X.env) :: starEach [] X.env → JE X B (.Call (.Name a p1) [e] [] p2) (wFun i f L te)
theorem je_hands {X : Cx} {B : Bs} {a : Str} {i : Nat} {f : Addr} {L : LT} {e : PySem.Expr} {te : DE} {p1 p2 : Pos} (h : Hands X B a i f L) (he : JE X B e te) (hs : starEach [e] X.env = (false, eval e X.env) :: starEach [] X.env := by rfl) : JE X B (.Call (.Name a p1) [e] [] p2) (wFun i f L te) := h e te p1 p2 he hs

section
variable {w : World} {K : PySem.W.Frag} {B : Bs} {F H F2 H2 : Hp} {σ : L2.St} {ρ : PEnv} {m m2 : Mem}
theorem slP_get {j : Nat} {p : PV} (h : slP ρ j = some (.val p)) : ρ[j]? = some (some (.val p)) := by
  unfold slP at h
  split at h
  · rename_i q e
    cases h
    exact at_get e
  · cases h
theorem slP_own {j : Nat} {o : OO} : slP ρ j ≠ some (.own o) := by
  unfold slP
  split <;> intro z <;> cases z
theorem pst_lam {P : Program} {v : V} {p : PV} {js : List Nat} (st : PSt w K B F σ H ρ m) (e : Same F F2) (g : GSt w K ⟨P, F2, H2, m2, B.T⟩ F2 H2 m2) (r : Rep K F2 v p) {N : List Str} (hN : N.length = js.length + 1) :
    PSt w K ⟨P, F2, H2, m2, B.T⟩ F2 (startF N [v] (js.map (slotAt σ))) H2 (lamP js ρ p) m2 := by
  have e0 : startF N [v] (js.map (slotAt σ)) = some v :: js.map (slotAt σ) := by
    unfold startF
    rw [hN, List.length_map, List.length_singleton, show js.length + 1 - 1 - js.length = 0 by omega]
    simp
  rw [e0]
  refine ⟨by simp, g.sub, g.nt, fun i q h => ?_, fun i o h => ?_, fun i j o o' a _ h => ?_, g.mem, Ext.refl _ _ _, g.tab⟩
  · cases i with
    | zero =>
      cases (show some (SV.val p) = some (.val q) from Option.some.inj h)
      exact ⟨v, rfl, r⟩
    | succ i =>
      have h : (js.map (slP ρ))[i]? = some (some (.val q)) := h
      rw [List.getElem?_map] at h
      cases ej : js[i]? with
      | none => rw [ej] at h; cases h
      | some j =>
        rw [ej] at h
        obtain ⟨u, h1, h2⟩ := st.val j q (slP_get (Option.some.inj h))
        refine ⟨u, ?_, h2.mono e⟩
        show (js.map (slotAt σ))[i]? = _
        rw [List.getElem?_map, ej]
        exact congrArg some (slotAt_of h1)
  · cases i with
    | zero => cases (show some (SV.val p) = some (.own o) from Option.some.inj h)
    | succ i =>
      have h : (js.map (slP ρ))[i]? = some (some (.own o)) := h
      rw [List.getElem?_map] at h
      cases ej : js[i]? with
      | none => rw [ej] at h; cases h
      | some j => rw [ej] at h; exact absurd (Option.some.inj h) slP_own
  · cases i with
    | zero => cases (show some (SV.val p) = some (.own o) from Option.some.inj h)
    | succ i =>
      have h : (js.map (slP ρ))[i]? = some (some (.own o)) := h
      rw [List.getElem?_map] at h
      cases ej : js[i]? with
      | none => rw [ej] at h; cases h
      | some j => rw [ej] at h; exact absurd (Option.some.inj h) slP_own
/-- a code object stays -/
theorem code_keeps {c' : Addr} {q : Str} (st : PSt w K B F σ H ρ m) (hco : H c' = some (LamX.CodeO c' q)) (ex : Ext F H m F2 H2 m2) : H2 c' = some (LamX.CodeO c' q) := by
  have hmc : m c' = none := by
    cases q : m c' with
    | none => rfl
    | some o =>
      obtain ⟨_, z⟩ := st.mem c' o q
      cases o with
      | dice => obtain ⟨i, j, z⟩ := z; rw [hco] at z; unfold LamX.CodeO at z; cases z
      | lst xs => obtain ⟨vs, z, _⟩ := z; rw [hco] at z; unfold LamX.CodeO at z; cases z
      | ins C fs => obtain ⟨dx, fv, z, _⟩ := z; rw [hco] at z; unfold LamX.CodeO at z; cases z
  exact ex.kp c' _ hco (fun ps z => by unfold LamX.CodeO at z; cases z) hmc
end
theorem cells_un {cl : List (Str × Addr)} {fr : List Str} {ws : List (Option V)} {fs : List Addr} {h h' : Heap} {H H' : Hp} (C : CellsAt cl fr ws h H) (un : Un fs [] H H' h h') : CellsAt cl fr ws h' H' := by
  have kp : ∀ {y c}, cl.lookup y = some c → ∀ v, h.IsCell c v → h'.IsCell c v := fun {y c} e v ⟨o, ho, hd⟩ => by
    obtain ⟨sl, q⟩ := un.any ho (C.all y c e).1 (by simp)
    exact ⟨_, q, hd⟩
  refine ⟨C.len, fun y c e => ?_, C.inj, fun i y e => ?_⟩
  · obtain ⟨n, v, z⟩ := C.all y c e
    refine ⟨?_, v, kp e v z⟩
    obtain ⟨o, ho, _⟩ := z
    exact un.free c o ho n (by simp)
  · obtain ⟨c, hc, hv⟩ := C.has i y e
    refine ⟨c, hc, fun v ev => ?_⟩
    obtain ⟨u, r, z⟩ := hv v ev
    exact ⟨u, r, kp hc _ z⟩

/-! ### a def that takes a function as its last argument -/
structure FnF (P : Program) (w : World) (K : PySem.W.Frag) (mg : Str → Option Value) (base : Heap) (T : List (Addr × Str)) (k : Nat) (g : Addr) (qual : Str) (st : Stmt) (N : List Str) (n : Nat) (a : Str) (i : Nat) (SL : LT → Addr → SpP) : Prop where
  run : ∀ (cdv : Value) (A : Around) (outer : List Env) (s : Shared) (H F0 : Hp) (m0 : Mem) (E : XK) (fL : Addr) (L : LT), Room k (A.deeper (envOfC qual (defScope st) s.heap.objs.size g cdv)) →
    Hands (cxOf (L2N.CX P w) P w K mg base N qual (defScope st) g cdv A outer s H E) ⟨P, F0, H, m0, T⟩ a i fL L →
    ∃ t, JB (cxOf (L2N.CX P w) P w K mg base N qual (defScope st) g cdv A outer s H E) ⟨P, F0, H, m0, T⟩ (defBody st) t ∧ ∀ qs m Q R, SL L fL qs m Q R → qs.length = n → t (startP N qs) m { nx := fun _ m' => Q .non m', rt := Q, ex := fun _ => R }
structure CalF (P : Program) (w : World) (K : PySem.W.Frag) (mg : Str → Option Value) (base : Heap) (T : List (Addr × Str)) (k : Nat) (x : Str) (n : Nat) (SL : LT → Addr → SpP) : Prop where
  ex : ∃ (g : Addr) (fd : FuncData) (st : Stmt) (N ps : List Str) (a : Str) (i : Nat), Fun K x x st g fd ∧ FnScope N ps (defScope st) ∧ ps.length = n ∧ N[i]? = some a ∧ Vis (defScope st) a ∧ (a == ("__debug__" : Str)) = false ∧ (a == ("__classdict__" : Str)) = false ∧
    mg x = some (.ref g) ∧ Binds K fd ps [] ∧ FnF P w K mg base T k g x st N n a i SL

/-! ### the arguments, the lambda behind them -/
structure JAF (X : Cx) (B : Bs) (q : Str) (params : Arguments) (body : PySem.Expr) (scope : Scope) (es : List PySem.Expr) (t : DA) : Prop where
  run : ∀ (R : PX), L2N.Takes X (WR X B R) → ∀ (pos : Pos) (pins : List (Addr × Obj)) (s : Shared) (σ : L2.St) (F H : Hp) (ρ : PEnv) (m : Mem) (Q : List PV → Mem → Prop), Inv X pins σ H s → PSt X.w X.K B F σ H ρ m → t ρ m Q (R ρ) →
    wpAny (model X.prog X.w) X.A (spliced (backTo pos (starEach es X.env))) (fun us s' => ∃ vs ps us' F' H' m', ∃ (f c' : Addr) (pm ctv : Value), us = us' ++ [.ref f] ∧ Inv X pins σ H' s' ∧ PSt X.w X.K B F' σ H' ρ m' ∧ Ext F H m F' H' m' ∧ Vals vs us' ∧ RepAll X.K F' vs ps ∧ ps.length + 1 = es.length ∧
      s'.heap.get? f = some (PySem.W.kla_obj "<lambda>" q params body scope (cloFrom X.env.cells scope.names []) pm c' ctv) ∧ H' f = none ∧ f ∉ frs X.stack ∧ H' c' = some (LamX.CodeO c' q) ∧ Q ps m') X.xe s
section
variable {X : Cx} {B : Bs}
theorem jaf_lam {params : Arguments} {body : PySem.Expr} {scope : Scope} {lpos : Pos} {c P0 : Addr} (TB : LamX.TabB X.base X.mg c P0) (hcode : X.env.code = .ref c) (hmT : (P0, X.env.qual ++ "<lambda>") ∈ B.T) (hu : ∀ q ∈ B.T, q.1 = P0 → q.2 = X.env.qual ++ "<lambda>") (hdef : defaultsOf params X.env = ([], []))
    (hfree : ∀ y ∈ scope.names, y.2 = .free → X.env.scope.names.lookup y.1 = some .cell ∨ X.env.scope.names.lookup y.1 = some .free) : JAF X B (X.env.qual ++ "<lambda>") params body scope [.Lambda params body scope lpos] wNil := by
  refine ⟨fun R tk pos pins s σ F H ρ m Q I st h => ?_⟩
  show wpAny _ _ (spliced ((false, eval (.Lambda params body scope lpos) X.env) :: backTo pos (starEach [] X.env))) _ _ s
  refine Calls.spliced_cons (LamX.lam_make2 I TB hcode hmT hu st.tab hdef (fun y hy e => (hfree y hy e).elim (fun z => I.ok.has _ (.inl z)) fun z => I.ok.has _ (.inr z)) fun f c' pm' ctv H1 s' I1 eN T1 hf hfn hfr hco => Calls.spliced_nil ?_)
  have exA : Ext F H m F H1 m := ⟨Same.refl F, fun a u e n _ => eN a u e n, fun _ _ _ _ z => z, fun _ _ _ _ z => z, fun a u e n => ⟨u, eN a u e n, n⟩⟩
  exact ⟨[], [], [], F, H1, m, f, c', pm', ctv, rfl, I1, st.grown eN T1, exA, .nil, .nil, rfl, hf, hfn, hfr, hco, h⟩
theorem jaf_cons {q : Str} {params : Arguments} {body : PySem.Expr} {scope : Scope} {e : PySem.Expr} {es : List PySem.Expr} {te : DE} {t : DA} (ha : JE X B e te) (hr : JAF X B q params body scope es t) (hs : starEach (e :: es) X.env = (false, eval e X.env) :: starEach es X.env := by rfl) : JAF X B q params body scope (e :: es) (wCons te t) := by
  refine ⟨fun R tk pos pins s σ F H ρ m Q I st h => ?_⟩
  rw [hs]
  show wpAny _ _ (spliced ((false, eval e X.env) :: backTo pos (starEach es X.env))) _ _ s
  refine Calls.spliced_cons (thn (ha.run R tk pins s σ F H ρ m _ I st h) fun u s1 ⟨x, p, F1, H1, m1, I1, st1, ex1, r1, rp1, q1⟩ => ?_)
  exact thn (hr.run R tk pos pins s1 σ F1 H1 ρ m1 _ I1 st1 q1) fun us s2 ⟨xs, ps, us', F2, H2, m2, f, c', pm, ctv, eu, I2, st2, ex2, r2, rp2, hl2, h1, h2, h3, h4, q2⟩ =>
    ⟨x :: xs, p :: ps, u :: us', F2, H2, m2, f, c', pm, ctv, by rw [eu]; rfl, I2, st2, ex1.trans ex2, .cons r1 r2, .cons (rp1.mono ex2.fz) rp2, congrArg Nat.succ hl2, h1, h2, h3, h4, q2⟩
end

/-! ### the lambda's call -/
def lamNF (q : Str) (params : Arguments) (scope : Scope) (cl : List (Str × Addr)) (c' : Addr) : NF := ⟨"<lambda>", q, params, [], scope, cl, c'⟩
section
variable {X : Cx} {B : Bs} {pins : List (Addr × Obj)} {σ : L2.St} {F H : Hp} {ρ : PEnv} {m : Mem} {s : Shared}
theorem hands_lam {N : List Str} {qual : Str} {sg : Scope} {g f c' : Addr} {cdg pm ctv : Value} {params : Arguments} {body : PySem.Expr} {scope : Scope} {k i : Nat} {a y : Str} {fr : List Str} {js : List Nat} {tk : DE} {E : XK}
    (I : Inv X pins σ H s) (st : PSt X.w X.K B F σ H ρ m) (S : NScope (y :: fr) [y] fr scope) (hfree : ∀ y ∈ scope.names, y.2 = .free → X.env.scope.names.lookup y.1 = some .cell ∨ X.env.scope.names.lookup y.1 = some .free) (hjs : js.map (fun j => X.N[j]?) = fr.map some)
    (hf : s.heap.get? f = some (PySem.W.kla_obj "<lambda>" (X.env.qual ++ "<lambda>") params body scope (cloFrom X.env.cells scope.names []) pm c' ctv)) (hfn : H f = none) (hfr : f ∉ frs X.stack) (hco : H c' = some (LamX.CodeO c' (X.env.qual ++ "<lambda>")))
    (hbind : ∀ (q : Str) (cl : List (Str × Addr)) (pm cv ctv u : Value), bindArgs (PySem.W.kla_fn "<lambda>" q params body scope cl pm cv ctv) ⟨[u], []⟩ = pure [(y, u)])
    (hr : Room (k + 1) (X.A.deeper (envOfC qual sg s.heap.objs.size g cdg))) (hN : N[i]? = some a) (hv : Vis sg a) (hd : (a == ("__debug__" : Str)) = false) (hcd : (a == ("__classdict__" : Str)) = false)
    (hbody : ∀ (A : Around) (outer : List Env) (s : Shared) (H F0 : Hp) (m0 : Mem) (f c' : Addr) (cl : List (Str × Addr)), Room k (A.deeper (envF (lamNF (X.env.qual ++ "<lambda>") params scope cl c') f s.heap.objs.size)) → JE (ncx (L2N.CX X.prog X.w) X.prog X.w X.K X.mg X.base (y :: fr) (lamNF (X.env.qual ++ "<lambda>") params scope cl c') f A outer s H fun _ _ _ => False) ⟨X.prog, F0, H, m0, B.T⟩ body tk) :
    Hands (cxOf (L2N.CX X.prog X.w) X.prog X.w X.K X.mg X.base N qual sg g cdg X.A X.stack s H E) ⟨X.prog, F, H, m, B.T⟩ a i f (fun p m2 Q => tk (lamP js ρ p) m2 Q xBot) := by
  intro e te p1 p2 he hse
  refine ⟨fun R tkR pinsZ sZ σZ FZ HZ ρZ mZ Q IZ stZ h => ?_⟩
  obtain ⟨hat, ht⟩ := h
  obtain ⟨vf, hs, rf⟩ := stZ.val i _ (at_get hat)
  cases rf
  refine wpAny_Call_Name_kw (thn ((pe_var (pos := p1) (i := i) hN hv hd hcd).run pinsZ sZ σZ HZ (fun v H1 => v = .ref f ∧ H1 = HZ) IZ ⟨.ref f, hs, rfl, rfl⟩) fun u s1 ⟨v, H1, I1, r1, ev, eH⟩ => ?_)
  subst ev
  rw [eH] at I1
  obtain rfl : u = Value.ref f := r1
  have fnat : ∀ {s2 : Shared} {H2 : Hp}, Inv (cxOf (L2N.CX X.prog X.w) X.prog X.w X.K X.mg X.base N qual sg g cdg X.A X.stack s H E) pinsZ σZ H2 s2 → s2.heap.get? f = some (PySem.W.kla_obj "<lambda>" (X.env.qual ++ "<lambda>") params body scope (cloFrom X.env.cells scope.names []) pm c' ctv) := fun {s2 H2} I2 =>
    I2.base.keep f _ hf hfn hfr (fun z => nomatch (show f ∈ ([] : List Addr) from z))
  refine PySem.W.callWith_F (first := []) ⟨_, _, _, _, fnat I1⟩ (thn ((ja_cons he ja_nil hse).run R tkR p2 pinsZ s1 σZ FZ HZ ρZ mZ (fun ps m2 => match ps with | [p] => tk (lamP js ρ p) m2 Q xBot | _ => False) I1 stZ ht) fun us s2 ⟨vs, ps, F2, H2, m2, I2, st2, ex2, rv, rp, hl2, hq⟩ => ⟨⟨_, _, _, _, fnat I2⟩, ?_⟩) hse (by rfl)
  obtain ⟨p, rfl⟩ : ∃ p, ps = [p] := List.length_eq_one_iff.mp (show ps.length = 1 from hl2)
  obtain ⟨v, rfl, rp1⟩ := rep1 rp
  obtain ⟨u, rfl⟩ : ∃ u, us = [u] := List.length_eq_one_iff.mp (by rw [← rv.length]; rfl)
  have hq : tk (lamP js ρ p) m2 Q xBot := hq
  show wpAny _ _ (call (.ref f) [u]) _ _ _
  have of2 := fnat I2
  have hc2 : H2 c' = some (LamX.CodeO c' (X.env.qual ++ "<lambda>")) := code_keeps st hco st2.ext
  have e0 := I2.env0
  obtain ⟨⟨oc, vc, t0, hoc, hdc, hvc⟩, _, _⟩ := e0.hok c' _ hc2
  have C : CellsAt (cloFrom X.env.cells scope.names []) fr (js.map (slotAt σ)) s2.heap H2 := cells_un (cells_of I (Caps.made I.ok hfree (fun y hy => PySem.mem_of_lookup (S.frk y hy)) hjs)) I2.base
  have hfrl : (y :: fr).length = js.length + 1 := by
    have := congrArg List.length hjs
    simp only [List.length_map] at this
    simp [this]
  have rc : codeAny (model X.prog X.w) (X.A.deeper (envOfC qual sg s.heap.objs.size g cdg)) (.call (.ref f) ⟨[u], []⟩) (CR (L2N.CX X.prog X.w) (envOfC qual sg s.heap.objs.size g cdg :: X.stack) X.prog X.w H2 s2 (fun v H' => ∃ p F' m', GSt X.w X.K ⟨X.prog, F2, H2, m2, B.T⟩ F' H' m' ∧ Rep X.K F' v p ∧ Q p m') fun _ _ _ => False) s2 := by
    refine PySem.W.kla_callFunE hr.depth of2 rfl S.co S.gen rfl ⟨c', oc, vc, t0, rfl, hoc, hdc, hvc⟩ ?_
    rw [hbind]
    refine wpAny_pure (wpAny_newFunctionEnv S.nocell (fun z hz => ?_) (fun h₁ hns hsb => ⟨I2.nolimit.fresh _ hsb, ?_⟩) S.kind)
    · rw [List.mem_singleton.mp hz]
      exact S.par y List.mem_cons_self
    show codeAny _ _ (.expr body (envF (lamNF (X.env.qual ++ "<lambda>") params scope (cloFrom X.env.cells scope.names []) c') f s2.heap.objs.size)) _ _
    have kp : ∀ b o, s2.heap.get? b = some o → h₁.get? b = some o := fun b o e => hsb.extBut b o (Nat.ne_of_lt (Heap.lt_size e)) (Heap.get?_push_of_some _ e)
    have J := inv_startN (CX := L2N.CX X.prog X.w) (N := y :: fr) (ps := [y]) (F := lamNF (X.env.qual ++ "<lambda>") params scope (cloFrom X.env.cells scope.names []) c') (f := f) (E := fun _ _ _ => False) (tk := s2.toks + [(y, u)].length) S hr.hd e0 rfl (.cons (show L2.RelV v u from (match rv with | .cons r _ => r)) .nil) C hns kp
    have st0 : PSt X.w X.K ⟨X.prog, F2, H2, m2, B.T⟩ F2 (startF (y :: fr) [v] (js.map (slotAt σ))) H2 (lamP js ρ p) m2 := pst_lam st st2.ext.fz ⟨st2.sub, st2.nt, st2.mem, Ext.refl _ _ _, st2.tab⟩ rp1 hfrl
    have jb := hbody (X.A.deeper (envOfC qual sg s.heap.objs.size g cdg)) (envOfC qual sg s.heap.objs.size g cdg :: X.stack) s2 H2 F2 m2 f c' (cloFrom X.env.cells scope.names []) (hr.deeper _)
    refine PySem.W.kla_codeExpr (wpAny_mono (jb.run (fun _ => xBot) ((L2N.takes_of (E := fun _ _ _ => False) rfl rfl rfl rfl).imp fun c d σ' H' ⟨F', ρ', m', C, e1, e2, st', z⟩ => z.elim) [] _ _ F2 H2 _ m2 Q J st0 hq) (fun v s' hq => ?_) fun e s' hq => hq)
    obtain ⟨v', p, F', H', m', J, st', ex', rv, rp', q'⟩ := hq
    exact ⟨v', H', J.os, J.bare, J.base, J.hok, rv, p, F', m', st'.g, rp', q'⟩
  refine wpAny_call (codeAny_mono rc fun r s4 hq => ?_)
  cases r with
  | error er => exact (cxF' hq).elim
  | ok fl =>
    cases fl with
    | ret u =>
      obtain ⟨v4, H4, I4, r4, p4, F4, m4, g4, rp4, q4⟩ := I2.after hq
      exact ⟨v4, p4, F4, H4, m4, I4, GSt.pst st2 g4, ex2.trans g4.ext, r4, rp4, q4⟩
    | next => exact False.elim hq
    | brk => exact False.elim hq
    | cont => exact False.elim hq
end

/-! ### x(e, .., lambda y: body) -/
@[simp] def wCallF (SL : LT → Addr → SpP) (js : List Nat) (t : DA) (tk : DE) : DE := fun ρ m Q R => t ρ m (fun ps m1 => ∀ f : Addr, SL (fun p m2 Q2 => tk (lamP js ρ p) m2 Q2 xBot) f (ps ++ [.raw (.ref f)]) m1 Q xBot) R
theorem je_callF {X : Cx} {B : Bs} {x y : Str} {n k : Nat} {SL : LT → Addr → SpP} {fr : List Str} {js : List Nat} {params : Arguments} {body : PySem.Expr} {scope : Scope} {e : PySem.Expr} {es : List PySem.Expr} {t : DA} {tk : DE} {p pos : Pos} (C : CalF X.prog X.w X.K X.mg X.base B.T (k + 1) x n SL) (hP : B.P = X.prog)
    (hr : Room (k + 2) X.A) (S : NScope (y :: fr) [y] fr scope) (hfree : ∀ y ∈ scope.names, y.2 = .free → X.env.scope.names.lookup y.1 = some .cell ∨ X.env.scope.names.lookup y.1 = some .free) (hjs : js.map (fun j => X.N[j]?) = fr.map some)
    (hbind : ∀ (q : Str) (cl : List (Str × Addr)) (pm cv ctv u : Value), bindArgs (PySem.W.kla_fn "<lambda>" q params body scope cl pm cv ctv) ⟨[u], []⟩ = pure [(y, u)])
    (ha : JAF X B (X.env.qual ++ "<lambda>") params body scope (e :: es) t)
    (hbody : ∀ (A : Around) (outer : List Env) (s : Shared) (H F0 : Hp) (m0 : Mem) (f c' : Addr) (cl : List (Str × Addr)), Room k (A.deeper (envF (lamNF (X.env.qual ++ "<lambda>") params scope cl c') f s.heap.objs.size)) → JE (ncx (L2N.CX X.prog X.w) X.prog X.w X.K X.mg X.base (y :: fr) (lamNF (X.env.qual ++ "<lambda>") params scope cl c') f A outer s H fun _ _ _ => False) ⟨X.prog, F0, H, m0, B.T⟩ body tk)
    (hn : (e :: es).length = n := by rfl) (hg : Gl X x := by rfl) (hdb : (x == ("__debug__" : Str)) = false := by decide)
    (he : starEach (e :: es) X.env = (false, eval e X.env) :: starEach es X.env := by rfl) (hpl : (backTo pos (starEach es X.env)).any (·.1) = false := by rfl) :
    JE X B (.Call (.Name x p) (e :: es) [] pos) (wCallF SL js t tk) := by
  obtain ⟨g, fd, st, N, ps, a, i, FG, Sc, hpn, hNa, hva, hda, hcda, hm, hb, GF⟩ := C.ex
  have hk := FG.kp
  obtain ⟨oc, od, kV, doc, pmg, an, cdv, ct, osl, rfl, lk, hcg⟩ := FG.ex
  refine ⟨fun R tkR pins s σ F H ρ m Q I st0 h => ?_⟩
  refine wpAny_Call_Name_kw (ld_glob I hg hm ?_ hdb)
  refine PySem.W.callWith_K (h₀ := X.base) I.ok.mod.kin hk (thn (ha.run R tkR pos pins s σ F H ρ m _ I st0 h) fun us s1 ⟨vs, qs, us', F1, H1, m1, f, c', pm, ctv, eu, I1, st1, ex1, r1, rp1, hl, hf, hfn, hfr, hco, hq⟩ => ⟨I1.kIn, ?_⟩) he hpl
  subst eu
  have hSL := hq f
  have hlen : (qs ++ [PV.raw (.ref f)]).length = n := by rw [List.length_append, List.length_singleton, hl, hn]
  have hlv : (vs ++ [V.ref f]).length = ps.length := by rw [hpn, List.length_append, List.length_singleton, rp1.length, hl, hn]
  have rvals : Vals (vs ++ [V.ref f]) (us' ++ [Value.ref f]) := Vals.append r1 (.cons rfl .nil)
  have hlu : (us' ++ [Value.ref f]).length = ps.length := by rw [← rvals.length]; exact hlv
  have rps : RepAll X.K F1 (vs ++ [V.ref f]) (qs ++ [PV.raw (.ref f)]) := RepAll.append rp1 (.cons (.raw _) .nil)
  have rc : codeAny (model X.prog X.w) X.A (.call (.ref g) ⟨us' ++ [.ref f], []⟩) (CR (L2N.CX X.prog X.w) X.stack X.prog X.w H1 s1 (fun v H' => ∃ p F' m', GSt X.w X.K ⟨X.prog, F1, H1, m1, B.T⟩ F' H' m' ∧ Rep X.K F' v p ∧ Q p m') fun _ _ _ => False) s1 := by
    refine LamX.run_ofS (k := k + 1) (N := N) (ps := ps) lk hcg Sc hr I1.env0 (by have hbb := hb s1 (us' ++ [.ref f]) I1.kIn (by rw [List.append_nil]; exact hlu); rw [List.append_nil] at hbb; exact hbb) rvals hlv fun hr' => ?_
    have hands := hands_lam (N := N) (qual := x) (sg := defScope st) (g := g) (cdg := cdv) (i := i) (a := a) (E := fun _ _ _ => False) I1 st1 S hfree hjs hf hfn hfr hco hbind hr' hNa hva hda hcda hbody
    obtain ⟨tb, hj, hk2⟩ := GF.run cdv X.A X.stack s1 H1 F1 m1 (fun _ _ _ => False) f _ hr' hands
    have hw := hk2 _ m1 Q xBot hSL hlen
    have tk0 : L2N.Takes (cxOf (L2N.CX X.prog X.w) X.prog X.w X.K X.mg X.base N x (defScope st) g cdv X.A X.stack s1 H1 fun _ _ _ => False) (WR (cxOf (L2N.CX X.prog X.w) X.prog X.w X.K X.mg X.base N x (defScope st) g cdv X.A X.stack s1 H1 fun _ _ _ => False) ⟨X.prog, F1, H1, m1, B.T⟩ (fun _ => xBot)) :=
      (L2N.takes_of (E := fun _ _ _ => False) rfl rfl rfl rfl).imp fun c d σ' H' ⟨F', ρ', m', C, e1, e2, st', z⟩ => z.elim
    refine ⟨_, hj.pss tk0, F1, startP N (qs ++ [PV.raw (V.ref f)]), m1, _, rfl, pst_start (K := X.K) st1.sub st1.nt st1.mem st1.tab rps, hw, fun σ' F' H' ρ' m' st' _ q => ?_, fun v p F' H' m' g' r q => ?_, fun _ _ _ _ _ _ _ q => q.elim, fun _ _ _ _ _ _ _ q => q.elim⟩
    · exact ⟨.non, F', m', st'.g, .non, q⟩
    · exact ⟨p, F', m', g', r, q⟩
  refine wpAny_call (codeAny_mono rc fun r s2 hq => ?_)
  cases r with
  | error er => exact (cxF' hq).elim
  | ok fl =>
    cases fl with
    | ret u =>
      obtain ⟨v, H', I2, r2, p, F', m', g', rp, q⟩ := I1.after hq
      have g2 : GSt X.w X.K ⟨B.P, F1, H1, m1, B.T⟩ F' H' m' := by rw [hP]; exact g'
      exact ⟨v, p, F', H', m', I2, GSt.pst st1 g2, ex1.trans g'.ext, r2, rp, q⟩
    | next => exact False.elim hq
    | brk => exact False.elim hq
    | cont => exact False.elim hq
end PL


/-! PMm: lists of ints by their order; a def with a function parameter, as one that is called. -/
namespace PL
open PySem PySem.Spec PyProof.Rows L2 NdefX
theorem firstLt_mono {e r e' r' : Nat → Bool} {fin : Bool} : ∀ {l : List Nat}, (∀ j ∈ l, e j = e' j) → (∀ j ∈ l, r j = r' j) → SeqAt.firstLt e r fin l = SeqAt.firstLt e' r' fin l
  | [], _, _ => rfl
  | j :: t, he, hr => by
    unfold SeqAt.firstLt
    rw [he j List.mem_cons_self, hr j List.mem_cons_self, firstLt_mono (fun i hi => he i (List.mem_cons_of_mem _ hi)) fun i hi => hr i (List.mem_cons_of_mem _ hi)]
theorem firstLt_map {e r : Nat → Bool} {fin : Bool} (f : Nat → Nat) : ∀ {l : List Nat}, SeqAt.firstLt e r fin (l.map f) = SeqAt.firstLt (fun j => e (f j)) (fun j => r (f j)) fin l
  | [] => rfl
  | j :: t => by
    simp only [List.map_cons, SeqAt.firstLt]
    rw [firstLt_map f]
theorem firstLt_lex : ∀ (ns ms : List Int), SeqAt.firstLt (fun j => ns.getD j 0 == ms.getD j 0) (fun j => decide (ns.getD j 0 < ms.getD j 0)) (decide (ns.length < ms.length)) (List.range (min ns.length ms.length)) = HT.lexLt ns ms
  | [], [] => rfl
  | [], m :: ms => by simp [HT.lexLt, SeqAt.firstLt]
  | n :: ns, [] => by simp [HT.lexLt, SeqAt.firstLt]
  | n :: ns, m :: ms => by
    have ih := firstLt_lex ns ms
    rw [List.length_cons, List.length_cons, Nat.succ_min_succ, List.range_succ_eq_map, HT.lexLt_cons]
    have e1 : decide (ns.length + 1 < ms.length + 1) = decide (ns.length < ms.length) := by simp
    by_cases h : n = m
    · rw [if_pos h, SeqAt.firstLt_yes (by simpa using h), firstLt_map, e1]
      simpa using ih
    · rw [if_neg h, SeqAt.firstLt_no (by simpa using h)]
      rfl
theorem ints_at {us : List Value} {ns : List Int} (h : IntsAre us ns) : ∀ {j : Nat}, j < us.length → ∃ t, us[j]? = some (.int (ns.getD j 0) t) := by
  induction h with
  | nil => intro j hj; exact absurd hj (Nat.not_lt_zero _)
  | cons n t _ ih =>
    intro j hj
    cases j with
    | zero => exact ⟨t, rfl⟩
    | succ j =>
      obtain ⟨t, e⟩ := ih (j := j) (by simpa using hj)
      exact ⟨t, by simpa using e⟩
section
variable {X : Cx} {B : Bs}
theorem op_ltL (hu : X.A.units < cLine) : OpR X (compareOp .Lt) (fun x y H Q => ∃ a b ns ms, x = .ref a ∧ y = .ref b ∧ SqL X.K H a (ns.map V.int) ∧ SqL X.K H b (ms.map V.int) ∧ Q (.bl (HT.lexLt ns ms)) H) := by
  intro pins s σ H x y v u Q I rx ry h
  obtain ⟨a, b, ns, ms, rfl, rfl, ha, hb, q⟩ := h
  cases rx
  cases ry
  obtain ⟨its, r1, p1, _⟩ := I.list ha
  obtain ⟨its2, r2, p2, _⟩ := I.list hb
  have i1 : IntsAre its ns := intsAre_of r1
  have i2 : IntsAre its2 ms := intsAre_of r2
  have z1 : its.length = ns.length := i1.length
  have z2 : its2.length = ms.length := i2.length
  have el : ∀ {us : List Value} {js : List Int}, IntsAre us js → ∀ (j : Nat) (h : j < us.toArray.size), ∃ t, us.toArray[j] = .int (js.getD j 0) t := fun {us js} i j h => by
    have hj : j < us.length := by simpa using h
    obtain ⟨t, e⟩ := ints_at i hj
    refine ⟨t, ?_⟩
    rw [List.getElem?_eq_getElem hj] at e
    simpa using Option.some.inj e
  have key := SeqAt.RcLt.lists (A := X.A) (s := s) (e := fun j => ns.getD j 0 == ms.getD j 0) (r := fun j => decide (ns.getD j 0 < ms.getD j 0)) p1.isList p2.isList hu
    (fun j h1 h2 => by
      obtain ⟨t, e1⟩ := el i1 j h1
      obtain ⟨t', e2⟩ := el i2 j h2
      rw [e1, e2]
      exact SeqAt.EqAt.int_int _ _ _ _)
    (fun j h1 h2 _ => by
      obtain ⟨t, e1⟩ := el i1 j h1
      obtain ⟨t', e2⟩ := el i2 j h2
      rw [e1, e2]
      exact fun prog w E Q h => HT.rcLt_int _ _ _ _ _ _ prog w E Q h)
  have es : decide (its.toArray.size < its2.toArray.size) = decide (ns.length < ms.length) := by simp [z1, z2]
  have em : min its.toArray.size its2.toArray.size = min ns.length ms.length := by simp [z1, z2]
  rw [es, em, firstLt_lex] at key
  exact key X.prog X.w X.xe (EP X pins σ Q) ⟨.bl (HT.lexLt ns ms), H, I, rfl, q⟩
@[simp] def gLtL : G2 := fun p q Q => match p, q with
  | .lst xs, .lst ys => ∃ ns ms, intsOf xs = some ns ∧ intsOf ys = some ms ∧ Q (.bl (HT.lexLt ns ms))
  | _, _ => False
theorem o_ltL (hu : Rm X) : Op2 X (compareOp .Lt) gLtL := Op2.of (op_ltL (by unfold Rm at hu; omega)) fun B F H σ ρ m x y p q Q st rp rq hg => by
  unfold gLtL at hg
  split at hg
  · obtain ⟨ns, ms, e1, e2, hq⟩ := hg
    cases rp with
    | lst hF r =>
      cases rq with
      | lst hF2 r2 =>
        obtain rfl := intsOf_rep r e1
        obtain rfl := intsOf_rep r2 e2
        exact ⟨_, _, ns, ms, rfl, rfl, SqL.of (st.sub _ _ hF), SqL.of (st.sub _ _ hF2), epq_now st (.bl _) hq⟩
  · exact hg.elim
end
theorem lexLt_irr : ∀ ns : List Int, HT.lexLt ns ns = false
  | [] => rfl
  | n :: ns => by rw [HT.lexLt_cons, if_pos rfl]; exact lexLt_irr ns
/-- a def with a function parameter, as one that is called -/
theorem calF_of {P : Program} {w : World} {K : PySem.W.Frag} {mg : Str → Option Value} {base : Heap} {T : List (Addr × Str)} {k i : Nat} {x a : Str} {SL : LT → Addr → SpP} {g : Addr} {fd : FuncData} {st : Stmt} {N ps : List Str} (F : Fun K x x st g fd) (Sc : FnScope N ps (defScope st)) (GF : FnF P w K mg base T k g x st N ps.length a i SL) (hm : mg x = some (.ref g))
    (hb : Binds K fd ps []) (hN : N[i]? = some a := by rfl) (hv : Vis (defScope st) a := by first | exact Or.inl rfl | exact Or.inr (Or.inl rfl) | exact Or.inr (Or.inr rfl)) (hd : (a == ("__debug__" : Str)) = false := by decide) (hcd : (a == ("__classdict__" : Str)) = false := by decide) : CalF P w K mg base T k x ps.length SL :=
  ⟨g, fd, st, N, ps, a, i, F, Sc, rfl, hN, hv, hd, hcd, hm, hb, GF⟩
end PL


/-! PMn: walks over a mapped list. -/
namespace PL
open PySem PySem.Spec PyProof.Rows L2
theorem compW_mapA {α : Type} {g : DG} {c : DT} {t : DE} {ρw : PEnv} {Q : List PV → Mem → Prop} {m : Mem} (φ f : α → PV) : ∀ (l : List α) (acc : List PV),
    (∀ a ∈ l, ∀ (N : List PV → Mem → Prop) (acc : List PV), N (acc ++ [f a]) m → g (φ a) ρw fun ρ2 => c ρ2 m (fun b m3 => match b with
      | true => t ρ2 m3 (fun y m4 => N (acc ++ [y]) m4) xBot
      | false => N acc m3) xBot) → Q (acc ++ l.map f) m → compW g c t ρw (l.map φ) acc m Q
  | [], acc, _, h => by simpa [compW] using h
  | a :: l, acc, hs, h => by
    refine hs a List.mem_cons_self (fun acc m => compW g c t ρw (l.map φ) acc m Q) acc ?_
    refine compW_mapA φ f l _ (fun b hb => hs b (List.mem_cons_of_mem _ hb)) ?_
    rw [List.append_assoc]
    exact h
theorem forW_app {α β : Type} {g : DG} {tb : DS} {D : PEnds} {m : Mem} (mk : List PV → β → PEnv) (φ : α → PV) (f : α → List PV) (B : Nat) : ∀ (l : List α) (acc : List PV) (b : β), acc.length + l.length ≤ B → (∀ x, (f x).length ≤ 1) →
    (∀ x ∈ l, ∀ (acc : List PV) (b : β) (N : PEnv → Mem → Prop), acc.length ≤ B → (∀ b', N (mk (acc ++ f x) b') m) → g (φ x) (mk acc b) fun ρ1 => tb ρ1 m { D with nx := N, ct := N, bk := D.nx }) →
    (∀ b', D.nx (mk (acc ++ l.flatMap f) b') m) → forW g tb (l.map φ) (mk acc b) m D
  | [], acc, b, _, _, _, h => by have := h b; rw [List.flatMap_nil, List.append_nil] at this; exact this
  | x :: xs, acc, b, hb, hf, hs, h => by
    simp only [List.length_cons] at hb
    refine hs x List.mem_cons_self acc b _ (by omega) fun b' => ?_
    refine forW_app mk φ f B xs _ b' (by have := hf x; rw [List.length_append]; omega) hf (fun y hy => hs y (List.mem_cons_of_mem _ hy)) fun b2 => ?_
    have := h b2
    rw [List.flatMap_cons, ← List.append_assoc] at this
    exact this
theorem peqs_self : ∀ {xs : List PV}, (∀ x ∈ xs, peq x x = true) → peqs xs xs = true
  | [], _ => by simp
  | x :: xs, h => by
    rw [peqs_cons, h x List.mem_cons_self, peqs_self fun y hy => h y (List.mem_cons_of_mem _ hy)]
    rfl
theorem ne_self {p : PV} {Q : PV → Prop} (h : peq p p = true) (o : okD p = true) (d : dep p ≤ 150) (k : Q (.bl false)) : gNe p p Q :=
  ⟨o, o, Nat.le_trans (Nat.min_le_left _ _) d, by rw [h]; exact k⟩
theorem good_of {w : Int} {I : List Int} {p : Pr} (hok : p.ok w = true) (hd : p.depth ≤ 6) (hpl : p.parts.length ≤ 15) (hli : ∀ i ∈ p.li, i ∈ I) (hI : I.length ≤ 3) : p.good w = true := by
  have h3 : p.ints.length ≤ I.length := nodup_le (srtI_nodup _) fun i hi => hli i (mem_ints.mp hi)
  simp only [Pr.good, Bool.and_eq_true, decide_eq_true_eq]
  exact ⟨⟨⟨hok, hd⟩, hpl⟩, by omega⟩
end PL


/-! PMo: the first row where two truths lie so. Plain. -/
namespace PL
open PySem PySem.Spec PyProof.Rows L2
def tP : Option Bool → PV
  | none => .non
  | some b => .bl b
theorem okD_tP (t : Option Bool) : okD (tP t) = true := by cases t <;> rfl
theorem dep_tP (t : Option Bool) : dep (tP t) = 0 := by cases t <;> rfl
theorem peq_tP (t u : Option Bool) : peq (tP t) (tP u) = decide (t = u) := by
  rcases t with _ | _ | _ <;> rcases u with _ | _ | _ <;> rfl
def optRow (x : Option Row) : PV := match x with
  | some r => rowP r
  | none => .non
def CSok2 (p q : Pr) (C : List Nat) (S : List Int) : Prop := C.Pairwise (· < ·) ∧ C.length ≤ 3 ∧ S.Pairwise (· < ·) ∧ S.length ≤ 9 ∧ (∀ i, i ∈ C ↔ (i ∈ p.cols ∨ i ∈ q.cols)) ∧ ∀ i, i ∈ S ↔ (i ∈ p.li ∨ i ∈ q.li)
/-- of the right form, not too deep, of few integers -/
def Pr.fine (w : Int) (p : Pr) : Bool := p.ok w && decide (p.depth ≤ 6) && decide (p.ints.length ≤ 3)
theorem fine_ok {w : Int} {p : Pr} (h : p.fine w = true) : p.ok w = true ∧ p.depth ≤ 6 ∧ p.ints.length ≤ 3 := by
  simp only [Pr.fine, Bool.and_eq_true, decide_eq_true_eq] at h
  exact ⟨h.1.1, h.1.2, h.2⟩
theorem good_fine {w : Int} {p : Pr} (h : p.good w = true) : p.fine w = true := by
  simp only [Pr.good, Pr.fine, Bool.and_eq_true, decide_eq_true_eq] at h ⊢
  exact ⟨h.1.1, h.2⟩
/-- the first of the program's rows where two truths lie so -/
def S_apart (G : Int → Pr → Bool) (hh : Option Bool → Option Bool → Bool) : SpP := fun ps m Q R => match ps with
  | [.int w, p, q] => ∃ p1 p2 : Pr, p = prP p1 ∧ q = prP p2 ∧ 1 ≤ w ∧ w ≤ 3 ∧ G w p1 = true ∧ G w p2 = true ∧ ∀ (C : List Nat) (S : List Int), CSok2 p1 p2 C S → Q (optRow ((progRows w.toNat (max 1 C.length) C S).find? fun r => hh (p1.ev r) (p2.ev r))) m
  | _ => False
def hNe (a b : Option Bool) : Bool := !decide (a = b)
def hTr (a b : Option Bool) : Bool := !(decide (a = some true) == decide (b = some true))
def hFa (a b : Option Bool) : Bool := !(decide (a = some false) == decide (b = some false))
def hUn (a b : Option Bool) : Bool := decide (b = some true) && !decide (a = some true)
theorem gNe_bb {a b : Bool} {Q : PV → Prop} (h : Q (.bl (!(a == b)))) : gNe (.bl a) (.bl b) Q := by
  simpa using h
theorem gEq_bb {a b : Bool} {Q : PV → Prop} (h : Q (.bl (a == b))) : gEq (.bl a) (.bl b) Q := by
  simpa using h
theorem gNe_lvl {a b : Option Bool} {Q : PV → Prop} (h : Q (.bl (hNe a b))) : gNe (.int (lvl a)) (.int (lvl b)) Q := by
  rcases a with _ | _ | _ <;> rcases b with _ | _ | _ <;> simpa (decide := true) [lvl, hNe] using h
theorem take_find {p : Row → Bool} {L : List Row} {j : Nat} {r : Row} (h0 : (L.take j).find? p = none) (hr : L[j]? = some r) (hp : p r = true) : L.find? p = some r := by
  obtain ⟨hj, e⟩ := List.getElem?_eq_some_iff.mp hr
  have : L = L.take j ++ r :: L.drop (j + 1) := by
    rw [← e, List.getElem_cons_drop, List.take_append_drop]
  rw [this, List.find?_append, h0, List.find?_cons, hp]
  rfl
theorem take_snoc {p : Row → Bool} {L : List Row} {j : Nat} {r : Row} (h0 : (L.take j).find? p = none) (hr : L[j]? = some r) (hp : p r = false) : (L.take (j + 1)).find? p = none := by
  rw [List.take_add_one, hr, Option.toList_some, List.find?_append, h0, List.find?_cons, hp]
  rfl
theorem strict_uniq {α : Type} {r : α → α → Prop} (irr : ∀ a, ¬ r a a) (tr : ∀ {a b c}, r a b → r b c → r a c) : ∀ {l m : List α}, l.Pairwise r → m.Pairwise r → (∀ x, x ∈ l ↔ x ∈ m) → l = m
  | [], [], _, _, _ => rfl
  | [], b :: m, _, _, h => nomatch (h b).mpr List.mem_cons_self
  | a :: l, [], _, _, h => nomatch (h a).mp List.mem_cons_self
  | a :: l, b :: m, h1, h2, h => by
    obtain ⟨a1, a2⟩ := List.pairwise_cons.mp h1
    obtain ⟨b1, b2⟩ := List.pairwise_cons.mp h2
    have e : a = b := by
      rcases List.mem_cons.mp ((h a).mp List.mem_cons_self) with e | e
      · exact e
      · rcases List.mem_cons.mp ((h b).mpr List.mem_cons_self) with e' | e'
        · exact e'.symm
        · exact absurd (tr (b1 a e) (a1 b e')) (irr b)
    subst e
    rw [strict_uniq irr tr a2 b2 fun x => ⟨fun hx => ?_, fun hx => ?_⟩]
    · rcases List.mem_cons.mp ((h x).mp (List.mem_cons_of_mem _ hx)) with rfl | q
      · exact absurd (a1 x hx) (irr x)
      · exact q
    · rcases List.mem_cons.mp ((h x).mpr (List.mem_cons_of_mem _ hx)) with rfl | q
      · exact absurd (b1 x hx) (irr x)
      · exact q
theorem CSok2.uniq {p q : Pr} {C C' : List Nat} {S S' : List Int} (h : CSok2 p q C S) (h' : CSok2 p q C' S') : C' = C ∧ S' = S :=
  ⟨strict_uniq (fun _ => Nat.lt_irrefl _) Nat.lt_trans h'.1 h.1 fun i => (h'.2.2.2.2.1 i).trans (h.2.2.2.2.1 i).symm, strict_uniq (fun _ => Int.lt_irrefl _) Int.lt_trans h'.2.2.1 h.2.2.1 fun i => (h'.2.2.2.2.2 i).trans (h.2.2.2.2.2 i).symm⟩
theorem gNe_tP {a b : Option Bool} {Q : PV → Prop} (h : Q (.bl (hNe a b))) : gNe (tP a) (tP b) Q := by
  rcases a with _ | _ | _ <;> rcases b with _ | _ | _ <;> simpa (decide := true) [tP, hNe] using h
theorem find_any {p : Row → Bool} {L : List Row} : (L.find? p).isSome = L.any p := by
  cases h : L.find? p with
  | none =>
    have := List.find?_eq_none.mp h
    exact (List.any_eq_false.mpr this).symm
  | some r => exact (List.any_eq_true.mpr ⟨r, List.mem_of_find?_eq_some h, List.find?_some h⟩).symm
theorem okDs_bls (bs : List Bool) : okDs (bs.map PV.bl) = true := by
  rw [okDs_all]
  intro x hx
  obtain ⟨b, _, rfl⟩ := List.mem_map.mp hx
  simp
theorem deps_bls (bs : List Bool) : deps (bs.map PV.bl) = 0 := by
  induction bs with
  | nil => rfl
  | cons b bs ih => simp [ih]
theorem hNe_comm (a b : Option Bool) : hNe a b = hNe b a := by unfold hNe; simp [eq_comm]
theorem cln_opt (x : Option Row) : cln (optRow x) = true := by cases x <;> simp [optRow, cln_row']
theorem okD_opt (x : Option Row) : okD (optRow x) = true := by cases x <;> simp [optRow, okD_row']
theorem dep_opt (x : Option Row) : dep (optRow x) ≤ 150 := by cases x <;> simp [optRow, dep_row']
theorem isnot_row {r : Row} {Q : PV → Prop} (k : Q (.bl true)) : gIs true (optRow (some r)) .non Q := k
theorem is_row {r : Row} {Q : PV → Prop} (k : Q (.bl false)) : gIs false (optRow (some r)) .non Q := k
theorem isnot_non {Q : PV → Prop} (k : Q (.bl false)) : gIs true (optRow none) .non Q := k
theorem is_non {Q : PV → Prop} (k : Q (.bl true)) : gIs false (optRow none) .non Q := k
theorem isN_opt {x : Option Row} {Q : PV → Prop} (k : Q (.bl x.isNone)) : noRaw (optRow x) ∧ gIs false (optRow x) .non Q := by
  cases x with
  | none => exact ⟨trivial, k⟩
  | some r => exact ⟨trivial, k⟩
theorem isnN_opt {x : Option Row} {Q : PV → Prop} (k : Q (.bl x.isSome)) : noRaw (optRow x) ∧ gIs true (optRow x) .non Q := by
  cases x with
  | none => exact ⟨trivial, k⟩
  | some r => exact ⟨trivial, k⟩
theorem andN_opt {x y : Option Row} {K : PV → Prop} (h : K (.bl (x.isNone && y.isNone))) : noRaw (optRow x) ∧ gIs false (optRow x) .non fun z => match z with
    | .bl b => (match b with
      | true => noRaw (optRow y) ∧ gIs false (optRow y) .non K
      | false => K (.bl false))
    | _ => False := by
  cases x with
  | none => cases y <;> exact ⟨trivial, trivial, h⟩
  | some r => exact ⟨trivial, h⟩
theorem gEq_lvlk {a t : Option Bool} {Q : PV → Prop} (h : Q (.bl (decide (a = t)))) : gEq (.int (lvl a)) (.int (lvl t)) Q := by
  rcases a with _ | _ | _ <;> rcases t with _ | _ | _ <;> simpa (decide := true) [lvl] using h
theorem gNe_lvlk {a t : Option Bool} {Q : PV → Prop} (h : Q (.bl (!decide (a = t)))) : gNe (.int (lvl a)) (.int (lvl t)) Q := by
  rcases a with _ | _ | _ <;> rcases t with _ | _ | _ <;> simpa (decide := true) [lvl] using h
theorem find_or {h f g : Row → Bool} : ∀ {L : List Row}, (∀ x ∈ L, h x = (f x || g x)) → (L.find? h).isNone = ((L.find? f).isNone && (L.find? g).isNone) ∧ ∀ r, L.find? h = some r → L.find? f = some r ∨ L.find? g = some r
  | [], _ => ⟨rfl, fun r z => nomatch z⟩
  | x :: L, hx => by
    have ih := find_or (h := h) (f := f) (g := g) (L := L) fun y hy => hx y (List.mem_cons_of_mem _ hy)
    have h0 := hx x List.mem_cons_self
    simp only [List.find?_cons]
    cases hf : f x with
    | true =>
      rw [hf] at h0
      have h1 : h x = true := by rw [h0]; rfl
      rw [h1]
      exact ⟨rfl, fun r z => .inl z⟩
    | false =>
      cases hg : g x with
      | true =>
        rw [hf, hg] at h0
        have h1 : h x = true := by rw [h0]; rfl
        rw [h1]
        exact ⟨by simp, fun r z => .inr z⟩
      | false =>
        rw [hf, hg] at h0
        have h1 : h x = false := by rw [h0]; rfl
        rw [h1]
        exact ih
theorem hTr_or (a b : Option Bool) : hTr a b = (hUn a b || hUn b a) := by rcases a with _ | _ | _ <;> rcases b with _ | _ | _ <;> rfl
theorem hNe_or (a b : Option Bool) : hNe a b = (hTr a b || hFa a b) := by rcases a with _ | _ | _ <;> rcases b with _ | _ | _ <;> rfl
end PL


/-! PMp: rewritings. Plain. -/
namespace PL
open PySem PySem.Spec PyProof.Rows L2
def optPr (x : Option Pr) : PV := match x with
  | some p => prP p
  | none => .non
abbrev ruleNames : List Str := ["excluded_middle", "contradiction", "reflexive", "irreflexive", "total", "cases", "drop_null", "double_not", "not_compare", "de_morgan", "not_in", "absorb", "twice"]
abbrev rulesP : PV := .tup (ruleNames.map PV.str)
def negPair (a b : Pr) : Bool := decide (b = .nott a) || decide (a = .nott b)
def isTot (a b : Pr) : Bool := match a, b with
  | .cmp o x y, .cmp o' x' y' => (decide (x = y') && decide (y = x')) && (decide (o = .lt ∧ o' = .le) || decide (o = .le ∧ o' = .lt))
  | _, _ => false
def casesOf (a b : Pr) : Option Pr := match a with
  | .bin false x y => if b = .bin false x (.nott y) then some x else none
  | _ => none
/-- the second is an and (an or, for k) with the first one ahead -/
def absorbs (k : Bool) (a b : Pr) : Bool := match b with
  | .bin o x _ => decide (o = k) && decide (x = a)
  | _ => false
def ofOr (a b : Pr) (r : Str) : Option Pr :=
  if (decide (r = "excluded_middle") && negPair a b) = true then some (.cst (some true))
  else if (decide (r = "total") && isTot a b) = true then some (.cst (some true))
  else if (decide (r = "cases") && (casesOf a b).isSome) = true then casesOf a b
  else if (decide (r = "absorb") && absorbs false a b) = true then some a
  else if (decide (r = "twice") && decide (a = b)) = true then some a else none
def ofAnd (a b : Pr) (r : Str) : Option Pr :=
  if (decide (r = "contradiction") && negPair a b) = true then some (.cst (some false))
  else if (decide (r = "absorb") && absorbs true a b) = true then some a
  else if (decide (r = "twice") && decide (a = b)) = true then some a else none
def ofCmp (o : Op4) (a b : Opd) (r : Str) : Option Pr :=
  if a ≠ b then none
  else if (decide (r = "reflexive") && (decide (o = .eq) || decide (o = .le))) = true then some (.cst (some true))
  else if (decide (r = "irreflexive") && (decide (o = .ne) || decide (o = .lt))) = true then some (.cst (some false)) else none
def ofNot (q : Pr) (r : Str) : Option Pr := match q with
  | .nott x => if r = "double_not" then some x else none
  | .cmp o a b => if r = "not_compare" then some (flipP o a b) else none
  | .bin or x y => if r = "de_morgan" then some (.bin (!or) (.nott x) (.nott y)) else none
  | .inn a l => if r = "not_in" then some (.qnt true .ne a l) else none
  | _ => none
def dropN (l : Row) : Row := l.filter fun x => x.isSome
def madeBy (p : Pr) (r : Str) : Option Pr := match p with
  | .bin true a b => ofOr a b r
  | .bin false a b => ofAnd a b r
  | .cmp o a b => ofCmp o a b r
  | .nott q => ofNot q r
  | .inn a l => if (decide (r = "drop_null") && decide (none ∈ l)) = true then some (.inn a (dropN l)) else none
  | _ => none
theorem peq_opdd (u v : Opd) : peq (opdP u) (opdP v) = decide (u = v) := by
  rw [Bool.eq_iff_iff, peq_iff (cln_opd' u) (cln_opd' v), decide_eq_true_eq]
  exact ⟨opd_inj, fun e => by rw [e]⟩
theorem str_gEq {a b : Str} {Q : PV → Prop} (ha : PyData.strOk a = true) (hb : PyData.strOk b = true) (h : Q (.bl (decide (a = b)))) : gEq (.str a) (.str b) Q := by
  refine ⟨by simpa using ha, by simpa using hb, Nat.zero_le _, ?_⟩
  rw [peq_ss, str_beq]
  exact h
@[simp] theorem ok_r0 : PyData.strOk ("excluded_middle" : Str) = true := by decide +kernel
@[simp] theorem ok_r1 : PyData.strOk ("contradiction" : Str) = true := by decide +kernel
@[simp] theorem ok_r2 : PyData.strOk ("reflexive" : Str) = true := by decide +kernel
@[simp] theorem ok_r3 : PyData.strOk ("irreflexive" : Str) = true := by decide +kernel
@[simp] theorem ok_r4 : PyData.strOk ("total" : Str) = true := by decide +kernel
@[simp] theorem ok_r5 : PyData.strOk ("cases" : Str) = true := by decide +kernel
@[simp] theorem ok_r6 : PyData.strOk ("drop_null" : Str) = true := by decide +kernel
@[simp] theorem ok_r7 : PyData.strOk ("double_not" : Str) = true := by decide +kernel
@[simp] theorem ok_r8 : PyData.strOk ("not_compare" : Str) = true := by decide +kernel
@[simp] theorem ok_r9 : PyData.strOk ("de_morgan" : Str) = true := by decide +kernel
@[simp] theorem ok_r10 : PyData.strOk ("not_in" : Str) = true := by decide +kernel
@[simp] theorem ok_r11 : PyData.strOk ("absorb" : Str) = true := by decide +kernel
@[simp] theorem ok_r12 : PyData.strOk ("twice" : Str) = true := by decide +kernel
theorem wordP (c : Pr) : ∃ xs, prP c = .tup (.str (prW c) :: xs) := by cases c <;> exact ⟨_, rfl⟩
theorem okS_word (c : Pr) : PyData.strOk (prW c) = true := by
  cases c with
  | cst t => simp [prW]
  | qnt al o a l => cases al <;> simp [prW]
  | bin or a b => cases or <;> simp [prW]
  | _ => simp [prW]
theorem word_bin {or : Bool} {c : Pr} (h : prW c = (if or then "or" else "and")) : ∃ x y, c = .bin or x y := by
  cases c with
  | bin o x y => cases o <;> cases or <;> first | exact ⟨_, _, rfl⟩ | (simp (decide := true) [prW] at h)
  | cst t => rcases t with _ | _ | _ <;> cases or <;> simp (decide := true) [prW, truthS] at h
  | qnt al o a l => cases al <;> cases or <;> simp (decide := true) [prW] at h
  | _ => cases or <;> simp (decide := true) [prW] at h
theorem cases_eq (a b : Pr) : ofOr a b "cases" = casesOf a b := by
  simp (decide := true) only [ofOr, decide_false, decide_true, Bool.false_and, Bool.true_and, Bool.false_eq_true, if_false]
  cases casesOf a b <;> simp (decide := true)
theorem absorb_or (a b : Pr) : ofOr a b "absorb" = if absorbs false a b = true then some a else none := by
  simp (decide := true) [ofOr]
theorem twice_or (a b : Pr) : ofOr a b "twice" = if a = b then some a else none := by
  simp (decide := true) [ofOr]
theorem absorb_and (a b : Pr) : ofAnd a b "absorb" = if absorbs true a b = true then some a else none := by
  simp (decide := true) [ofAnd]
theorem twice_and (a b : Pr) : ofAnd a b "twice" = if a = b then some a else none := by
  simp (decide := true) [ofAnd]
/-! ### what a rewriting keeps -/
theorem flip_li (o : Op4) (a b : Opd) : ∀ i, i ∈ (flipP o a b).li ↔ i ∈ (Pr.cmp o a b).li := by
  intro i
  cases o <;> simp [flipP, Pr.li, or_comm]
theorem casesOf_is {a b x : Pr} (h : casesOf a b = some x) : ∃ y, a = .bin false x y ∧ b = .bin false x (.nott y) := by
  unfold casesOf at h
  split at h
  · rename_i x' y
    split at h
    · rename_i e
      cases h
      exact ⟨y, rfl, e⟩
    · cases h
  · cases h
theorem absorbs_is {k : Bool} {a b : Pr} (h : absorbs k a b = true) : ∃ y, b = .bin k a y := by
  unfold absorbs at h
  split at h
  · rename_i o x y
    simp only [Bool.and_eq_true, decide_eq_true_eq] at h
    obtain ⟨rfl, rfl⟩ := h
    exact ⟨y, rfl⟩
  · cases h
/-- no greater but for a part more; no deeper; its integers are the part's -/
structure Lesser (w : Int) (q p : Pr) : Prop where
  ok : p.ok w = true → q.ok w = true
  dp : q.depth ≤ p.depth
  pl : q.parts.length ≤ p.parts.length + 1
  li : ∀ i ∈ q.li, i ∈ p.li
theorem Lesser.cst (w : Int) (t : Option Bool) (p : Pr) : Lesser w (.cst t) p := ⟨fun _ => rfl, depth_1 p, by simp [Pr.parts], fun i h => by simp [Pr.li] at h⟩
theorem Lesser.fst (w : Int) (or : Bool) (a b : Pr) : Lesser w a (.bin or a b) :=
  ⟨fun h => by simp only [Pr.ok, Bool.and_eq_true] at h; exact h.1, by simp only [Pr.depth]; omega, by simp only [Pr.parts, List.length_cons, List.length_append, List.length_map]; omega, fun i h => List.mem_append_left _ h⟩
theorem made_less {w : Int} {p q : Pr} {r : Str} (h : madeBy p r = some q) : Lesser w q p := by
  cases p with
  | cst t => cases h
  | qnt al o a l => cases h
  | nul a => cases h
  | iss t p => cases h
  | inn a l =>
    simp only [madeBy] at h
    split at h
    · cases h
      have hm : ∀ i, i ∈ rowI (dropN l) → i ∈ rowI l := fun i hi => by
        simp only [rowI, List.mem_filterMap, id_eq, dropN, List.mem_filter] at hi ⊢
        obtain ⟨x, ⟨h1, _⟩, h2⟩ := hi
        exact ⟨x, h1, h2⟩
      refine ⟨fun h => ?_, Nat.le_refl _, by simp [Pr.parts], fun i hi => ?_⟩
      · simp only [Pr.ok, lstOk, Bool.and_eq_true, decide_eq_true_eq, List.all_eq_true] at h ⊢
        exact ⟨h.1, Nat.le_trans (List.length_filter_le _ _) h.2.1, fun x hx => h.2.2 x (List.mem_filter.mp hx).1⟩
      · rcases List.mem_append.mp hi with z | z
        · exact List.mem_append_left _ z
        · exact List.mem_append_right _ (hm i z)
    · cases h
  | cmp o a b =>
    simp only [madeBy, ofCmp] at h
    split at h
    · cases h
    · split at h
      · cases h; exact Lesser.cst _ _ _
      · split at h
        · cases h; exact Lesser.cst _ _ _
        · cases h
  | bin or a b =>
    cases or with
    | true =>
      simp only [madeBy, ofOr] at h
      split at h
      · cases h; exact Lesser.cst _ _ _
      · split at h
        · cases h; exact Lesser.cst _ _ _
        · split at h
          · obtain ⟨y, rfl, rfl⟩ := casesOf_is h
            refine ⟨fun h => ?_, ?_, ?_, fun i hi => List.mem_append_left _ (List.mem_append_left _ hi)⟩
            · simp only [Pr.ok, Bool.and_eq_true] at h; exact h.1.1
            · simp only [Pr.depth]; omega
            · simp only [Pr.parts, List.length_cons, List.length_append, List.length_map]; omega
          · split at h
            · cases h; exact Lesser.fst _ _ _ _
            · split at h
              · cases h; exact Lesser.fst _ _ _ _
              · cases h
    | false =>
      simp only [madeBy, ofAnd] at h
      split at h
      · cases h; exact Lesser.cst _ _ _
      · split at h
        · cases h; exact Lesser.fst _ _ _ _
        · split at h
          · cases h; exact Lesser.fst _ _ _ _
          · cases h
  | nott q0 =>
    simp only [madeBy, ofNot] at h
    cases q0 with
    | nott x =>
      dsimp only at h
      split at h
      · cases h
        exact ⟨id, by simp only [Pr.depth]; omega, by simp only [Pr.parts, List.length_cons, List.length_map]; omega, fun i h => h⟩
      · cases h
    | cmp o a b =>
      dsimp only at h
      split at h
      · cases h
        refine ⟨fun h => ?_, by rw [flip_dp]; exact depth_1 _, by cases o <;> simp [flipP, Pr.parts], fun i hi => (flip_li o a b i).mp hi⟩
        simp only [Pr.ok, Bool.and_eq_true] at h
        exact flip_ok o h.1 h.2
      · cases h
    | bin or x y =>
      dsimp only at h
      split at h
      · cases h
        exact ⟨fun h => h, by simp only [Pr.depth]; omega, by simp only [Pr.parts, List.length_cons, List.length_append, List.length_map]; omega, fun i h => h⟩
      · cases h
    | inn a l =>
      dsimp only at h
      split at h
      · cases h
        exact ⟨fun h => h, by simp [Pr.depth], by simp [Pr.parts], fun i h => h⟩
      · cases h
    | _ => cases h
theorem put_less {w : Int} : ∀ {p : Pr} {l : List Int} {q v : Pr}, p.sub (l.map PV.int) = some q → Lesser w v q → Lesser w (p.put l v) p
  | p, [], q, v, h, hv => by
    have e : p = q := by cases p <;> simpa [Pr.sub] using h
    subst e
    cases p <;> simpa [Pr.put] using hv
  | .nott p, i :: l, q, v, h, hv => by
    simp only [List.map_cons, Pr.sub, Pr.kid] at h
    split at h
    · have ih := put_less (w := w) (p := p) (l := l) (by simpa using h) hv
      exact ⟨ih.ok, by simp only [Pr.put, Pr.depth]; have := ih.dp; omega, by simp only [Pr.put, Pr.parts, List.length_cons, List.length_map]; have := ih.pl; omega, ih.li⟩
    · simp at h
  | .iss t p, i :: l, q, v, h, hv => by
    simp only [List.map_cons, Pr.sub, Pr.kid] at h
    split at h
    · have ih := put_less (w := w) (p := p) (l := l) (by simpa using h) hv
      exact ⟨ih.ok, by simp only [Pr.put, Pr.depth]; have := ih.dp; omega, by simp only [Pr.put, Pr.parts, List.length_cons, List.length_map]; have := ih.pl; omega, ih.li⟩
    · simp at h
  | .bin or a b, i :: l, q, v, h, hv => by
    simp only [List.map_cons, Pr.sub, Pr.kid] at h
    simp only [Pr.put]
    split at h
    · rename_i hi
      rw [if_pos hi]
      have ih := put_less (w := w) (p := a) (l := l) (by simpa using h) hv
      refine ⟨fun h => ?_, by simp only [Pr.depth]; have := ih.dp; omega, by simp only [Pr.parts, List.length_cons, List.length_append, List.length_map]; have := ih.pl; omega, fun j hj => ?_⟩
      · simp only [Pr.ok, Bool.and_eq_true] at h ⊢; exact ⟨ih.ok h.1, h.2⟩
      · exact (List.mem_append.mp hj).elim (fun z => List.mem_append_left _ (ih.li j z)) (List.mem_append_right _)
    · rename_i hi
      rw [if_neg hi]
      split at h
      · have ih := put_less (w := w) (p := b) (l := l) (by simpa using h) hv
        refine ⟨fun h => ?_, by simp only [Pr.depth]; have := ih.dp; omega, by simp only [Pr.parts, List.length_cons, List.length_append, List.length_map]; have := ih.pl; omega, fun j hj => ?_⟩
        · simp only [Pr.ok, Bool.and_eq_true] at h ⊢; exact ⟨h.1, ih.ok h.2⟩
        · exact (List.mem_append.mp hj).elim (List.mem_append_left _) fun z => List.mem_append_right _ (ih.li j z)
      · simp at h
  | .cst _, _ :: _, _, _, h, _ => by simp [Pr.sub, Pr.kid] at h
  | .cmp _ _ _, _ :: _, _, _, h, _ => by simp [Pr.sub, Pr.kid] at h
  | .inn _ _, _ :: _, _, _, h, _ => by simp [Pr.sub, Pr.kid] at h
  | .qnt _ _ _ _, _ :: _, _, _, h, _ => by simp [Pr.sub, Pr.kid] at h
  | .nul _, _ :: _, _, _, h, _ => by simp [Pr.sub, Pr.kid] at h
/-! ### the pairs that apply -/
def appl (p : Pr) : List (List Int × Str) := p.parts.flatMap fun x => (ruleNames.filter fun r => (madeBy x.2 r).isSome).map fun r => (x.1, r)
theorem mem_appl {p : Pr} {l : List Int} {r : Str} (h : (l, r) ∈ appl p) : r ∈ ruleNames ∧ ∃ q v, p.sub (l.map PV.int) = some q ∧ madeBy q r = some v := by
  obtain ⟨x, hx, h2⟩ := List.mem_flatMap.mp h
  obtain ⟨r', h3, e⟩ := List.mem_map.mp h2
  cases e
  obtain ⟨h4, h5⟩ := List.mem_filter.mp h3
  obtain ⟨v, hv⟩ := Option.isSome_iff_exists.mp h5
  exact ⟨h4, x.2, v, parts_sub x hx, hv⟩
def pairR (x : List Int × Str) : PV := .tup [pathP x.1, .str x.2]
end PL


/-! PMq: lists that a def hands back as the caller's own. -/
namespace PL
open PySem PySem.Spec PyProof.Rows L2
def mdel (m : Mem) (a : Addr) : Mem := fun b => if b = a then none else m b
theorem mdel_same (m : Mem) (a : Addr) : mdel m a a = none := if_pos rfl
theorem mdel_none {m : Mem} {a b : Addr} (h : m b = none) : mdel m a b = none := by unfold mdel; split <;> first | rfl | exact h
theorem mdel_some {m : Mem} {a b : Addr} {c : MO} (h : mdel m a b = some c) : m b = some c := by unfold mdel at h; split at h <;> first | cases h | exact h
theorem mdel_mset {m : Mem} {a : Addr} {c : MO} (h : m a = none) : mdel (mset m a c) a = m := by
  funext b
  unfold mdel
  split
  · rename_i e; subst e; exact h.symm
  · rename_i e; exact mset_ne e
section
variable {w : World} {K : PySem.W.Frag} {B : Bs} {F H : Hp} {σ : L2.St} {ρ : PEnv} {m : Mem}
theorem Ext.mdel {F0 H0 : Hp} {m0 : Mem} (e : Ext F0 H0 m0 F H m) (a : Addr) : Ext F0 H0 m0 F H (PL.mdel m a) := ⟨e.fz, e.kp, e.ff, fun b u h n z => mdel_none (e.mf b u h n z), e.st⟩
theorem PSt.mdel (st : PSt w K B F σ H ρ m) (a : Addr) : PSt w K B F σ H ρ (PL.mdel m a) := by
  refine ⟨st.len, st.sub, st.nt, st.val, fun i o h => ?_, st.apart, fun b c h => st.mem b c (mdel_some h), st.ext.mdel a, st.tab⟩
  obtain ⟨D, h1, h2, h3, h4, h5⟩ := st.own i o h
  exact ⟨D, h1, h2, mdel_none h3, h4, h5⟩
/-- what is known of a slot is forgotten -/
theorem PSt.forget (j : Nat) (st : PSt w K B F σ H ρ m) : PSt w K B F σ H (PL.put ρ j none) m := by
  rw [put_set]
  have key : ∀ {i : Nat} {v : SV}, (ρ.set j none)[i]? = some (some v) → j ≠ i ∧ ρ[i]? = some (some v) := fun {i v} h => by
    by_cases hj : j = i
    · subst hj
      by_cases hi : j < ρ.length
      · rw [List.getElem?_set_self hi] at h; cases h
      · rw [List.getElem?_eq_none (by rw [List.length_set]; omega)] at h; cases h
    · exact ⟨hj, set_ne' hj h⟩
  exact ⟨by rw [List.length_set]; exact st.len, st.sub, st.nt, fun i q h => st.val i q (key h).2, fun i o h => st.own i o (key h).2, fun i k o o' a hik h1 h2 h3 => st.apart i k o o' a hik (key h1).2 (key h2).2 h3, st.mem, st.ext, st.tab⟩
end
section
variable {X : Cx} {B : Bs} {pos : Pos}
/-! ### new lists -/
@[simp] def wCatN (ta tb : DE) : DA := fun ρ m Q R => ta ρ m (fun x m1 => tb ρ m1 (fun y m2 => match x, y with
  | .lst xs, .lst ys => xs.length + ys.length ≤ 1000000 ∧ Q (xs ++ ys) m2
  | _, _ => False) R) R
theorem jn_cat {a b : PySem.Expr} {ta tb : DE} (ha : JE X B a ta) (hb : JE X B b tb) : JN X B (.BinOp a .Add b pos) (wCatN ta tb) := by
  refine ⟨fun R tk pins s σ F H ρ m Q I st h => ?_⟩
  refine wpAny_BinOp (bin2 ha hb tk I st h fun v u s2 x y p q F2 H2 m2 I2 st2 ex rx ry rp rq g2 => ?_)
  split at g2
  · rename_i xs ys
    obtain ⟨hz, hq⟩ := g2
    cases rp with
    | lst h1 r1 =>
      cases rq with
      | lst h2 r2 =>
        rename_i a1 vs1 a2 vs2
        refine thn (op_cat pins s2 σ H2 _ _ v u (fun v' H' => ∃ D, v' = .ref D ∧ H2 D = none ∧ H' = L2.upd H2 D (.lst (vs1 ++ vs2))) I2 rx ry ⟨_, _, _, _, rfl, rfl, st2.sub _ _ h1, st2.sub _ _ h2, by rw [r1.length, r2.length]; exact line6 hz, fun D hD => ⟨D, rfl, hD, rfl⟩⟩) fun u3 s3 ⟨v', H', I3, r3, D, e1, hD, e2⟩ => ?_
        subst e1 e2
        obtain rfl : u3 = Value.ref D := r3
        exact ⟨D, vs1 ++ vs2, xs ++ ys, F2, _, m2, rfl, I3, st2.newH hD, ex.trans (Ext.newH st2.sub hD), ⟨st2.sub.free hD, st2.mem_none hD, st2.ext.free hD, ⟨_, upd_same, lst_nt⟩, st2.own_ne hD⟩, upd_same, r1.append r2, hq⟩
  · exact g2.elim
/-- a call hands back a list that is held by nobody else -/
@[simp] def wCallN (te : DE) : DA := fun ρ m Q R => te ρ m (fun p m' => ∃ a xs, p = .raw (.ref a) ∧ m a = none ∧ m' a = some (.lst xs) ∧ Q xs (mdel m' a)) R
theorem jn_call {e : PySem.Expr} {te : DE} (he : JE X B e te) : JN X B e (wCallN te) := by
  refine ⟨fun R tk pins s σ F H ρ m Q I st h => ?_⟩
  refine thn (he.run R tk pins s σ F H ρ m _ I st h) fun u s1 ⟨v, p, F1, H1, m1, I1, st1, ex1, r1, rp1, hq⟩ => ?_
  obtain ⟨a, xs, rfl, hm, hm1, q⟩ := hq
  cases rp1
  obtain rfl : u = Value.ref a := r1
  obtain ⟨hF, vs, hH, rp⟩ := st1.mem a _ hm1
  have hno : NoB H a := fun u0 e n => by
    have := ex1.mf a u0 e n hm
    rw [hm1] at this
    cases this
  have hnB : NoB B.H a := fun u0 e n => by
    obtain ⟨u1, e1, n1⟩ := st.ext.st a u0 e n
    exact hno u1 e1 n1
  refine ⟨a, vs, xs, F1, H1, mdel m1 a, rfl, I1, st1.mdel a, ex1.mdel a, ⟨hF, mdel_same _ _, hnB, ⟨_, hH, lst_nt⟩, fun i o e z => ?_⟩, hH, rp, q⟩
  obtain ⟨D, h1, _, h3, _⟩ := st1.own i o e
  rw [h1] at z
  cases z
  rw [hm1] at h3
  cases h3
@[simp] def wIfN (t : DT) (ta tb : DA) : DA := fun ρ m Q R => t ρ m (fun c m1 => match c with | true => ta ρ m1 Q R | false => tb ρ m1 Q R) R
theorem jn_if {c a b : PySem.Expr} {tc : DT} {ta tb : DA} (hc : JT X B c tc) (ha : JN X B a ta) (hb : JN X B b tb) : JN X B (.IfExp c a b pos) (wIfN tc ta tb) := by
  refine ⟨fun R tk pins s σ F H ρ m Q I st h => ?_⟩
  refine wpAny_IfExp (thn (hc.run R tk pins s σ F H ρ m _ I st h) fun d s1 ⟨F1, H1, m1, I1, st1, ex1, q1⟩ => ?_)
  cases d with
  | true => exact thn (ha.run R tk pins s1 σ F1 H1 ρ m1 Q I1 st1 q1) fun u s2 ⟨D, vs, ps, F2, H2, m2, e, I2, st2, ex2, r⟩ => ⟨D, vs, ps, F2, H2, m2, e, I2, st2, ex1.trans ex2, r⟩
  | false => exact thn (hb.run R tk pins s1 σ F1 H1 ρ m1 Q I1 st1 q1) fun u s2 ⟨D, vs, ps, F2, H2, m2, e, I2, st2, ex2, r⟩ => ⟨D, vs, ps, F2, H2, m2, e, I2, st2, ex1.trans ex2, r⟩
/-! ### handed on, handed back -/
/-- x = y, y a list of one's own: x's from now on -/
@[simp] def wMove (i j : Nat) : DS := fun ρ m D => match at' ρ j with
  | some (.own (.lst xs)) => D.nx (put (put ρ j none) i (some (.own (.lst xs)))) m
  | _ => False
theorem js_move {x y : Str} {p pos' : Pos} (i j : Nat) (hN : X.N.Nodup) (hi : X.N[i]? = some x := by rfl) (hj : X.N[j]? = some y := by rfl) (hv : Vis X.env.scope y := by first | exact Or.inl rfl | exact Or.inr (Or.inl rfl) | exact Or.inr (Or.inr rfl)) (hx : Loc X.env.scope x := by first | exact Or.inl rfl | exact Or.inr rfl)
    (hd : (y == ("__debug__" : Str)) = false := by decide) (hcd : (y == ("__classdict__" : Str)) = false := by decide) (hs : swapsWith (.Name y p) (some (.Name x pos')) pos.line X.env = pure false := by rfl) (hf : X.fn x = true ∨ X.env.scope.names.lookup x = some .local := by first | exact .inl rfl | exact .inr rfl | assumption) :
    JS X B (.Assign [.Name x pos'] (.Name y p) pos) (wMove i j) := by
  refine ⟨fun D tk pins s σ F H ρ m I st h => ?_⟩
  unfold wMove at h
  split at h
  · rename_i xs ho
    obtain ⟨a, h1, h2, h3, h4, vs, hH, rp⟩ := st.own j _ (at_get ho)
    refine wpAny_Assign_Name (thn ((pe_var (pos := p) (i := j) hj hv hd hcd).run pins s σ H (fun v H1 => v = .ref a ∧ H1 = H) I ⟨.ref a, h1, rfl, rfl⟩) fun u s1 ⟨v, H1, I1, r1, ev, eH⟩ => ?_) hs
    subst ev
    rw [eH] at I1
    obtain rfl : u = Value.ref a := r1
    refine store_ok (v := .ref a) I1 hN hi hx rfl (fun s2 I2 => ⟨_, F, H, _, m, I2, (st.forget j).putOwn (o := .lst xs) (slot_lt (w := X.w) (K := X.K) I1 hi) ⟨h2, h3, h4, ⟨_, hH, lst_nt⟩, fun k o e z => ?_⟩ ⟨vs, hH, rp⟩, Same.refl F, h⟩) hf
    rw [put_set] at e
    have hjk : j ≠ k := by
      rintro rfl
      rw [List.getElem?_set_self (by rw [st.len]; exact (List.getElem?_eq_some_iff.mp h1).1)] at e
      cases e
    exact st.apart j k _ o a hjk (at_get ho) (set_ne' hjk e) h1 z
  · exact h.elim
/-- return x, x a list of one's own -/
@[simp] def wRetO (i : Nat) : DS := fun ρ m D => match at' ρ i with
  | some (.own (.lst xs)) => ∀ a : Addr, m a = none → D.rt (.raw (.ref a)) (mset m a (.lst xs))
  | _ => False
theorem js_retO {x : Str} {p : Pos} (i : Nat) (hi : X.N[i]? = some x := by rfl) (hv : Vis X.env.scope x := by first | exact Or.inl rfl | exact Or.inr (Or.inl rfl) | exact Or.inr (Or.inr rfl)) (hd : (x == ("__debug__" : Str)) = false := by decide) (hcd : (x == ("__classdict__" : Str)) = false := by decide) :
    JS X B (.Return (some (.Name x p)) pos) (wRetO i) := by
  refine ⟨fun D tk pins s σ F H ρ m I st h => ?_⟩
  unfold wRetO at h
  split at h
  · rename_i xs ho
    obtain ⟨a, h1, h2, h3, h4, vs, hH, rp⟩ := st.own i _ (at_get ho)
    refine wpAny_Return_some (thn ((pe_var (pos := p) (i := i) hi hv hd hcd).run pins s σ H (fun v H1 => v = .ref a ∧ H1 = H) I ⟨.ref a, h1, rfl, rfl⟩) fun u s1 ⟨v, H1, I1, r1, ev, eH⟩ => ?_)
    subst ev
    rw [eH] at I1
    refine ⟨.ref a, .raw (.ref a), σ, F, H, mset m a (.lst xs), I1, ⟨st.sub, st.nt, fun b c e => ?_, ⟨st.ext.fz, st.ext.kp, st.ext.ff, fun b u' e n z => ?_, st.ext.st⟩, st.tab⟩, r1, .raw _, h a h3⟩
    · by_cases hb : b = a
      · subst hb
        rw [mset_same] at e
        cases e
        exact ⟨h2, vs, hH, rp⟩
      · rw [mset_ne hb] at e
        exact st.mem b c e
    · by_cases hb : b = a
      · subst hb
        exact absurd n (h4 u' e)
      · rw [mset_ne hb]
        exact st.ext.mf b u' e n z
  · exact h.elim
end
end PL
namespace PL
open PySem PySem.Spec PyProof.Rows L2
/-- .. if it is one -/
@[simp] def wFrzQ (i : Nat) (u : DS) : DS := fun ρ m D => match at' ρ i with
  | some (.own (.lst xs)) => u (put ρ i (some (.val (.lst xs)))) m D
  | _ => u ρ m D
theorem jb_frzQ {X : Cx} {B : Bs} {sts : List Stmt} {u : DS} (i : Nat) (h2 : JB X B sts u) : JB X B sts (wFrzQ i u) := by
  refine ⟨fun D tk pins s σ F H ρ m I st h => ?_⟩
  unfold wFrzQ at h
  split at h
  · rename_i xs ho
    refine (jb_frz i h2).run D tk pins s σ F H ρ m I st ?_
    unfold wFrz
    rw [ho]
    exact h
  · exact h2.run D tk pins s σ F H ρ m I st h
theorem opd_at {a : Opd} {r : Row} {i : Int} (h : a.ok (r.length : Int) = true) (e : a = .col i) : 0 ≤ i ∧ i < r.length := by
  subst e
  simp only [Opd.ok, Bool.and_eq_true, decide_eq_true_eq] at h
  omega
theorem atI_row {r : Row} {i : Int} (h : 0 ≤ i ∧ i < r.length) : atI (r.map oP) i = some (oP (r.getD i.toNat none)) := by
  rw [atI_pos h.1 (by rw [List.length_map]; exact h.2), List.getElem?_map, List.getD_eq_getElem?_getD, List.getElem?_eq_getElem (by omega)]
  rfl
theorem rng_get {n j : Nat} {x : PV} (h : (rngP 0 n)[j]? = some x) : x = .int j ∧ j < n := by
  simp only [rngP, List.getElem?_map] at h
  cases e : (List.range n)[j]? with
  | none => rw [e] at h; cases h
  | some k =>
    rw [e] at h
    obtain ⟨h1, h2⟩ := List.getElem?_eq_some_iff.mp e
    rw [List.length_range] at h1
    rw [List.getElem_range] at h2
    subst h2
    cases h
    exact ⟨by simp, h1⟩
end PL


namespace PL
open PySem PySem.Spec PyProof.Rows L2
def top (i : Nat) : Stmt := PySem.Challenge.pw_nullfilters_k11_whole_pushed.main.body.getD i (.Pass ⟨0, 0, 0, 0⟩)
section
variable {P : Program} {w : World} {K : PySem.W.Frag} {mg : Str → Option Value} {base : Heap} {T : List (Addr × Str)} {C_FilterError C_InvalidWidth C_InvalidPredicate : Addr}
abbrev s_is_whole : Stmt := top 7
theorem sc_is_whole : FnScope ["value", "low", "high"] ["value", "low", "high"] (defScope s_is_whole) := ⟨rfl, rfl, rfl, by decide +kernel, rfl, by decide +kernel, by decide +kernel⟩
@[simp] def S_is_whole : SpP := fun ps m Q R => match ps with
  | [p, .int lo, .int hi] => noRaw p ∧ Q (.bl (isWhole p lo hi)) m
  | _ => False
theorem ok_is_whole {f : Addr} {fd : FuncData} (F : Fun K "is_whole" "is_whole" s_is_whole f fd) (bn : BN mg)  :
    FnOk P w K mg base (L2N.CX P w) 1 f fd ["value", "low", "high"] (spOf w K T 3 S_is_whole) := by
  have sc := sc_is_whole
  refine fn_ok F sc fun cdv A outer s H H0 F0 m0 E hr => ⟨_, (jb_one (js_ret (je_and (je_isi isT_int (bn _ (by decide)) (bn _ (by decide)) (je_var 0)) (je_and (je_not (je_isi isT_bool (bn _ (by decide)) (bn _ (by decide)) (je_var 0))) (je_one (je_chain o_le o_le (je_var 1) (je_var 0) (je_var 2))))))), ?_⟩
  intro qs m Q R h hl; clear hl
  unfold S_is_whole at h
  split at h
  · rename_i p lo hi
    obtain ⟨hp, h⟩ := h
    cases p with
    | raw v => exact hp.elim
    | int i =>
      simp
      by_cases h1 : lo ≤ i <;> by_cases h2 : i ≤ hi <;> simpa [isWhole, h1, h2] using h
    | _ => simpa [isWhole] using h
  · exact h.elim
abbrev s_need_width : Stmt := top 8
theorem sc_need_width : FnScope ["width"] ["width"] (defScope s_need_width) := ⟨rfl, rfl, rfl, by decide +kernel, rfl, by decide +kernel, by decide +kernel⟩
@[simp] def S_need_width (IW : Addr) : SpP := fun ps m Q R => match ps with
  | [p] => noRaw p ∧ (isWhole p 1 3 = true → Q .non m) ∧ (isWhole p 1 3 = false → R IW m)
  | _ => False
theorem ok_need_width {f : Addr} {fd : FuncData} (F : Fun K "need_width" "need_width" s_need_width f fd) (bn : BN mg) (d_is_whole : CalM P w K mg base T 1 "is_whole" 3 S_is_whole) (x_InvalidWidth : ExcP K mg "InvalidWidth" C_InvalidWidth) :
    FnOk P w K mg base (L2N.CX P w) 2 f fd ["width"] (spOf w K T 1 (S_need_width C_InvalidWidth)) := by
  have sc := sc_need_width
  refine fn_ok F sc fun cdv A outer s H H0 F0 m0 E hr => ⟨_, (jb_one (js_if (jt_not (jt_val (je_call d_is_whole (hr.mono (by decide)) (ja_cons (je_var 0) (ja_cons je_int (ja_cons je_int ja_nil)))))) (jb_one (js_raise x_InvalidWidth rfl)) jb_nil)), ?_⟩
  intro qs m Q R h hl; clear hl
  unfold S_need_width at h
  split at h
  · rename_i p
    obtain ⟨hp, h1, h2⟩ := h
    cases e : isWhole p 1 3 with
    | true => simpa [e] using ⟨hp, h1 e⟩
    | false => simpa [e] using ⟨hp, h2 e⟩
  · exact h.elim
-- no template: is_value
-- no template: need_row
abbrev s_is_literal : Stmt := top 9
theorem sc_is_literal : FnScope ["value"] ["value"] (defScope s_is_literal) := ⟨rfl, rfl, rfl, by decide +kernel, rfl, by decide +kernel, by decide +kernel⟩
@[simp] def S_is_literal : SpP := fun ps m Q R => match ps with
  | [p] => noRaw p ∧ Q (.bl (isLit p)) m
  | _ => False
theorem ok_is_literal {f : Addr} {fd : FuncData} (F : Fun K "is_literal" "is_literal" s_is_literal f fd) (bn : BN mg) (d_is_whole : CalM P w K mg base T 1 "is_whole" 3 S_is_whole) :
    FnOk P w K mg base (L2N.CX P w) 2 f fd ["value"] (spOf w K T 1 S_is_literal) := by
  have sc := sc_is_literal
  refine fn_ok F sc fun cdv A outer s H H0 F0 m0 E hr => ⟨_, (jb_one (js_ret (je_or (je_cmp o_is (je_var 0) je_non) (je_one (je_call d_is_whole (hr.mono (by decide)) (ja_cons (je_var 0) (ja_cons (je_neg je_int) (ja_cons je_int ja_nil)))))))), ?_⟩
  intro qs m Q R h hl; clear hl
  unfold S_is_literal at h
  split at h
  · rename_i p
    obtain ⟨hp, h⟩ := h
    cases p with
    | raw v => exact hp.elim
    | non => simpa [isLit] using h
    | _ => simpa [isLit] using h
  · exact h.elim
abbrev s_is_operand : Stmt := top 10
theorem sc_is_operand : FnScope ["width", "value"] ["width", "value"] (defScope s_is_operand) := ⟨rfl, rfl, rfl, by decide +kernel, rfl, by decide +kernel, by decide +kernel⟩
@[simp] def S_is_operand : SpP := fun ps m Q R => match ps with
  | [.int w, p] => okD p = true ∧ Q (.bl (isOpd w p)) m
  | _ => False
theorem ok_is_operand {f : Addr} {fd : FuncData} (F : Fun K "is_operand" "is_operand" s_is_operand f fd) (bn : BN mg) (d_is_whole : CalM P w K mg base T 1 "is_whole" 3 S_is_whole) (d_is_literal : CalM P w K mg base T 2 "is_literal" 1 S_is_literal) :
    FnOk P w K mg base (L2N.CX P w) 3 f fd ["width", "value"] (spOf w K T 2 S_is_operand) := by
  have sc := sc_is_operand
  refine fn_ok F sc fun cdv A outer s H H0 F0 m0 E hr => ⟨_, (jb_cons (js_if (JW.jt (jw_or (jt_not (jt_val (je_isi isT_tup (bn _ (by decide)) (bn _ (by decide)) (je_var 1)))) (jw_or (jt_cmp (o_ne (rm_of hr)) (je_callB c_len (bn _ (by decide)) (ja_cons (je_var 1) ja_nil)) je_int) (jw_or1 (jt_not (jt_val (je_isi isT_str (bn _ (by decide)) (bn _ (by decide)) (je_ix (je_var 1) je_int)))))))) (jb_one (js_ret je_bl)) jb_nil)
  (jb_cons (js_if (jt_cmp (o_eq (rm_of hr)) (je_ix (je_var 1) je_int) je_str) (jb_one (js_ret (je_call d_is_whole (hr.mono (by decide)) (ja_cons (je_ix (je_var 1) je_int) (ja_cons je_int (ja_cons (je_op o_sub (je_var 0) je_int) ja_nil)))))) jb_nil)
  (jb_one (js_ret (je_and (je_cmp (o_eq (rm_of hr)) (je_ix (je_var 1) je_int) je_str) (je_one (je_call d_is_literal (hr.mono (by decide)) (ja_cons (je_ix (je_var 1) je_int) ja_nil)))))))), ?_⟩
  intro qs m Q R h hl; clear hl
  unfold S_is_operand at h
  split at h
  · rename_i w p
    obtain ⟨hp, h⟩ := h
    cases p with
    | raw v => simp [okD] at hp
    | tup xs =>
      match xs, hp, h with
      | [], hp, h => simp; simpa [isOpd] using h
      | [a], hp, h => simp; simpa [isOpd] using h
      | [a, b], hp, h =>
        have hb : noRaw b := noRaw_ok (by simp only [okD_tup, okDs_cons, Bool.and_eq_true] at hp; exact hp.2.1)
        cases a with
        | raw v => simp at hp; simp [okD] at hp
        | str s =>
          simp only [okD_tup, okDs_cons, okD_str, Bool.and_eq_true] at hp
          simp (decide := true) [-noRaw, hp.1]
          by_cases e : s = "column"
          · subst e
            simpa (decide := true) [-noRaw, isOpd] using ⟨hb, h⟩
          · by_cases e2 : s = "value"
            · subst e2
              simpa (decide := true) [-noRaw, isOpd] using ⟨hb, h⟩
            · have e3 : (s == ("column" : Str)) = false := by simpa using e
              have e4 : (s == ("value" : Str)) = false := by simpa using e2
              simp only [e3, e4]
              simpa [isOpd, e, e2] using h
        | _ => simpa (decide := true) [isOpd] using h
      | a :: b :: c :: r, hp, h =>
        have e : ((r.length : Int) + 1 + 1 + 1 == 2) = false := by simp only [beq_eq_false_iff_ne, ne_eq]; omega
        simp [e]
        simpa [isOpd] using h
    | _ => simpa [isOpd] using h
  · exact h.elim
abbrev s_is_list : Stmt := top 11
theorem sc_is_list : FnScope ["value", "one"] ["value"] (defScope s_is_list) := ⟨rfl, rfl, rfl, by decide +kernel, rfl, by decide +kernel, by decide +kernel⟩
@[simp] def S_is_list : SpP := fun ps m Q R => match ps with
  | [p] => okD p = true ∧ Q (.bl (isRowP p)) m
  | _ => False
theorem ok_is_list {f : Addr} {fd : FuncData} (F : Fun K "is_list" "is_list" s_is_list f fd) (bn : BN mg) (d_is_literal : CalM P w K mg base T 2 "is_literal" 1 S_is_literal) :
    FnOk P w K mg base (L2N.CX P w) 3 f fd ["value"] (spOf w K T 1 S_is_list) := by
  have sc := sc_is_list
  refine fn_ok F sc fun cdv A outer s H H0 F0 m0 E hr => ⟨_, (jb_one (js_ret (je_and (je_isi isT_tup (bn _ (by decide)) (bn _ (by decide)) (je_var 0)) (je_and (je_cmp o_le (je_callB c_len (bn _ (by decide)) (ja_cons (je_var 0) ja_nil)) je_int) (je_one (je_callB (c_all rfl) (bn _ (by decide)) (ja_cons (je_lc (own := [("one", 1)]) rfl sc.nd (ji_tup (je_var 0)) (blkOk_by (show blkC ["value", "one"] (defScope s_is_list) _ [("one", 1)] = true by decide +kernel)) (fun _ _ _ _ _ => (jg_name 1 sc.nd)) (fun _ _ _ _ _ => jts_nil) (fun _ _ _ _ _ => (je_call d_is_literal (hr.mono (by decide)) (ja_cons (je_var 1) ja_nil)))) ja_nil))))))), ?_⟩
  intro qs m Q R h hl; clear hl
  unfold S_is_list at h
  split at h
  · rename_i p
    obtain ⟨hp, h⟩ := h
    cases p with
    | raw v => simp [okD] at hp
    | tup xs =>
      by_cases e : xs.length ≤ 4
      · have e1 : decide ((xs.length : Int) ≤ 4) = true := by simp only [decide_eq_true_eq]; omega
        simp [-noRaw, e1]
        have hx : ∀ x ∈ xs, noRaw x := by
          rw [okD_tup] at hp
          clear h e e1
          induction xs with
          | nil => intro x h; cases h
          | cons y ys ih =>
            simp only [okDs_cons, Bool.and_eq_true] at hp
            intro x h
            rcases List.mem_cons.mp h with rfl | h
            · exact noRaw_ok hp.1
            · exact ih hp.2 x h
        refine ⟨by omega, compW_map (fun _ => true) (fun x => .bl (isLit x)) xs [] (fun x N acc hm hN => ?_) ⟨xs.map isLit, ?_, ?_⟩⟩
        · simpa [-noRaw] using ⟨hx x hm, hN⟩
        · rw [List.filter_eq_self.mpr (fun _ _ => rfl)]; exact blsOf_mapf _ _
        · cases e2 : xs.all isLit with
          | true => simpa [List.all_map, Function.comp_def, e2, isRowP, e] using h
          | false => simpa [List.all_map, Function.comp_def, e2, isRowP, e] using h
      · have e2 : decide ((xs.length : Int) ≤ 4) = false := by simp only [decide_eq_false_iff_not]; omega
        simp [e2]
        simpa [isRowP, e] using h
    | _ => simpa [isRowP] using h
  · exact h.elim
abbrev s_is_word : Stmt := top 12
theorem sc_is_word : FnScope ["value", "words"] ["value", "words"] (defScope s_is_word) := ⟨rfl, rfl, rfl, by decide +kernel, rfl, by decide +kernel, by decide +kernel⟩
@[simp] def S_is_word : SpP := fun ps m Q R => match ps with
  | [p, .tup ws] => okD p = true ∧ ∃ ns : List Str, ws = ns.map PV.str ∧ ns.all PyData.strOk = true ∧ Q (.bl (isWord ns p)) m
  | [p, .lst ws] => okD p = true ∧ ∃ ns : List Str, ws = ns.map PV.str ∧ ns.all PyData.strOk = true ∧ Q (.bl (isWord ns p)) m
  | _ => False
theorem okDs_strs : ∀ {ns : List Str}, ns.all PyData.strOk = true → okDs (ns.map PV.str) = true
  | [], _ => by simp
  | n :: ns, h => by
    simp only [List.all_cons, Bool.and_eq_true] at h
    simp [h.1, okDs_strs h.2]
theorem deps_strs : ∀ ns : List Str, deps (ns.map PV.str) = 0
  | [] => by simp
  | n :: ns => by simp [deps_strs ns]
theorem any_strs (ns : List Str) (s : Str) : ((ns.map PV.str).any fun y => peq y (.str s)) = decide (s ∈ ns) := by
  induction ns with
  | nil => simp
  | cons n ns ih =>
    rw [List.map_cons, List.any_cons, ih]
    by_cases h : n = s
    · subst h; simp
    · have h2 : ¬ s = n := fun z => h z.symm
      simp [h, h2]
theorem ok_is_word {f : Addr} {fd : FuncData} (F : Fun K "is_word" "is_word" s_is_word f fd) (bn : BN mg)  :
    FnOk P w K mg base (L2N.CX P w) 1 f fd ["value", "words"] (spOf w K T 2 S_is_word) := by
  have sc := sc_is_word
  refine fn_ok F sc fun cdv A outer s H H0 F0 m0 E hr => ⟨_, (jb_one (js_ret (je_and (je_isi isT_str (bn _ (by decide)) (bn _ (by decide)) (je_var 0)) (je_one (je_cmp (o_in (rm_of hr)) (je_var 0) (je_var 1)))))), ?_⟩
  intro qs m Q R h hl; clear hl
  unfold S_is_word at h
  split at h
  · rename_i p ws
    obtain ⟨hp, ns, rfl, ho, h⟩ := h
    cases p with
    | raw v => simp [okD] at hp
    | str s =>
      rw [okD_str] at hp
      simp [-List.any_map, hp, okDs_strs ho, any_strs]
      simpa [isWord] using h
    | _ => simpa [isWord] using h
  · rename_i p ws
    obtain ⟨hp, ns, rfl, ho, h⟩ := h
    cases p with
    | raw v => simp [okD] at hp
    | str s =>
      rw [okD_str] at hp
      simp [-List.any_map, hp, okDs_strs ho, any_strs]
      simpa [isWord] using h
    | _ => simpa [isWord] using h
  · exact h.elim
abbrev s_fits : Stmt := top 13
theorem sc_fits : FnScope ["width", "value", "depth", "word", "size"] ["width", "value", "depth"] (defScope s_fits) := ⟨rfl, rfl, rfl, by decide +kernel, rfl, by decide +kernel, by decide +kernel⟩
@[irreducible] def S_fits : Nat → SpP := fun n ps m Q R => match n, ps with
  | n + 1, [.int w, p, .int d] => okD p = true ∧ ∃ k : Nat, d = k ∧ k ≤ n ∧ Q (.bl (fitsB w k p)) m
  | _, _ => False
theorem S_fits_mk {n k : Nat} {w : Int} {p : PV} {m : Mem} {Q : KV'} {R : KX} (h0 : k + 1 ≤ n) (h1 : okD p = true) (h : Q (.bl (fitsB w k p)) m) : S_fits n [.int w, p, .int (k : Int)] m Q R := by
  obtain ⟨n, rfl⟩ : ∃ j, n = j + 1 := ⟨n - 1, by omega⟩
  unfold S_fits
  exact ⟨h1, k, by omega, by omega, h⟩
theorem or3 {a b c s : Str} : (a == s || (b == s || c == s)) = true ↔ s = a ∨ s = b ∨ s = c := by
  simp only [Bool.or_eq_true, beq_iff_eq]
  constructor
  · rintro (h | h | h) <;> simp [h]
  · rintro (h | h | h) <;> simp [h]
theorem or2 {a b s : Str} : (a == s || b == s) = true ↔ s = a ∨ s = b := by
  simp only [Bool.or_eq_true, beq_iff_eq]
  constructor
  · rintro (h | h) <;> simp [h]
  · rintro (h | h) <;> simp [h]
theorem nt_or3 {a b c s : Str} (h : (a == s || (b == s || c == s)) = false) : ¬ (s = a ∨ s = b ∨ s = c) := fun z => by rw [or3.mpr z] at h; cases h
theorem nt_or2 {a b s : Str} (h : (a == s || b == s) = false) : ¬ (s = a ∨ s = b) := fun z => by rw [or2.mpr z] at h; cases h
theorem len1 {r : List PV} (h : r.length = 1) : ∃ x, r = [x] := by
  match r, h with
  | [x], _ => exact ⟨x, rfl⟩
theorem len2 {r : List PV} (h : r.length = 2) : ∃ x y, r = [x, y] := by
  match r, h with
  | [x, y], _ => exact ⟨x, y, rfl⟩
theorem len3 {r : List PV} (h : r.length = 3) : ∃ x y z, r = [x, y, z] := by
  match r, h with
  | [x, y, z], _ => exact ⟨x, y, z, rfl⟩
theorem ops_map : [PV.str "=", PV.str "!=", PV.str "<", PV.str "<="] = opNames.map PV.str := rfl
theorem truths_map : [PV.str "true", PV.str "false", PV.str "unknown"] = truthNames.map PV.str := rfl
theorem step_fits {f : Addr} {fd : FuncData} (F : Fun K "fits" "fits" s_fits f fd) (bn : BN mg) (d_is_word : CalM P w K mg base T 1 "is_word" 2 S_is_word) (d_is_operand : CalM P w K mg base T 3 "is_operand" 2 S_is_operand) (d_is_list : CalM P w K mg base T 3 "is_list" 1 S_is_list) (g_OPS : GVal K mg "OPS" opsP) (g_TRUTHS : GDict w K mg "TRUTHS" truthsK) (n : Nat) (d_fits : CalM P w K mg base T (3 + n) "fits" 3 (S_fits n)) :
    FnOk P w K mg base (L2N.CX P w) (3 + n + 1) f fd ["width", "value", "depth"] (spOf w K T 3 (S_fits (n + 1))) := by
  have sc := sc_fits
  refine fn_ok F sc fun cdv A outer s H H0 F0 m0 E hr => ⟨_, (jb_cons (js_if (JW.jt (jw_or (jt_not (jt_val (je_isi isT_tup (bn _ (by decide)) (bn _ (by decide)) (je_var 1)))) (jw_or (jt_cmp (o_eq (rm_of hr)) (je_var 1) (je_tup ja_nil)) (jw_or (jt_not (jt_val (je_isi isT_str (bn _ (by decide)) (bn _ (by decide)) (je_ix (je_var 1) je_int)))) (jw_or1 (jt_cmp (o_eq (rm_of hr)) (je_var 2) je_int)))))) (jb_one (js_ret je_bl)) jb_nil)
  (jb_cons (js_par 3 4 rfl sc.nd (ja_cons (je_ix (je_var 1) je_int) (ja_cons (je_callB c_len (bn _ (by decide)) (ja_cons (je_var 1) ja_nil)) ja_nil)))
  (jb_cons (js_if (jt_cmp (o_in (rm_of hr)) (je_var 3) (je_tup (ja_cons je_str (ja_cons je_str (ja_cons je_str ja_nil))))) (jb_one (js_ret (je_cmp (o_eq (rm_of hr)) (je_var 4) je_int))) jb_nil)
  (jb_cons (js_if (jt_cmp (o_eq (rm_of hr)) (je_var 3) je_str) (jb_one (js_ret (je_and (je_cmp (o_eq (rm_of hr)) (je_var 4) je_int) (je_and (je_call d_is_word (hr.mono (by omega)) (ja_cons (je_ix (je_var 1) je_int) (ja_cons (je_gval g_OPS) ja_nil))) (je_and (je_call d_is_operand (hr.mono (by omega)) (ja_cons (je_var 0) (ja_cons (je_ix (je_var 1) je_int) ja_nil))) (je_one (je_call d_is_operand (hr.mono (by omega)) (ja_cons (je_var 0) (ja_cons (je_ix (je_var 1) je_int) ja_nil))))))))) jb_nil)
  (jb_cons (js_if (jt_cmp (o_eq (rm_of hr)) (je_var 3) je_str) (jb_one (js_ret (je_and (je_cmp (o_eq (rm_of hr)) (je_var 4) je_int) (je_and (je_call d_is_operand (hr.mono (by omega)) (ja_cons (je_var 0) (ja_cons (je_ix (je_var 1) je_int) ja_nil))) (je_one (je_call d_is_list (hr.mono (by omega)) (ja_cons (je_ix (je_var 1) je_int) ja_nil))))))) jb_nil)
  (jb_cons (js_if (jt_cmp (o_in (rm_of hr)) (je_var 3) (je_tup (ja_cons je_str (ja_cons je_str ja_nil)))) (jb_one (js_ret (je_and (je_cmp (o_eq (rm_of hr)) (je_var 4) je_int) (je_and (je_call d_is_word (hr.mono (by omega)) (ja_cons (je_ix (je_var 1) je_int) (ja_cons (je_gval g_OPS) ja_nil))) (je_and (je_call d_is_operand (hr.mono (by omega)) (ja_cons (je_var 0) (ja_cons (je_ix (je_var 1) je_int) ja_nil))) (je_one (je_call d_is_list (hr.mono (by omega)) (ja_cons (je_ix (je_var 1) je_int) ja_nil)))))))) jb_nil)
  (jb_cons (js_if (jt_cmp (o_eq (rm_of hr)) (je_var 3) je_str) (jb_one (js_ret (je_and (je_cmp (o_eq (rm_of hr)) (je_var 4) je_int) (je_one (je_call d_is_operand (hr.mono (by omega)) (ja_cons (je_var 0) (ja_cons (je_ix (je_var 1) je_int) ja_nil))))))) jb_nil)
  (jb_cons (js_if (jt_cmp (o_eq (rm_of hr)) (je_var 3) je_str) (jb_one (js_ret (je_and (je_cmp (o_eq (rm_of hr)) (je_var 4) je_int) (je_one (je_call d_fits (hr.mono (by omega)) (ja_cons (je_var 0) (ja_cons (je_ix (je_var 1) je_int) (ja_cons (je_op o_sub (je_var 2) je_int) ja_nil)))))))) jb_nil)
  (jb_cons (js_if (jt_cmp (o_in (rm_of hr)) (je_var 3) (je_tup (ja_cons je_str (ja_cons je_str ja_nil)))) (jb_one (js_ret (je_and (je_cmp (o_eq (rm_of hr)) (je_var 4) je_int) (je_and (je_call d_fits (hr.mono (by omega)) (ja_cons (je_var 0) (ja_cons (je_ix (je_var 1) je_int) (ja_cons (je_op o_sub (je_var 2) je_int) ja_nil)))) (je_one (je_call d_fits (hr.mono (by omega)) (ja_cons (je_var 0) (ja_cons (je_ix (je_var 1) je_int) (ja_cons (je_op o_sub (je_var 2) je_int) ja_nil))))))))) jb_nil)
  (jb_one (js_ret (je_and (je_cmp (o_eq (rm_of hr)) (je_var 3) je_str) (je_and (je_cmp (o_eq (rm_of hr)) (je_var 4) je_int) (je_and (je_call d_is_word (hr.mono (by omega)) (ja_cons (je_ix (je_var 1) je_int) (ja_cons (je_klist g_TRUTHS rfl (bn _ (by decide)) (by decide)) ja_nil))) (je_one (je_call d_fits (hr.mono (by omega)) (ja_cons (je_var 0) (ja_cons (je_ix (je_var 1) je_int) (ja_cons (je_op o_sub (je_var 2) je_int) ja_nil))))))))))))))))))), ?_⟩
  intro qs m Q R h hl; clear hl
  unfold S_fits at h
  split at h
  · rename_i n' w p d heq
    cases heq
    obtain ⟨hp, k, rfl, hk, h⟩ := h
    cases p with
    | raw v => simp [okD] at hp
    | tup xs =>
      match xs, hp, h with
      | [], hp, h => simp; cases k <;> simpa [fitsB] using h
      | a :: r, hp, h =>
        cases a with
        | raw v => simp at hp; simp [okD] at hp
        | str s =>
          simp only [okD_tup, okDs_cons, okD_str, Bool.and_eq_true] at hp
          obtain ⟨hs, hr'⟩ := hp
          cases k with
          | zero => simp [hs, hr']; simpa [fitsB] using h
          | succ k =>
            have ek : ((k : Int) + 1 == 0) = false := by simp only [beq_eq_false_iff_ne, ne_eq]; omega
            simp [-noRaw, hs, hr', ek]
            unfold fitsB at h
            split
            · rename_i e
              rw [if_pos (or3.mp e)] at h
              cases r with
              | nil => simpa using h
              | cons x r =>
                have e2 : (((x :: r).length : Int) + 1 == 1) = false := by simp only [List.length_cons, beq_eq_false_iff_ne, ne_eq]; omega
                rw [e2]
                simpa using h
            rename_i e
            rw [if_neg (nt_or3 e)] at h
            clear e
            split
            · rename_i e
              rw [if_pos (by simpa using e)] at h
              split
              · rename_i l
                have hlen : r.length = 3 := by simp only [beq_iff_eq] at l; omega
                obtain ⟨x, y, z, rfl⟩ := len3 hlen
                simp only [okDs_cons, okDs_nil, Bool.and_eq_true, Bool.and_true] at hr'
                refine ⟨x, rfl, hr'.1, opNames, ops_map, (by decide +kernel), ?_⟩
                simp only [Bool.and_assoc] at h
                cases e1 : isWord opNames x with
                | false => simpa [e1] using h
                | true =>
                  refine ⟨y, rfl, hr'.2.1, ?_⟩
                  cases e2 : isOpd w y with
                  | false => simpa [e1, e2] using h
                  | true => exact ⟨z, rfl, hr'.2.2, by simpa [e1, e2] using h⟩
              · rename_i l
                have hn : r.length ≠ 3 := fun z => by simp [z] at l
                split at h
                · simp at hn
                · exact h
            rename_i e
            rw [if_neg (by simpa using e)] at h
            clear e
            split
            · rename_i e
              rw [if_pos (by simpa using e)] at h
              split
              · rename_i l
                have hlen : r.length = 2 := by simp only [beq_iff_eq] at l; omega
                obtain ⟨x, y, rfl⟩ := len2 hlen
                simp only [okDs_cons, okDs_nil, Bool.and_eq_true, Bool.and_true] at hr'
                refine ⟨x, rfl, hr'.1, ?_⟩
                cases e1 : isOpd w x with
                | false => simpa [e1] using h
                | true => exact ⟨y, rfl, hr'.2, by simpa [e1] using h⟩
              · rename_i l
                have hn : r.length ≠ 2 := fun z => by simp [z] at l
                split at h
                · simp at hn
                · exact h
            rename_i e
            rw [if_neg (by simpa using e)] at h
            clear e
            split
            · rename_i e
              rw [if_pos (or2.mp e)] at h
              split
              · rename_i l
                have hlen : r.length = 3 := by simp only [beq_iff_eq] at l; omega
                obtain ⟨x, y, z, rfl⟩ := len3 hlen
                simp only [okDs_cons, okDs_nil, Bool.and_eq_true, Bool.and_true] at hr'
                refine ⟨x, rfl, hr'.1, opNames, ops_map, (by decide +kernel), ?_⟩
                simp only [Bool.and_assoc] at h
                cases e1 : isWord opNames x with
                | false => simpa [e1] using h
                | true =>
                  refine ⟨y, rfl, hr'.2.1, ?_⟩
                  cases e2 : isOpd w y with
                  | false => simpa [e1, e2] using h
                  | true => exact ⟨z, rfl, hr'.2.2, by simpa [e1, e2] using h⟩
              · rename_i l
                have hn : r.length ≠ 3 := fun z => by simp [z] at l
                split at h
                · simp at hn
                · exact h
            rename_i e
            rw [if_neg (nt_or2 e)] at h
            clear e
            split
            · rename_i e
              rw [if_pos (by simpa using e)] at h
              split
              · rename_i l
                have hlen : r.length = 1 := by simp only [beq_iff_eq] at l; omega
                obtain ⟨x, rfl⟩ := len1 hlen
                simp only [okDs_cons, okDs_nil, Bool.and_true] at hr'
                exact ⟨x, rfl, hr', h⟩
              · rename_i l
                have hn : r.length ≠ 1 := fun z => by simp [z] at l
                split at h
                · simp at hn
                · exact h
            rename_i e
            rw [if_neg (by simpa using e)] at h
            clear e
            split
            · rename_i e
              rw [if_pos (by simpa using e)] at h
              split
              · rename_i l
                have hlen : r.length = 1 := by simp only [beq_iff_eq] at l; omega
                obtain ⟨x, rfl⟩ := len1 hlen
                simp only [okDs_cons, okDs_nil, Bool.and_true] at hr'
                exact ⟨x, rfl, S_fits_mk (by omega) hr' h⟩
              · rename_i l
                have hn : r.length ≠ 1 := fun z => by simp [z] at l
                split at h
                · simp at hn
                · exact h
            rename_i e
            rw [if_neg (by simpa using e)] at h
            clear e
            split
            · rename_i e
              rw [if_pos (or2.mp e)] at h
              split
              · rename_i l
                have hlen : r.length = 2 := by simp only [beq_iff_eq] at l; omega
                obtain ⟨x, y, rfl⟩ := len2 hlen
                simp only [okDs_cons, okDs_nil, Bool.and_eq_true, Bool.and_true] at hr'
                refine ⟨x, rfl, S_fits_mk (by omega) hr'.1 ?_⟩
                cases e1 : fitsB w k x with
                | false => simpa [e1] using h
                | true => exact ⟨y, rfl, S_fits_mk (by omega) hr'.2 (by simpa [e1] using h)⟩
              · rename_i l
                have hn : r.length ≠ 2 := fun z => by simp [z] at l
                split at h
                · simp at hn
                · exact h
            rename_i e
            rw [if_neg (nt_or2 e)] at h
            clear e
            split
            · rename_i e
              rw [if_pos (by simpa using e)] at h
              split
              · rename_i l
                have hlen : r.length = 2 := by simp only [beq_iff_eq] at l; omega
                obtain ⟨x, y, rfl⟩ := len2 hlen
                simp only [okDs_cons, okDs_nil, Bool.and_eq_true, Bool.and_true] at hr'
                refine ⟨x, rfl, hr'.1, truthNames, truths_map, (by decide +kernel), ?_⟩
                cases e1 : isWord truthNames x with
                | false => simpa [e1] using h
                | true => exact ⟨y, rfl, S_fits_mk (by omega) hr'.2 (by simpa [e1] using h)⟩
              · rename_i l
                have hn : r.length ≠ 2 := fun z => by simp [z] at l
                split at h
                · simp at hn
                · exact h
            · rename_i e
              rw [if_neg (by simpa using e)] at h
              exact h
        | _ => simp at hp; simp [hp]; cases k <;> simpa [fitsB] using h
    | _ => cases k <;> simpa [fitsB] using h
  · exact h.elim
theorem ok_fits {f : Addr} {fd : FuncData} (F : Fun K "fits" "fits" s_fits f fd) (bn : BN mg) (d_is_word : CalM P w K mg base T 1 "is_word" 2 S_is_word) (d_is_operand : CalM P w K mg base T 3 "is_operand" 2 S_is_operand) (d_is_list : CalM P w K mg base T 3 "is_list" 1 S_is_list) (g_OPS : GVal K mg "OPS" opsP) (g_TRUTHS : GDict w K mg "TRUTHS" truthsK) (hm : mg "fits" = some (.ref f)) (hb : Binds K fd ["width", "value", "depth"] []) (N : Nat) :
    FnOk P w K mg base (L2N.CX P w) (3 + N) f fd ["width", "value", "depth"] (spOf w K T 3 (S_fits N)) := ok_rec (S := fun n => (S_fits n)) hm F.kp hb (fun ps m Q R h => by unfold S_fits at h; exact h) (fun n d => step_fits F bn d_is_word d_is_operand d_is_list g_OPS g_TRUTHS n d) N
abbrev s_places_of : Stmt := top 14
theorem sc_places_of : FnScope ["predicate"] ["predicate"] (defScope s_places_of) := ⟨rfl, rfl, rfl, by decide +kernel, rfl, by decide +kernel, by decide +kernel⟩
@[simp] def S_places_of : SpP := fun ps m Q R => match ps with
  | [p] => ∃ pr : Pr, p = prP pr ∧ Q (.lst (pr.places.map PV.int)) m
  | _ => False
theorem ok_places_of {f : Addr} {fd : FuncData} (F : Fun K "places_of" "places_of" s_places_of f fd) (bn : BN mg)  :
    FnOk P w K mg base (L2N.CX P w) 1 f fd ["predicate"] (spOf w K T 1 S_places_of) := by
  have sc := sc_places_of
  refine fn_ok F sc fun cdv A outer s H H0 F0 m0 E hr => ⟨_, (jb_cons (js_if (jt_cmp (o_eq (rm_of hr)) (je_ix (je_var 0) je_int) je_str) (jb_one (js_ret (je_lst (ja_cons je_int ja_nil)))) jb_nil)
  (jb_cons (js_if (jt_cmp (o_in (rm_of hr)) (je_ix (je_var 0) je_int) (je_tup (ja_cons je_str (ja_cons je_str ja_nil)))) (jb_one (js_ret (je_lst (ja_cons je_int (ja_cons je_int ja_nil))))) jb_nil)
  (jb_one (js_ret (je_if (jt_cmp (o_eq (rm_of hr)) (je_ix (je_var 0) je_int) je_str) (je_lst (ja_cons je_int ja_nil)) (je_lst ja_nil)))))), ?_⟩
  intro qs m Q R h hl; clear hl
  unfold S_places_of at h
  split at h
  · obtain ⟨pr, rfl, h⟩ := h
    cases pr with
    | cst t => rcases t with _ | _ | _ <;> simpa (decide := true) [prP, truthS, str_beq, Pr.places] using h
    | qnt al o a l => cases al <;> simpa (decide := true) [prP, str_beq, Pr.places] using h
    | bin or p q => cases or <;> simpa (decide := true) [prP, str_beq, Pr.places] using h
    | _ => simpa (decide := true) [prP, str_beq, Pr.places] using h
  · exact h.elim
abbrev s_parts_of : Stmt := top 15
theorem sc_parts_of : FnScope ["predicate", "found", "place", "path", "part"] ["predicate"] (defScope s_parts_of) := ⟨rfl, rfl, rfl, by decide +kernel, rfl, by decide +kernel, by decide +kernel⟩
@[irreducible] def S_parts_of : Nat → SpP := fun n ps m Q R => match n, ps with
  | n + 1, [p] => ∃ pr : Pr, p = prP pr ∧ pr.depth ≤ n + 1 ∧ pr.depth ≤ 18 ∧ Q (.lst (pr.parts.map partP)) m
  | _, _ => False
theorem S_parts_mk {n : Nat} {pr : Pr} {m : Mem} {Q : KV'} {R : KX} (h0 : pr.depth ≤ n) (h2 : pr.depth ≤ 18) (h : Q (.lst (pr.parts.map partP)) m) : S_parts_of n [prP pr] m Q R := by
  have : 1 ≤ pr.depth := by cases pr <;> simp [Pr.depth]
  obtain ⟨n, rfl⟩ : ∃ j, n = j + 1 := ⟨n - 1, by omega⟩
  unfold S_parts_of
  exact ⟨pr, rfl, h0, h2, h⟩
def Pr.kids : Pr → List (Int × Pr)
  | .nott p => [(1, p)]
  | .bin _ p q => [(1, p), (2, q)]
  | .iss _ p => [(2, p)]
  | _ => []
def consP (i : Int) (y : List Int × Pr) : List Int × Pr := (i :: y.1, y.2)
theorem kids_places (p : Pr) : p.places = p.kids.map (·.1) := by cases p <;> rfl
theorem kids_parts (p : Pr) : p.parts = ([], p) :: p.kids.flatMap fun k => k.2.parts.map (consP k.1) := by
  cases p <;> simp only [Pr.parts, Pr.kids, List.flatMap_cons, List.flatMap_nil, List.append_nil] <;> rfl
theorem kids_at {p : Pr} {k : Int × Pr} (h : k ∈ p.kids) : (∃ xs, prP p = .tup xs ∧ atI xs k.1 = some (prP k.2)) ∧ k.2.depth + 1 ≤ p.depth := by
  cases p <;> simp only [Pr.kids, List.mem_cons, List.not_mem_nil, or_false] at h
  · subst h
    exact ⟨⟨_, rfl, by simp⟩, by simp [Pr.depth]⟩
  · rcases h with rfl | rfl
    · exact ⟨⟨_, rfl, by simp⟩, by simp [Pr.depth]; omega⟩
    · exact ⟨⟨_, rfl, by simp⟩, by simp [Pr.depth]; omega⟩
  · subst h
    exact ⟨⟨_, rfl, by simp⟩, by simp [Pr.depth]⟩
def consV (i : Int) : PV → PV
  | .tup [.tup xs, q] => .tup [.tup (.int i :: xs), q]
  | _ => .non
theorem consV_part (i : Int) (y : List Int × Pr) : consV i (partP y) = partP (consP i y) := rfl
theorem parts_len : ∀ p : Pr, p.parts.length ≤ 2 ^ p.depth - 1 := by
  intro p
  induction p with
  | nott p ih =>
    simp only [Pr.parts, List.length_cons, List.length_map, Pr.depth, Nat.pow_succ]
    have := Nat.one_le_two_pow (n := p.depth)
    omega
  | iss t p ih =>
    simp only [Pr.parts, List.length_cons, List.length_map, Pr.depth, Nat.pow_succ]
    have := Nat.one_le_two_pow (n := p.depth)
    omega
  | bin or p q ih1 ih2 =>
    simp only [Pr.parts, List.length_cons, List.length_append, List.length_map, Pr.depth, Nat.pow_succ]
    have h1 := Nat.one_le_two_pow (n := p.depth)
    have h2 := Nat.one_le_two_pow (n := q.depth)
    have h3 := Nat.pow_le_pow_right (show 0 < 2 by decide) (Nat.le_max_left p.depth q.depth)
    have h4 := Nat.pow_le_pow_right (show 0 < 2 by decide) (Nat.le_max_right p.depth q.depth)
    omega
  | _ => simp [Pr.parts, Pr.depth]
theorem path_len : ∀ {p : Pr} {y : List Int × Pr}, y ∈ p.parts → y.1.length + 1 ≤ p.depth := by
  intro p
  induction p with
  | nott p ih =>
    intro y h
    simp only [Pr.parts, List.mem_cons, List.mem_map] at h
    rcases h with rfl | ⟨z, hz, rfl⟩
    · simp [Pr.depth]
    · have := ih hz
      simp [Pr.depth]; omega
  | iss t p ih =>
    intro y h
    simp only [Pr.parts, List.mem_cons, List.mem_map] at h
    rcases h with rfl | ⟨z, hz, rfl⟩
    · simp [Pr.depth]
    · have := ih hz
      simp [Pr.depth]; omega
  | bin or p q ih1 ih2 =>
    intro y h
    simp only [Pr.parts, List.mem_cons, List.mem_append, List.mem_map] at h
    rcases h with rfl | ⟨z, hz, rfl⟩ | ⟨z, hz, rfl⟩
    · simp [Pr.depth]
    · have := ih1 hz
      simp [Pr.depth]; omega
    · have := ih2 hz
      simp [Pr.depth]; omega
  | _ =>
    intro y h
    simp only [Pr.parts, List.mem_cons, List.not_mem_nil, or_false] at h
    subst h
    simp [Pr.depth]
theorem flat_take {α β : Type} (f : α → List β) : ∀ (l : List α) (j : Nat), ((l.take j).flatMap f).length ≤ (l.flatMap f).length
  | [], j => by simp
  | x :: l, 0 => by simp
  | x :: l, j + 1 => by
    have := flat_take f l j
    simp only [List.take_succ_cons, List.flatMap_cons, List.length_append]
    omega
theorem step_parts_of {f : Addr} {fd : FuncData} (F : Fun K "parts_of" "parts_of" s_parts_of f fd) (bn : BN mg) (d_places_of : CalM P w K mg base T 1 "places_of" 1 S_places_of) (n : Nat) (d_parts_of : CalM P w K mg base T (1 + n) "parts_of" 1 (S_parts_of n)) :
    FnOk P w K mg base (L2N.CX P w) (1 + n + 1) f fd ["predicate"] (spOf w K T 1 (S_parts_of (n + 1))) := by
  have sc := sc_parts_of
  refine fn_ok F sc fun cdv A outer s H H0 F0 m0 E hr => ⟨_, (jb_cons (js_set 1 sc.nd (je_lst (ja_cons (je_tup (ja_cons (je_tup ja_nil) (ja_cons (je_var 0) ja_nil))) ja_nil)))
  (jb_cons (js_for passes_own rfl (ji_list (je_call d_places_of (hr.mono (by omega)) (ja_cons (je_var 0) ja_nil))) (jg_name 2 sc.nd) (jb_one (js_set 1 sc.nd (je_op o_add (je_var 1) (je_lc (own := [("path", 3), ("part", 4)]) rfl sc.nd (ji_list (je_call d_parts_of (hr.mono (by omega)) (ja_cons (je_ix (je_var 0) (je_var 2)) ja_nil))) (blkOk_by (show blkC ["predicate", "found", "place", "path", "part"] (defScope s_parts_of) _ [("path", 3), ("part", 4)] = true by decide +kernel)) (fun _ _ _ _ _ => (jg_tup (n := 2) rfl (jgs_cons (jg_name 3 sc.nd) (jgs_cons (jg_name 4 sc.nd) jgs_nil)))) (fun _ _ _ _ _ => jts_nil) (fun _ _ _ _ _ => (je_tup (ja_cons (je_op o_add (je_tup (ja_cons (je_var 2) ja_nil)) (je_var 3)) (ja_cons (je_var 4) ja_nil)))))))))
  (jb_one (js_ret (je_var 1))))), ?_⟩
  intro qs m Q R h hl; clear hl
  unfold S_parts_of at h
  split at h
  · rename_i n' p heq
    cases heq
    obtain ⟨pr, rfl, hd, hd2, h⟩ := h
    refine ⟨Nat.le_of_ble_eq_true rfl, Nat.le_of_ble_eq_true rfl, Nat.le_of_ble_eq_true rfl, pr, rfl, ?_⟩
    show (pr.places.map PV.int).length ≤ 1000000 ∧ _
    rw [kids_places, List.map_map]
    have hkl : pr.kids.length ≤ 2 := by cases pr <;> simp [Pr.kids]
    refine ⟨by rw [List.length_map]; omega, ?_⟩
    refine forW_inv (fun j ρ m' => m' = m ∧ ∃ v2 v3 v4, ρ = [some (.val (prP pr)), some (.val (.lst ((([], pr) :: (pr.kids.take j).flatMap fun k => k.2.parts.map (consP k.1)).map partP))), v2, v3, v4]) _ 0 _ _ ?_ ?_ ⟨rfl, none, none, none, rfl⟩
    · rintro j x ρ m' N hx ⟨rfl, v2, v3, v4, rfl⟩ hN
      rw [List.getElem?_map] at hx
      cases hk : pr.kids[j]? with
      | none => rw [hk] at hx; cases hx
      | some k =>
        rw [hk] at hx
        cases hx
        obtain ⟨⟨xs, e1, e2⟩, e3⟩ := kids_at (List.mem_of_getElem? hk)
        have hN' := hN [some (.val (prP pr)), some (.val (.lst ((([], pr) :: (pr.kids.take (0 + j + 1)).flatMap fun k => k.2.parts.map (consP k.1)).map partP))), some (.val (.int k.1)), v3, v4] m' ⟨rfl, _, _, _, rfl⟩
        have e4 : (pr.kids.take (0 + j + 1)) = pr.kids.take (0 + j) ++ [k] := by
          rw [Nat.zero_add, List.take_succ, hk]
          rfl
        rw [e4] at hN'
        rw [e1]
        rw [e1] at hN'
        refine ⟨_, e2, ?_⟩
        dsimp only [wNil]
        refine S_parts_mk (by omega) (by omega) ?_
        dsimp only
        have pl := parts_len k.2
        have hp : k.2.parts.length ≤ 1000000 := by
          have h1 : k.2.depth ≤ 18 := by omega
          have h2 := Nat.pow_le_pow_right (show 0 < 2 by decide) h1
          have h3 : 2 ^ 18 ≤ 1000000 := by decide
          omega
        refine ⟨by rw [List.length_map]; exact hp, compW_map (fun _ => true) (consV k.1) _ [] (fun x N acc hm hN => ?_) ?_⟩
        · obtain ⟨y, hy, rfl⟩ := List.mem_map.mp hm
          have hy' := path_len hy
          simp [partP, pathP]
          exact ⟨by omega, hN⟩
        · have pr1 := parts_len pr
          have h1 := Nat.pow_le_pow_right (show 0 < 2 by decide) hd2
          have h2 := flat_take (fun k => k.2.parts.map (consP k.1)) pr.kids (0 + j)
          rw [kids_parts, List.length_cons] at pr1
          have e5 : [] ++ List.map (consV k.1) (List.filter (fun x => true) (List.map partP k.2.parts)) = (k.2.parts.map (consP k.1)).map partP := by
            rw [List.nil_append, List.filter_eq_self.mpr (fun _ _ => rfl), List.map_map, List.map_map]
            rfl
          rw [e5]
          refine ⟨?_, ?_⟩
          · simp only [List.length_map, List.length_cons]
            have h4 := Nat.pow_le_pow_right (show 0 < 2 by decide) (show k.2.depth ≤ 18 by omega)
            have h3 : 2 ^ 18 = 262144 := by decide
            omega
          · rw [← List.map_append, List.cons_append]
            simp only [List.flatMap_append, List.flatMap_cons, List.flatMap_nil, List.append_nil] at hN'
            exact hN'
    · rintro ρ m' ⟨rfl, v2, v3, v4, rfl⟩
      have e : pr.kids.take (0 + (pr.kids.map (PV.int ∘ fun x => x.1)).length) = pr.kids := by rw [List.length_map, Nat.zero_add, List.take_length]
      rw [kids_parts] at h
      simp only [e]
      exact h
  · exact h.elim
theorem ok_parts_of {f : Addr} {fd : FuncData} (F : Fun K "parts_of" "parts_of" s_parts_of f fd) (bn : BN mg) (d_places_of : CalM P w K mg base T 1 "places_of" 1 S_places_of) (hm : mg "parts_of" = some (.ref f)) (hb : Binds K fd ["predicate"] []) (N : Nat) :
    FnOk P w K mg base (L2N.CX P w) (1 + N) f fd ["predicate"] (spOf w K T 1 (S_parts_of N)) := ok_rec (S := fun n => (S_parts_of n)) hm F.kp hb (fun ps m Q R h => by unfold S_parts_of at h; exact h) (fun n d => step_parts_of F bn d_places_of n d) N
abbrev s_literals_of : Stmt := top 16
theorem sc_literals_of : FnScope ["part", "one", "operand"] ["part"] (defScope s_literals_of) := ⟨rfl, rfl, rfl, by decide +kernel, rfl, by decide +kernel, by decide +kernel⟩
@[simp] def S_literals_of : SpP := fun ps m Q R => match ps with
  | [p] => ∃ pr : Pr, p = prP pr ∧ pr.lits.length ≤ 1000 ∧ Q (.lst (pr.lits.map oP)) m
  | _ => False
@[simp] theorem atI_m1 (a b c : PV) : atI [a, b, c] (-1) = some c := by rw [atI_neg (by decide) (Int.le_of_sub_nonneg (by simp))]; rfl
@[simp] theorem atI_m2 (a b c : PV) : atI [a, b, c] (-2) = some b := by rw [atI_neg (by decide) (Int.le_of_sub_nonneg (by simp))]; rfl
@[simp] theorem atI_m1' (a b c d : PV) : atI [a, b, c, d] (-1) = some d := by rw [atI_neg (by decide) (Int.le_of_sub_nonneg (by simp))]; rfl
@[simp] theorem atI_m2' (a b c d : PV) : atI [a, b, c, d] (-2) = some c := by rw [atI_neg (by decide) (Int.le_of_sub_nonneg (by simp))]; rfl
@[simp] theorem cut_2 (a b c d : PV) : cutP [a, b, c, d] (some 2) none = [c, d] := rfl
theorem ok_literals_of {f : Addr} {fd : FuncData} (F : Fun K "literals_of" "literals_of" s_literals_of f fd) (bn : BN mg)  :
    FnOk P w K mg base (L2N.CX P w) 1 f fd ["part"] (spOf w K T 1 S_literals_of) := by
  have sc := sc_literals_of
  refine fn_ok F sc fun cdv A outer s H H0 F0 m0 E hr => ⟨_, (jb_cons (js_if (jt_cmp (o_eq (rm_of hr)) (je_ix (je_var 0) je_int) je_str) (jb_one (js_ret (je_lc (own := [("one", 1)]) rfl sc.nd (ji_tup (je_sl (je_var 0) (jo_some je_int) jo_none)) (blkOk_by (show blkC ["part", "one", "operand"] (defScope s_literals_of) _ [("one", 1)] = true by decide +kernel)) (fun _ _ _ _ _ => (jg_name 1 sc.nd)) (fun _ _ _ _ _ => (jts_one (jt_cmp (o_eq (rm_of hr)) (je_ix (je_var 1) je_int) je_str))) (fun _ _ _ _ _ => (je_ix (je_var 1) je_int))))) jb_nil)
  (jb_cons (js_if (jt_cmp (o_in (rm_of hr)) (je_ix (je_var 0) je_int) (je_tup (ja_cons je_str (ja_cons je_str (ja_cons je_str ja_nil))))) (jb_cons (js_set 2 sc.nd (je_ix (je_var 0) (je_neg je_int)))
  (jb_one (js_ret (je_op o_add (je_callTy c_list (bn _ (by decide)) (ja_cons (je_ix (je_var 0) (je_neg je_int)) ja_nil)) (je_if (jt_cmp (o_eq (rm_of hr)) (je_ix (je_var 2) je_int) je_str) (je_lst (ja_cons (je_ix (je_var 2) je_int) ja_nil)) (je_lst ja_nil)))))) jb_nil)
  (jb_cons (js_if (jt_cmp (o_eq (rm_of hr)) (je_ix (je_var 0) je_int) je_str) (jb_one (js_ret (je_if (jt_cmp (o_eq (rm_of hr)) (je_ix (je_ix (je_var 0) je_int) je_int) je_str) (je_lst (ja_cons (je_ix (je_ix (je_var 0) je_int) je_int) ja_nil)) (je_lst ja_nil)))) jb_nil)
  (jb_one (js_ret (je_lst ja_nil)))))), ?_⟩
  intro qs m Q R h hl; clear hl
  unfold S_literals_of at h
  split at h
  · obtain ⟨pr, rfl, hk, h⟩ := h
    cases pr with
    | cst t => rcases t with _ | _ | _ <;> simpa (decide := true) [prP, truthS, str_beq, Pr.lits] using h
    | nul a =>
      cases a <;> simpa (decide := true) [prP, opdP, str_beq, Pr.lits, Opd.lits] using h
    | inn a l =>
      cases a <;> simp (decide := true) [prP, opdP, str_beq, Pr.lits, Opd.lits, rowP] at h hk ⊢
      · exact ⟨by omega, h⟩
      · exact ⟨by omega, h⟩
    | qnt al o a l =>
      cases al <;> cases a <;> simp (decide := true) [prP, opdP, str_beq, Pr.lits, Opd.lits, rowP] at h hk ⊢
      all_goals exact ⟨by omega, h⟩
    | cmp o a b =>
      cases a <;> cases b <;> simp (decide := true) [prP, opdP, str_beq, Pr.lits, Opd.lits, compW] at h ⊢
      all_goals exact h
    | bin or p q => cases or <;> simpa (decide := true) [prP, str_beq, Pr.lits] using h
    | _ => simpa (decide := true) [prP, str_beq, Pr.lits] using h
  · exact h.elim
abbrev s_integers_of : Stmt := top 17
theorem sc_integers_of : FnScope ["predicate", "found", "path", "part", "literal"] ["predicate"] (defScope s_integers_of) := ⟨rfl, rfl, rfl, by decide +kernel, rfl, by decide +kernel, by decide +kernel⟩
@[simp] def S_integers_of : SpP := fun ps m Q R => match ps with
  | [p] => ∃ pr : Pr, p = prP pr ∧ pr.depth ≤ 6 ∧ (∀ x ∈ pr.parts, x.2.lits.length ≤ 1000) ∧ Q (.lst (pr.ints.map PV.int)) m
  | _ => False
def entI (i : Int) : Option Key × PV := (some (.inl i), .bl true)
theorem pput_int (acc : List Int) (i : Int) : pput (acc.map entI) (some (.inl i)) (.bl true) = (addI acc i).map entI := by
  have e : ((acc.map entI).any fun kv => decide (kv.1 = some (.inl i))) = decide (i ∈ acc) := by
    rw [List.any_map]
    induction acc with
    | nil => rfl
    | cons a acc ih =>
      rw [List.any_cons, ih]
      by_cases h : a = i
      · simp [entI, h]
      · have h3 : ¬ i = a := fun z => h z.symm
        simp [entI, h, h3]
  unfold pput addI
  rw [e]
  by_cases h : i ∈ acc
  · simp only [h, decide_true, if_true]
    rw [List.map_map]
    apply List.map_congr_left
    intro x _
    by_cases h2 : x = i <;> simp [entI, h2]
  · simp [h, entI]
def foldA (acc : List Int) (l : Row) : List Int := (l.filterMap id).foldl addI acc
theorem foldA_app (acc : List Int) (l k : Row) : foldA acc (l ++ k) = foldA (foldA acc l) k := by
  simp [foldA, List.filterMap_append, List.foldl_append]
theorem foldA_len (acc : List Int) (l : Row) : (foldA acc l).length ≤ acc.length + l.length := by
  unfold foldA
  induction l generalizing acc with
  | nil => simp
  | cons x l ih =>
    cases x with
    | none =>
      have := ih acc
      simp only [List.filterMap_cons, id, List.length_cons]
      omega
    | some i =>
      have h1 := ih (addI acc i)
      have h2 : (addI acc i).length ≤ acc.length + 1 := by unfold addI; split <;> simp
      simp only [List.filterMap_cons, id, List.foldl_cons, List.length_cons]
      omega
theorem flat_len {α β : Type} (f : α → List β) (n : Nat) : ∀ l : List α, (∀ x ∈ l, (f x).length ≤ n) → (l.flatMap f).length ≤ l.length * n
  | [], _ => by simp
  | x :: l, h => by
    have h1 := flat_len f n l fun y hy => h y (List.mem_cons_of_mem _ hy)
    have h2 := h x List.mem_cons_self
    simp only [List.flatMap_cons, List.length_append, List.length_cons, Nat.add_mul]
    omega
theorem keysI (l : List Int) : (l.map entI).map (fun kv => kPV kv.1) = l.map PV.int := by
  rw [List.map_map]
  rfl
theorem ok_integers_of {f : Addr} {fd : FuncData} (F : Fun K "integers_of" "integers_of" s_integers_of f fd) (bn : BN mg) (d_parts_of : CalM P w K mg base T 7 "parts_of" 1 (S_parts_of 6)) (d_literals_of : CalM P w K mg base T 1 "literals_of" 1 S_literals_of) :
    FnOk P w K mg base (L2N.CX P w) 8 f fd ["predicate"] (spOf w K T 1 S_integers_of) := by
  have sc := sc_integers_of
  refine fn_ok F sc fun cdv A outer s H H0 F0 m0 E hr => ⟨_, (jb_cons (js_dnew 1 (.dct []) rfl sc.nd)
  (jb_cons (js_for passes_own rfl (ji_list (je_call d_parts_of (hr.mono (by decide)) (ja_cons (je_var 0) ja_nil))) (jg_tup (n := 2) rfl (jgs_cons (jg_name 2 sc.nd) (jgs_cons (jg_name 3 sc.nd) jgs_nil))) (jb_one (js_for passes_own rfl (ji_list (je_call d_literals_of (hr.mono (by decide)) (ja_cons (je_var 3) ja_nil))) (jg_name 4 sc.nd) (jb_one (js_if (jt_cmp o_isnot (je_var 4) je_non) (jb_one (js_dput 1 rfl (hu1 hr) (je_var 4) je_bl)) jb_nil)))))
  (jb_one (js_ret (je_callB c_sorted (bn _ (by decide)) (ja_cons (je_dlist 1 rfl rfl (bn _ (by decide))) ja_nil)))))), ?_⟩
  intro qs m Q R h hl; clear hl
  unfold S_integers_of at h
  split at h
  · obtain ⟨pr, rfl, hd, hk, h⟩ := h
    have pl := parts_len pr
    have h2 := Nat.pow_le_pow_right (show 0 < 2 by decide) hd
    have h3 : 2 ^ 6 = 64 := by decide
    refine ⟨.inl rfl, S_parts_mk (by omega) (by omega) ?_⟩
    dsimp only
    refine ⟨by rw [List.length_map]; omega, ?_⟩
    refine forW_inv (fun j ρ m' => m' = m ∧ ∃ v2 v3 v4, ρ = [some (.val (prP pr)), some (.own (.dct ((foldA [] ((pr.parts.take j).flatMap fun x => x.2.lits)).map entI))), v2, v3, v4]) _ 0 _ _ ?_ ?_ ⟨rfl, none, none, none, rfl⟩
    · rintro j x ρ m' N hx ⟨rfl, v2, v3, v4, rfl⟩ hN
      rw [List.getElem?_map] at hx
      cases hy : pr.parts[j]? with
      | none => rw [hy] at hx; cases hx
      | some y =>
        rw [hy] at hx
        cases hx
        have hym := List.mem_of_getElem? hy
        refine ⟨rfl, y.2, rfl, hk y hym, ?_⟩
        dsimp only
        refine ⟨by rw [List.length_map]; have := hk y hym; omega, ?_⟩
        have e4 : (pr.parts.take (0 + j + 1)) = pr.parts.take (0 + j) ++ [y] := by
          rw [Nat.zero_add, List.take_succ, hy]
          rfl
        refine forW_inv (fun i ρ m'' => m'' = m' ∧ ∃ v4, ρ = [some (.val (prP pr)), some (.own (.dct ((foldA [] ((pr.parts.take (0 + j)).flatMap (fun x => x.2.lits) ++ y.2.lits.take i)).map entI))), some (.val (pathP y.1)), some (.val (prP y.2)), v4]) _ 0 _ _ ?_ ?_ ⟨rfl, v4, by rw [List.take_zero, List.append_nil]; rfl⟩
        · rintro i x ρ m'' N' hx ⟨rfl, v4, rfl⟩ hN'
          rw [List.getElem?_map] at hx
          cases hz : y.2.lits[i]? with
          | none => rw [hz] at hx; cases hx
          | some z =>
            rw [hz] at hx
            cases hx
            have e5 : y.2.lits.take (0 + i + 1) = y.2.lits.take (0 + i) ++ [z] := by
              rw [Nat.zero_add, List.take_succ, hz]
              rfl
            have hN2 := hN' [some (.val (prP pr)), some (.own (.dct ((foldA [] ((pr.parts.take (0 + j)).flatMap (fun x => x.2.lits) ++ y.2.lits.take (0 + i + 1))).map entI))), some (.val (pathP y.1)), some (.val (prP y.2)), some (.val (oP z))] _ ⟨rfl, _, rfl⟩
            rw [e5, ← List.append_assoc, foldA_app] at hN2
            cases z with
            | none => simpa [oP, foldA] using hN2
            | some i' =>
              have hlen : ((foldA [] ((pr.parts.take (0 + j)).flatMap (fun x => x.2.lits) ++ y.2.lits.take (0 + i))).map entI).length < 1000000 := by
                rw [List.length_map]
                have a1 := foldA_len [] ((pr.parts.take (0 + j)).flatMap (fun x => x.2.lits) ++ y.2.lits.take (0 + i))
                have a2 := flat_len (fun x : List Int × Pr => x.2.lits) 1000 (pr.parts.take (0 + j)) fun x hx => hk x (List.mem_of_mem_take hx)
                have a3 := hk y hym
                rw [List.length_append, List.length_take] at a1
                rw [List.length_take] at a2
                have a4 : min (0 + j) pr.parts.length * 1000 ≤ 64 * 1000 := Nat.mul_le_mul_right _ (by omega)
                simp only [List.length_nil] at a1
                omega
              have e6 : foldA (foldA [] ((pr.parts.take (0 + j)).flatMap (fun x => x.2.lits) ++ y.2.lits.take (0 + i))) [some i'] = addI (foldA [] ((pr.parts.take (0 + j)).flatMap (fun x => x.2.lits) ++ y.2.lits.take (0 + i))) i' := rfl
              rw [e6] at hN2
              simp only [Nat.zero_add, List.length_map] at hlen hN2
              simp [oP, pvK]
              refine ⟨_, ⟨hlen, rfl⟩, ?_⟩
              rw [pput_int]
              exact hN2
        · rintro ρ m'' ⟨rfl, v4, rfl⟩
          have hN3 := hN [some (.val (prP pr)), some (.own (.dct ((foldA [] ((pr.parts.take (0 + j + 1)).flatMap fun x => x.2.lits)).map entI))), some (.val (pathP y.1)), some (.val (prP y.2)), v4] m'' ⟨rfl, _, _, _, rfl⟩
          rw [e4, List.flatMap_append, List.flatMap_cons, List.flatMap_nil, List.append_nil] at hN3
          have e7 : y.2.lits.take (0 + (y.2.lits.map oP).length) = y.2.lits := by rw [List.length_map, Nat.zero_add, List.take_length]
          rw [e7]
          exact hN3
    · rintro ρ m' ⟨rfl, v2, v3, v4, rfl⟩
      have e8 : pr.parts.take (0 + (pr.parts.map partP).length) = pr.parts := by rw [List.length_map, Nat.zero_add, List.take_length]
      rw [e8]
      refine ⟨_, rfl, ?_⟩
      dsimp only
      rw [keysI]
      exact ⟨_, intsOf_map _, h⟩
  · exact h.elim
abbrev s_is_predicate : Stmt := top 18
theorem sc_is_predicate : FnScope ["width", "value"] ["width", "value"] (defScope s_is_predicate) := ⟨rfl, rfl, rfl, by decide +kernel, rfl, by decide +kernel, by decide +kernel⟩
/-- a predicate of the width, within the bounds -/
noncomputable def isPred (w : Int) (v : PV) : Bool := @decide (∃ pr : Pr, v = prP pr ∧ pr.good w = true) (Classical.propDecidable _)
theorem isPred_P (w : Int) (pr : Pr) : isPred w (prP pr) = pr.good w := by
  unfold isPred
  by_cases h : pr.good w = true
  · rw [h]; exact @decide_eq_true _ (Classical.propDecidable _) ⟨pr, rfl, h⟩
  · rw [Bool.not_eq_true] at h
    rw [h]
    refine @decide_eq_false _ (Classical.propDecidable _) fun ⟨q, e, hq⟩ => ?_
    rw [← prP_inj e, h] at hq
    cases hq
@[simp] def S_is_predicate (IW : Addr) : SpP := fun ps m Q R => match ps with
  | [p, v] => noRaw p ∧ (isWhole p 1 3 = false → R IW m) ∧ ∀ w, p = .int w → isWhole p 1 3 = true → okD v = true ∧ Q (.bl (isPred w v)) m
  | _ => False
theorem is_pred_ok {IW : Addr} {w : Int} {v : PV} {m : Mem} {Q : KV'} {R : KX} (hw : isWhole (.int w) 1 3 = true) (ho : okD v = true) (h : Q (.bl (isPred w v)) m) : S_is_predicate IW [.int w, v] m Q R :=
  ⟨trivial, fun z => absurd (hw.symm.trans z) (by decide), fun w' e _ => by cases e; exact ⟨ho, h⟩⟩
theorem prP_fits {w : Int} {v : PV} (h : fitsB w 6 v = false) : isPred w v = false := by
  refine @decide_eq_false _ (Classical.propDecidable _) fun ⟨pr, e1, e2⟩ => ?_
  subst e1
  simp only [Pr.good, Bool.and_eq_true, decide_eq_true_eq] at e2
  rw [fits_P e2.1.1.1 e2.1.1.2] at h
  cases h
theorem isPred_is {w : Int} {v : PV} (h : isPred w v = true) : ∃ pr, v = prP pr ∧ pr.good w = true := @of_decide_eq_true _ (Classical.propDecidable _) h
theorem good_ok {w : Int} {p : Pr} (h : p.good w = true) : p.ok w = true ∧ p.depth ≤ 6 ∧ p.parts.length ≤ 15 ∧ p.ints.length ≤ 3 := by
  simp only [Pr.good, Bool.and_eq_true, decide_eq_true_eq] at h
  exact ⟨h.1.1.1, h.1.1.2, h.1.2, h.2⟩
theorem lits_len {w : Int} {p : Pr} (h : p.ok w = true) : p.lits.length ≤ 1000 := by
  have ol : ∀ a : Opd, a.lits.length ≤ 1 := fun a => by cases a <;> simp [Opd.lits]
  cases p with
  | cmp o a b => have := ol a; have := ol b; simp only [Pr.lits, List.length_append]; omega
  | inn a l =>
    simp only [Pr.ok, lstOk, Bool.and_eq_true, decide_eq_true_eq] at h
    have := ol a; simp only [Pr.lits, List.length_append]; omega
  | qnt al o a l =>
    simp only [Pr.ok, lstOk, Bool.and_eq_true, decide_eq_true_eq] at h
    have := ol a; simp only [Pr.lits, List.length_append]; omega
  | nul a => have := ol a; simp only [Pr.lits]; omega
  | _ => simp [Pr.lits]
theorem parts_ok {w : Int} : ∀ {p : Pr}, p.ok w = true → ∀ x ∈ p.parts, x.2.ok w = true := by
  intro p
  induction p with
  | nott p ih =>
    intro h x hx
    simp only [Pr.parts, List.mem_cons, List.mem_map] at hx
    rcases hx with rfl | ⟨y, hy, rfl⟩
    · exact h
    · exact ih h y hy
  | iss t p ih =>
    intro h x hx
    simp only [Pr.parts, List.mem_cons, List.mem_map] at hx
    rcases hx with rfl | ⟨y, hy, rfl⟩
    · exact h
    · exact ih h y hy
  | bin or p q ih1 ih2 =>
    intro h x hx
    simp only [Pr.parts, List.mem_cons, List.mem_append, List.mem_map] at hx
    have h' := h
    simp only [Pr.ok, Bool.and_eq_true] at h'
    rcases hx with rfl | ⟨y, hy, rfl⟩ | ⟨y, hy, rfl⟩
    · exact h
    · exact ih1 h'.1 y hy
    · exact ih2 h'.2 y hy
  | _ =>
    intro h x hx
    simp only [Pr.parts, List.mem_cons, List.not_mem_nil, or_false] at hx
    subst hx
    exact h
theorem ok_is_predicate {f : Addr} {fd : FuncData} (F : Fun K "is_predicate" "is_predicate" s_is_predicate f fd) (bn : BN mg) (d_need_width : CalM P w K mg base T 2 "need_width" 1 (S_need_width C_InvalidWidth)) (d_fits : CalM P w K mg base T 10 "fits" 3 (S_fits 7)) (d_parts_of : CalM P w K mg base T 7 "parts_of" 1 (S_parts_of 6)) (d_integers_of : CalM P w K mg base T 8 "integers_of" 1 S_integers_of) :
    FnOk P w K mg base (L2N.CX P w) 11 f fd ["width", "value"] (spOf w K T 2 (S_is_predicate C_InvalidWidth)) := by
  have sc := sc_is_predicate
  refine fn_ok F sc fun cdv A outer s H H0 F0 m0 E hr => ⟨_, (jb_cons (js_expr (je_call d_need_width (hr.mono (by decide)) (ja_cons (je_var 0) ja_nil)))
  (jb_cons (js_if (jt_not (jt_val (je_call d_fits (hr.mono (by decide)) (ja_cons (je_var 0) (ja_cons (je_var 1) (ja_cons je_int ja_nil)))))) (jb_one (js_ret je_bl)) jb_nil)
  (jb_one (js_ret (je_and (je_cmp o_le (je_callB c_len (bn _ (by decide)) (ja_cons (je_call d_parts_of (hr.mono (by decide)) (ja_cons (je_var 1) ja_nil)) ja_nil)) je_int) (je_one (je_cmp o_le (je_callB c_len (bn _ (by decide)) (ja_cons (je_call d_integers_of (hr.mono (by decide)) (ja_cons (je_var 1) ja_nil)) ja_nil)) je_int))))))), ?_⟩
  intro qs m Q R h hl; clear hl
  unfold S_is_predicate at h
  split at h
  · rename_i p v
    obtain ⟨hp, h1, h2⟩ := h
    refine ⟨hp, fun e => ?_, h1⟩
    obtain ⟨w, rfl⟩ : ∃ w, p = .int w := by cases p <;> first | exact ⟨_, rfl⟩ | cases e
    obtain ⟨hv, hb⟩ := h2 w rfl e
    refine S_fits_mk (k := 6) (by decide) hv ?_
    cases ef : fitsB w 6 v with
    | false =>
      rw [prP_fits ef] at hb
      exact hb
    | true =>
      obtain ⟨pr, rfl, ho, hd⟩ := fits_is ef
      rw [isPred_P] at hb
      have pl := parts_len pr
      have h2 := Nat.pow_le_pow_right (show 0 < 2 by decide) hd
      have h3 : 2 ^ 6 = 64 := by decide
      refine S_parts_mk hd (by omega) ?_
      dsimp only [wNil, gLen, wC, gCmpI, bTst]
      rw [List.length_map]
      cases e1 : decide ((pr.parts.length : Int) ≤ 15) with
      | false =>
        have : ¬ pr.parts.length ≤ 15 := fun z => by rw [decide_eq_false_iff_not] at e1; omega
        simpa [Pr.good, this] using hb
      | true =>
        have e2 : pr.parts.length ≤ 15 := by rw [decide_eq_true_eq] at e1; omega
        refine ⟨pr, rfl, hd, fun x hx => lits_len (parts_ok ho x hx), ?_⟩
        dsimp only [wNil, gLen, wC, gCmpI, bTst]
        rw [List.length_map]
        have e3 : decide ((pr.ints.length : Int) ≤ 3) = pr.good w := by
          simp only [Pr.good, ho, hd, e2, decide_true, Bool.true_and]
          by_cases q : pr.ints.length ≤ 3
          · rw [decide_eq_true q, decide_eq_true (by omega)]
          · rw [decide_eq_false q, decide_eq_false (by omega)]
        rw [e3]
        exact hb
  · exact h.elim
abbrev s_need_predicate : Stmt := top 19
theorem sc_need_predicate : FnScope ["width", "predicate"] ["width", "predicate"] (defScope s_need_predicate) := ⟨rfl, rfl, rfl, by decide +kernel, rfl, by decide +kernel, by decide +kernel⟩
@[simp] def S_need_predicate (IW IP : Addr) : SpP := fun ps m Q R => match ps with
  | [p, v] => noRaw p ∧ (isWhole p 1 3 = false → R IW m) ∧ ∀ w, p = .int w → isWhole p 1 3 = true → okD v = true ∧ (isPred w v = true → Q .non m) ∧ (isPred w v = false → R IP m)
  | _ => False
theorem ok_need_predicate {f : Addr} {fd : FuncData} (F : Fun K "need_predicate" "need_predicate" s_need_predicate f fd) (bn : BN mg) (d_is_predicate : CalM P w K mg base T 11 "is_predicate" 2 (S_is_predicate C_InvalidWidth)) (x_InvalidPredicate : ExcP K mg "InvalidPredicate" C_InvalidPredicate) :
    FnOk P w K mg base (L2N.CX P w) 12 f fd ["width", "predicate"] (spOf w K T 2 (S_need_predicate C_InvalidWidth C_InvalidPredicate)) := by
  have sc := sc_need_predicate
  refine fn_ok F sc fun cdv A outer s H H0 F0 m0 E hr => ⟨_, (jb_one (js_if (jt_not (jt_val (je_call d_is_predicate (hr.mono (by decide)) (ja_cons (je_var 0) (ja_cons (je_var 1) ja_nil))))) (jb_one (js_raise x_InvalidPredicate rfl)) jb_nil)), ?_⟩
  intro qs m Q R h hl; clear hl
  unfold S_need_predicate at h
  split at h
  · rename_i p v
    obtain ⟨hp, h1, h2⟩ := h
    refine ⟨hp, h1, fun w e hw => ⟨(h2 w e hw).1, ?_⟩⟩
    obtain ⟨_, a, b⟩ := h2 w e hw
    cases e2 : isPred w v with
    | true => exact a e2
    | false => exact b e2
  · exact h.elim
end
end PL


namespace PL
open PySem PySem.Spec PyProof.Rows L2
section
variable {P : Program} {w : World} {K : PySem.W.Frag} {mg : Str → Option Value} {base : Heap} {T : List (Addr × Str)} {C_FilterError C_InvalidWidth C_InvalidPredicate : Addr}
abbrev s__law_cell : Stmt := top 30
theorem sc__law_cell : FnScope ["_law_script", "_law_k"] ["_law_script", "_law_k"] (defScope s__law_cell) := ⟨rfl, rfl, rfl, by decide +kernel, rfl, by decide +kernel, by decide +kernel⟩
@[simp] def S__law_cell : SpP := fun ps m Q R => match ps with
  | [.scr ns, .int k] => 0 ≤ k ∧ ns.length ≤ 1000 ∧ ∀ z, Q (.int z) m
  | _ => False
theorem atI_some {α : Type} {xs : List α} {i : Int} (h0 : 0 ≤ i) (h1 : i < xs.length) : ∃ x, atI xs i = some x ∧ xs[i.toNat]? = some x := by
  have h2 : i.toNat < xs.length := by omega
  refine ⟨xs[i.toNat], ?_, List.getElem?_eq_getElem h2⟩
  unfold atI ixN
  rw [if_pos h0, if_pos h1]
  exact List.getElem?_eq_getElem h2
theorem log2_small {n : Nat} (h : n < 2 ^ 20) : n.log2 < 9000 := by
  by_cases e : n = 0
  · subst e; decide
  · exact Nat.lt_of_lt_of_le ((Nat.log2_lt e).mpr h) (by decide)
theorem divW {i j : Int} (h0 : 0 < j) (h1 : j < 1048576) : CDivW i j := ⟨h0, log2_small (by omega)⟩
theorem ok__law_cell {f : Addr} {fd : FuncData} (F : Fun K "_law_cell" "_law_cell" s__law_cell f fd) (bn : BN mg)  :
    FnOk P w K mg base (L2N.CX P w) 1 f fd ["_law_script", "_law_k"] (spOf w K T 2 S__law_cell) := by
  have sc := sc__law_cell
  refine fn_ok F sc fun cdv A outer s H H0 F0 m0 E hr => ⟨_, (jb_cons (js_if (jt_cmp (o_eq (rm_of hr)) (je_var 0) (je_lst ja_nil)) (jb_one (js_ret (je_op o_mul (je_var 1) je_int))) jb_nil)
  (jb_one (js_ret (je_op o_add (je_ix (je_var 0) (je_op o_mod (je_var 1) (je_callB c_len (bn _ (by decide)) (ja_cons (je_var 0) ja_nil)))) (je_op o_mul (je_op o_div (je_var 1) (je_callB c_len (bn _ (by decide)) (ja_cons (je_var 0) ja_nil))) je_int))))), ?_⟩
  intro qs m Q R h hl; clear hl
  unfold S__law_cell at h
  split at h
  · rename_i ns k
    obtain ⟨h0, hz, hQ⟩ := h
    cases ns with
    | nil =>
      simp
      exact ⟨Nat.le_trans (Nat.min_le_right _ _) (by decide), CMul.ok (.inr ⟨by decide, by decide⟩), hQ _⟩
    | cons n ns =>
      simp only [List.length_cons] at hz
      have hp : (0 : Int) < (ns.length : Int) + 1 := by omega
      obtain ⟨x, hx, _⟩ := atI_some (xs := n :: ns) (i := k % ((ns.length : Int) + 1)) (Int.emod_nonneg _ (by omega)) (by simpa using Int.emod_lt_of_pos k hp)
      simp [hp, hx]
      exact ⟨Nat.le_trans (Nat.min_le_right _ _) (by decide), divW hp (by omega), CMul.ok (.inr ⟨by decide, by decide⟩), hQ _⟩
  · exact h.elim
abbrev s__law_drawn : Stmt := top 31
theorem sc__law_drawn : FnScope ["_law_cell_here", "_law_k", "_law_more"] ["_law_cell_here", "_law_k"] (defScope s__law_drawn) := ⟨rfl, rfl, rfl, by decide +kernel, rfl, by decide +kernel, by decide +kernel⟩
@[simp] def S__law_drawn : SpP := fun ps m Q R => match ps with
  | [.int c, .int k] => ∀ z, 0 ≤ z → Q (.int z) m
  | _ => False
theorem mulBits {a b : Int} {i j : Nat} (ha : a.natAbs < 2 ^ i) (hb : b.natAbs < 2 ^ j) (h : i + j ≤ 1000) : IntMulOk a b :=
  IntMulOk.of_le (intBits_le_iff.mpr ha) (intBits_le_iff.mpr hb) (by omega)
theorem ok__law_drawn {f : Addr} {fd : FuncData} (F : Fun K "_law_drawn" "_law_drawn" s__law_drawn f fd) (bn : BN mg)  :
    FnOk P w K mg base (L2N.CX P w) 1 f fd ["_law_cell_here", "_law_k"] (spOf w K T 2 S__law_drawn) := by
  have sc := sc__law_drawn
  refine fn_ok F sc fun cdv A outer s H H0 F0 m0 E hr => ⟨_, (jb_cons (js_set 2 sc.nd (je_op o_mod (je_op o_add (je_op o_mul (je_var 0) je_int) (je_op o_mul (je_op o_add (je_var 1) je_int) je_int)) je_int))
  (jb_cons (js_set 2 sc.nd (je_op o_mod (je_op o_mul (je_var 2) (je_var 2)) je_int))
  (jb_cons (js_set 2 sc.nd (je_op o_mul (je_op o_mul (je_op o_add (je_op o_mod (je_var 2) je_int) je_int) (je_op o_add (je_op o_div (je_var 2) je_int) je_int)) (je_var 2)))
  (jb_one (js_ret (je_op o_mod (je_var 2) je_int)))))), ?_⟩
  intro qs m Q R h hl; clear hl
  unfold S__law_drawn at h
  split at h
  · rename_i c k
    simp
    refine ⟨CMul.ok (.inr ⟨by decide, by decide⟩), CMul.ok (.inr ⟨by decide, by decide⟩), ?_⟩
    have a0 := Int.emod_nonneg (c * 6364136223846793005 + (k + 1) * 1442695040888963407) (show (340282366920938463463374607431768211507 : Int) ≠ 0 by decide)
    have a1 := Int.emod_lt_of_pos (c * 6364136223846793005 + (k + 1) * 1442695040888963407) (show (0 : Int) < 340282366920938463463374607431768211507 by decide)
    generalize (c * 6364136223846793005 + (k + 1) * 1442695040888963407) % 340282366920938463463374607431768211507 = a at *
    refine ⟨mulBits (i := 130) (j := 130) (by omega) (by omega) (by decide), ?_⟩
    have b0 := Int.emod_nonneg (a * a) (show (340282366920938463463374607431768211297 : Int) ≠ 0 by decide)
    have b1 := Int.emod_lt_of_pos (a * a) (show (0 : Int) < 340282366920938463463374607431768211297 by decide)
    generalize a * a % 340282366920938463463374607431768211297 = b at *
    refine ⟨⟨by decide, by decide +kernel⟩, ?_⟩
    have c0 := Int.emod_nonneg b (show (18446744073709551557 : Int) ≠ 0 by decide)
    have c1 := Int.emod_lt_of_pos b (show (0 : Int) < 18446744073709551557 by decide)
    have d0 : 0 ≤ b / 18446744073709551557 := by omega
    have d1 : b / 18446744073709551557 < 340282366920938463463374607431768211297 := by omega
    generalize b % 18446744073709551557 = x at *
    generalize b / 18446744073709551557 = y at *
    have e : ((x + 1) * (y + 1)).natAbs < 2 ^ 262 := by
      rw [Int.natAbs_mul]
      calc (x + 1).natAbs * (y + 1).natAbs < 2 ^ 131 * 2 ^ 131 := Nat.mul_lt_mul'' (by omega) (by omega)
        _ = 2 ^ 262 := by decide
    refine ⟨mulBits (i := 130) (j := 130) (by omega) (by omega) (by decide), mulBits (i := 262) (j := 130) e (by omega) (by decide), h _ (Int.emod_nonneg _ (by decide))⟩
  · exact h.elim
abbrev s__law_roll : Stmt := top 32
theorem sc__law_roll : FnScope ["_law_dice", "_law_many", "_law_told"] ["_law_dice", "_law_many"] (defScope s__law_roll) := ⟨rfl, rfl, rfl, by decide +kernel, rfl, by decide +kernel, by decide +kernel⟩
@[simp] def S__law_roll : SpP := fun ps m Q R => match ps with
  | [.raw (.ref a), .int many] => m a = some .dice ∧ 0 < many ∧ many ≤ 1000000 ∧ ∀ r, 0 ≤ r → r < many → Q (.int r) m
  | _ => False
theorem ok__law_roll {f : Addr} {fd : FuncData} (F : Fun K "_law_roll" "_law_roll" s__law_roll f fd) (bn : BN mg) (d__law_drawn : CalM P w K mg base T 1 "_law_drawn" 2 S__law_drawn) :
    FnOk P w K mg base (L2N.CX P w) 2 f fd ["_law_dice", "_law_many"] (spOf w K T 2 S__law_roll) := by
  have sc := sc__law_roll
  refine fn_ok F sc fun cdv A outer s H H0 F0 m0 E hr => ⟨_, (jb_cons (js_if (jt_cmp o_ge (je_dice0 0) (je_op o_pow je_int je_int)) (jb_cons (js_set 2 sc.nd (je_op o_mod (je_dice0 0) (je_var 1)))
  (jb_cons (js_dice0 0 (je_op o_div (je_dice0 0) (je_var 1)))
  (jb_one (js_ret (je_var 2))))) jb_nil)
  (jb_cons (js_dice1 0 (je_op o_add (je_dice1 0) je_int))
  (jb_one (js_ret (je_op o_mod (je_op o_div (je_call d__law_drawn (hr.mono (by decide)) (ja_cons (je_dice0 0) (ja_cons (je_dice1 0) ja_nil))) je_int) (je_var 1)))))), ?_⟩
  intro qs m Q R h hl; clear hl
  unfold S__law_roll at h
  split at h
  · rename_i a many
    obtain ⟨hm, h0, h1, hQ⟩ := h
    have hd : CPow 10 18 := ⟨by decide, by decide, by decide⟩
    have r0 : ∀ z : Int, 0 ≤ z % many := fun z => Int.emod_nonneg z (by omega)
    have r1 : ∀ z : Int, z % many < many := fun z => Int.emod_lt_of_pos z h0
    simp [hm, hd, h0]
    intro z
    by_cases e : (1000000000000000000 : Int) ≤ z
    · simp [e]
      intros
      exact ⟨divW h0 (by omega), hQ _ (r0 _) (r1 _)⟩
    · simp [e]
      intros
      exact ⟨divW (by decide) (by decide), hQ _ (r0 _) (r1 _)⟩
  · exact h.elim
abbrev s__law_rounds : Stmt := top 33
theorem sc__law_rounds : FnScope ["_law_script", "_law_most", "_law_k"] ["_law_script", "_law_most"] (defScope s__law_rounds) := ⟨rfl, rfl, rfl, by decide +kernel, rfl, by decide +kernel, by decide +kernel⟩
@[simp] def S__law_rounds : SpP := fun ps m Q R => match ps with
  | [.scr ns, .int most] => ns.length ≤ 63 ∧ 1 ≤ most ∧ most ≤ 63 ∧ ∀ (as : List Addr) (m' : Mem), as.length ≤ 63 → (∀ a ∈ as, m' a = some .dice) → Q (.lst (as.map fun a => .raw (.ref a))) m'
  | _ => False
theorem ok__law_rounds {f : Addr} {fd : FuncData} (F : Fun K "_law_rounds" "_law_rounds" s__law_rounds f fd) (bn : BN mg) (d__law_cell : CalM P w K mg base T 1 "_law_cell" 2 S__law_cell) :
    FnOk P w K mg base (L2N.CX P w) 2 f fd ["_law_script", "_law_most"] (spOf w K T 2 S__law_rounds) := by
  have sc := sc__law_rounds
  refine fn_ok F sc fun cdv A outer s H H0 F0 m0 E hr => ⟨_, (jb_one (js_ret (je_lc (own := [("_law_k", 2)]) rfl sc.nd (ji_rng1 (bn _ (by decide)) (ja_cons (je_callB (c_max rfl) (bn _ (by decide)) (ja_cons je_int (ja_cons (je_callB (c_min rfl) (bn _ (by decide)) (ja_cons (je_var 1) (ja_cons (je_callB c_len (bn _ (by decide)) (ja_cons (je_var 0) ja_nil)) ja_nil))) ja_nil))) ja_nil)) (blkOk_by (show blkC ["_law_script", "_law_most", "_law_k"] (defScope s__law_rounds) _ [("_law_k", 2)] = true by decide +kernel)) (fun _ _ _ _ _ => (jg_name 2 sc.nd)) (fun _ _ _ _ _ => jts_nil) (fun _ _ _ _ _ => (je_mkdice (ja_cons (je_call d__law_cell (hr.mono (by decide)) (ja_cons (je_var 0) (ja_cons (je_var 2) ja_nil))) (ja_cons je_int ja_nil))))))), ?_⟩
  intro qs m Q R h hl; clear hl
  unfold S__law_rounds at h
  split at h
  · rename_i ns most
    obtain ⟨h0, h1, h2, hQ⟩ := h
    simp
    refine ⟨by omega, compW_inv (fun j acc m' => ∃ as : List Addr, as.length = j ∧ acc = as.map (fun a => PV.raw (.ref a)) ∧ ∀ a ∈ as, m' a = some .dice) _ 0 [] m ?_ ?_ ⟨[], rfl, rfl, fun a h => nomatch h⟩⟩
    · rintro j x acc m' N hx ⟨as, hl, rfl, ha⟩ hN
      obtain ⟨k, hk, rfl⟩ := List.mem_map.mp (List.mem_of_getElem? hx)
      simp
      refine ⟨by omega, fun a hf => ?_⟩
      refine hN _ _ ⟨as ++ [a], by simp; omega, by simp, fun b hb => ?_⟩
      rcases List.mem_append.mp hb with hb | hb
      · have ne : b ≠ a := fun z => by have := ha b hb; rw [z, hf] at this; cases this
        rw [mset_ne ne]
        exact ha b hb
      · rw [List.mem_singleton.mp hb, mset_same]
    · rintro acc m' ⟨as, hl, rfl, ha⟩
      refine hQ as m' ?_ ha
      simp [rngP] at hl
      omega
  · exact h.elim
-- no template: _law_term
-- no template: _law_told
abbrev s__law_any_ints : Stmt := top 34
theorem sc__law_any_ints : FnScope ["_law_dice", "_law_first", "_law_second"] ["_law_dice"] (defScope s__law_any_ints) := ⟨rfl, rfl, rfl, by decide +kernel, rfl, by decide +kernel, by decide +kernel⟩
@[simp] def S__law_any_ints : SpP := fun ps m Q R => match ps with
  | [.raw (.ref a)] => m a = some .dice ∧ ∀ I : List Int, Rise I → Q (.lst (I.map PV.int)) m
  | _ => False
theorem ok__law_any_ints {f : Addr} {fd : FuncData} (F : Fun K "_law_any_ints" "_law_any_ints" s__law_any_ints f fd) (bn : BN mg) (d__law_roll : CalM P w K mg base T 2 "_law_roll" 2 S__law_roll) :
    FnOk P w K mg base (L2N.CX P w) 3 f fd ["_law_dice"] (spOf w K T 1 S__law_any_ints) := by
  have sc := sc__law_any_ints
  refine fn_ok F sc fun cdv A outer s H H0 F0 m0 E hr => ⟨_, (jb_cons (js_set 1 sc.nd (je_op o_add (je_op o_sub (je_call d__law_roll (hr.mono (by decide)) (ja_cons (je_var 0) (ja_cons je_int ja_nil))) je_int) (je_ix (je_lst (ja_cons je_int (ja_cons je_int (ja_cons je_int (ja_cons (je_neg je_int) ja_nil))))) (je_call d__law_roll (hr.mono (by decide)) (ja_cons (je_var 0) (ja_cons je_int ja_nil))))))
  (jb_cons (js_set 2 sc.nd (je_op o_add (je_op o_add (je_var 1) je_int) (je_call d__law_roll (hr.mono (by decide)) (ja_cons (je_var 0) (ja_cons je_int ja_nil)))))
  (jb_one (js_ret (je_lst (ja_cons (je_var 1) (ja_cons (je_var 2) (ja_cons (je_op o_add (je_op o_add (je_var 2) je_int) (je_call d__law_roll (hr.mono (by decide)) (ja_cons (je_var 0) (ja_cons je_int ja_nil)))) ja_nil)))))))), ?_⟩
  intro qs m Q R h hl; clear hl
  unfold S__law_any_ints at h
  split at h
  · rename_i a
    obtain ⟨hm, hQ⟩ := h
    simp [hm]
    intro r r0 r1 s s0 s1
    have fin : ∀ f : Int, -705 ≤ f → f ≤ 302 → ∀ (r : Int), 0 ≤ r → r < 3 → ∀ (r_1 : Int), 0 ≤ r_1 → r_1 < 3 → Q (PV.lst [PV.int f, PV.int (f + 1 + r), PV.int (f + 1 + r + 1 + r_1)]) m := fun f f0 f1 x x0 x1 y y0 y1 => hQ [f, f + 1 + x, f + 1 + x + 1 + y] ⟨_, _, _, rfl, by omega, by omega, by omega, by omega⟩
    have hs : s = 0 ∨ s = 1 ∨ s = 2 ∨ s = 3 := by omega
    rcases hs with rfl | rfl | rfl | rfl
    · exact ⟨_, rfl, fun x x0 x1 y y0 y1 => fin _ (by omega) (by omega) x x0 x1 y y0 y1⟩
    · exact ⟨_, rfl, fun x x0 x1 y y0 y1 => fin _ (by omega) (by omega) x x0 x1 y y0 y1⟩
    · exact ⟨_, rfl, fun x x0 x1 y y0 y1 => fin _ (by omega) (by omega) x x0 x1 y y0 y1⟩
    · exact ⟨_, rfl, fun x x0 x1 y y0 y1 => fin _ (by omega) (by omega) x x0 x1 y y0 y1⟩
  · exact h.elim
abbrev s__law_any_operand : Stmt := top 35
theorem sc__law_any_operand : FnScope ["_law_dice", "_law_width", "_law_ints", "_law_act"] ["_law_dice", "_law_width", "_law_ints"] (defScope s__law_any_operand) := ⟨rfl, rfl, rfl, by decide +kernel, rfl, by decide +kernel, by decide +kernel⟩
theorem atI_ints {I : List Int} (hI : Rise I) {z : Int} (z0 : 0 ≤ z) (z1 : z < 4) : ∃ v : Option Int, atI (I.map PV.int ++ [PV.non]) z = some (oP v) ∧ ∀ i ∈ v.toList, i ∈ I := by
  obtain ⟨a, b, c, rfl, _⟩ := hI
  have hz : z = 0 ∨ z = 1 ∨ z = 2 ∨ z = 3 := by omega
  rcases hz with rfl | rfl | rfl | rfl
  · exact ⟨some a, rfl, by simp⟩
  · exact ⟨some b, rfl, by simp⟩
  · exact ⟨some c, rfl, by simp⟩
  · exact ⟨none, rfl, by simp⟩
@[simp] def S__law_any_operand : SpP := fun ps m Q R => match ps with
  | [.raw (.ref a), .int w, .lst xs] => m a = some .dice ∧ 1 ≤ w ∧ w ≤ 3 ∧ ∃ I, Rise I ∧ xs = I.map PV.int ∧ ∀ o : Opd, DrawnO w I false o → Q (opdP o) m
  | _ => False
theorem ok__law_any_operand {f : Addr} {fd : FuncData} (F : Fun K "_law_any_operand" "_law_any_operand" s__law_any_operand f fd) (bn : BN mg) (d__law_roll : CalM P w K mg base T 2 "_law_roll" 2 S__law_roll) :
    FnOk P w K mg base (L2N.CX P w) 3 f fd ["_law_dice", "_law_width", "_law_ints"] (spOf w K T 3 S__law_any_operand) := by
  have sc := sc__law_any_operand
  refine fn_ok F sc fun cdv A outer s H H0 F0 m0 E hr => ⟨_, (jb_cons (js_set 3 sc.nd (je_call d__law_roll (hr.mono (by decide)) (ja_cons (je_var 0) (ja_cons je_int ja_nil))))
  (jb_cons (js_if (jt_cmp o_lt (je_var 3) je_int) (jb_one (js_ret (je_tup (ja_cons je_str (ja_cons (je_op o_mod (je_var 3) (je_var 1)) ja_nil))))) jb_nil)
  (jb_one (js_ret (je_tup (ja_cons je_str (ja_cons (je_ix (je_op o_add (je_var 2) (je_lst (ja_cons je_non ja_nil))) (je_call d__law_roll (hr.mono (by decide)) (ja_cons (je_var 0) (ja_cons je_int ja_nil)))) ja_nil))))))), ?_⟩
  intro qs m Q R h hl; clear hl
  unfold S__law_any_operand at h
  split at h
  · rename_i a w xs
    obtain ⟨hm, w0, w1, I, hI, rfl, hQ⟩ := h
    simp [hm]
    intro r r0 r1
    by_cases e : r < 6
    · simp [e]
      have c0 := Int.emod_nonneg r (show w ≠ 0 by omega)
      have c1 := Int.emod_lt_of_pos r (show 0 < w by omega)
      exact ⟨by omega, hQ (.col (r % w)) ⟨by simp only [Opd.ok, Bool.and_eq_true, decide_eq_true_eq]; omega, (fun i h => by simp [Opd.li] at h), fun _ => rfl⟩⟩
    · simp [e, hm, hI.len]
      intro z z0 z1
      obtain ⟨v, e, hv⟩ := atI_ints hI z0 z1
      refine ⟨_, e, hQ (.lit v) ⟨?_, fun i h => hv i (by simpa [Opd.li] using h), fun e => nomatch e⟩⟩
      cases v with
      | none => rfl
      | some i => simpa [Opd.ok, litOk] using hI.lit (hv i (by simp))
  · exact h.elim
abbrev s__law_any_list : Stmt := top 36
theorem sc__law_any_list : FnScope ["_law_dice", "_law_ints", "_law_turn"] ["_law_dice", "_law_ints"] (defScope s__law_any_list) := ⟨rfl, rfl, rfl, by decide +kernel, rfl, by decide +kernel, by decide +kernel⟩
@[simp] def S__law_any_list : SpP := fun ps m Q R => match ps with
  | [.raw (.ref a), .lst xs] => m a = some .dice ∧ ∃ I, Rise I ∧ xs = I.map PV.int ∧ ∀ l : Row, DrawnL I false l → Q (rowP l) m
  | _ => False
theorem ok__law_any_list {f : Addr} {fd : FuncData} (F : Fun K "_law_any_list" "_law_any_list" s__law_any_list f fd) (bn : BN mg) (d__law_roll : CalM P w K mg base T 2 "_law_roll" 2 S__law_roll) :
    FnOk P w K mg base (L2N.CX P w) 3 f fd ["_law_dice", "_law_ints"] (spOf w K T 2 S__law_any_list) := by
  have sc := sc__law_any_list
  refine fn_ok F sc fun cdv A outer s H H0 F0 m0 E hr => ⟨_, (jb_one (js_ret (je_callTy c_tuple (bn _ (by decide)) (ja_cons (je_lc (own := [("_law_turn", 2)]) rfl sc.nd (ji_rng1 (bn _ (by decide)) (ja_cons (je_call d__law_roll (hr.mono (by decide)) (ja_cons (je_var 0) (ja_cons je_int ja_nil))) ja_nil)) (blkOk_by (show blkC ["_law_dice", "_law_ints", "_law_turn"] (defScope s__law_any_list) _ [("_law_turn", 2)] = true by decide +kernel)) (fun _ _ _ _ _ => (jg_name 2 sc.nd)) (fun _ _ _ _ _ => jts_nil) (fun _ _ _ _ _ => (je_ix (je_op o_add (je_var 1) (je_lst (ja_cons je_non ja_nil))) (je_call d__law_roll (hr.mono (by decide)) (ja_cons (je_var 0) (ja_cons je_int ja_nil)))))) ja_nil)))), ?_⟩
  intro qs m Q R h hl; clear hl
  unfold S__law_any_list at h
  split at h
  · rename_i a xs
    obtain ⟨hm, I, hI, rfl, hQ⟩ := h
    simp [hm]
    intro n n0 n1
    refine ⟨by omega, compW_inv (fun j acc m2 => m2 = m ∧ ∃ l : Row, l.length = j ∧ acc = l.map oP ∧ ∀ i ∈ rowI l, i ∈ I) _ 0 [] m ?_ ?_ ⟨rfl, [], rfl, rfl, (fun o h => nomatch h)⟩⟩
    · rintro j y acc m2 N hy ⟨rfl, l, hl, rfl, hi⟩ hN
      simp [hm, hI.len]
      intro z z0 z1
      obtain ⟨v, e, hv⟩ := atI_ints hI z0 z1
      refine ⟨_, e, ?_⟩
      have := hN (l.map oP ++ [oP v]) _ ⟨rfl, l ++ [v], by simp; omega, by simp, fun i h => ?_⟩
      · exact this
      · simp only [rowI, List.filterMap_append, List.mem_append] at h
        rcases h with h | h
        · exact hi i h
        · exact hv i (by cases v <;> simpa using h)
    · rintro acc m2 ⟨rfl, l, hl, rfl, hi⟩
      simp [rngP] at hl
      exact hQ l ⟨by omega, hi, fun e => nomatch e⟩
  · exact h.elim
abbrev s__law_any_leaf : Stmt := top 37
theorem sc__law_any_leaf : FnScope ["_law_dice", "_law_width", "_law_ints", "_law_bare", "_law_act", "_law_op", "_law_one", "_law_other", "_law_some", "_law_literal"] ["_law_dice", "_law_width", "_law_ints", "_law_bare"] (defScope s__law_any_leaf) := ⟨rfl, rfl, rfl, by decide +kernel, rfl, by decide +kernel, by decide +kernel⟩
theorem ops_at {z : Int} (z0 : 0 ≤ z) (z1 : z < 4) : ∃ o : Op4, atI [PV.str "=", PV.str "!=", PV.str "<", PV.str "<="] z = some (.str o.s) := by
  have hz : z = 0 ∨ z = 1 ∨ z = 2 ∨ z = 3 := by omega
  rcases hz with rfl | rfl | rfl | rfl
  · exact ⟨.eq, rfl⟩
  · exact ⟨.ne, rfl⟩
  · exact ⟨.lt, rfl⟩
  · exact ⟨.le, rfl⟩
theorem truth_at {z : Int} (z0 : 0 ≤ z) (z1 : z < 3) : ∃ t : Option Bool, atI [PV.str "true", PV.str "false", PV.str "unknown"] z = some (.str (truthS t)) ∧ (z < 2 → t.isSome = true) := by
  have hz : z = 0 ∨ z = 1 ∨ z = 2 := by omega
  rcases hz with rfl | rfl | rfl
  · exact ⟨some true, rfl, fun _ => rfl⟩
  · exact ⟨some false, rfl, fun _ => rfl⟩
  · exact ⟨none, rfl, fun h => by omega⟩
theorem okD_opd (a : Opd) : okD (opdP a) = true := by
  cases a with
  | col i => simp [opdP]
  | lit v => cases v <;> simp [opdP, oP]
theorem dep_opd (a : Opd) : dep (opdP a) = 1 := by
  cases a with
  | col i => simp [opdP]
  | lit v => cases v <;> simp [opdP, oP]
theorem peq_opd (a : Opd) : peq (opdP a) (.tup [.str "value", .non]) = !a.known := by
  cases a with
  | col i => simp (decide := true) [opdP, Opd.known, str_beq]
  | lit v => cases v <;> simp (decide := true) [opdP, oP, Opd.known, str_beq]
theorem is_value_opd (a : Opd) (Q : PV → Prop) (h : Q (.bl (!a.known))) : gEq (opdP a) (.tup [.str "value", .non]) Q := by
  refine ⟨okD_opd a, by decide +kernel, by rw [dep_opd]; exact Nat.le_trans (Nat.min_le_left _ _) (by decide), ?_⟩
  rw [peq_opd]
  exact h
@[simp] def S__law_any_leaf : SpP := fun ps m Q R => match ps with
  | [.raw (.ref a), .int w, .lst xs, .bl bare] => m a = some .dice ∧ 1 ≤ w ∧ w ≤ 3 ∧ ∃ I, Rise I ∧ xs = I.map PV.int ∧ ∀ p : Pr, Drawn w I 1 bare p → Q (prP p) m
  | _ => False
theorem ok__law_any_leaf {f : Addr} {fd : FuncData} (F : Fun K "_law_any_leaf" "_law_any_leaf" s__law_any_leaf f fd) (bn : BN mg) (d__law_any_list : CalM P w K mg base T 3 "_law_any_list" 2 S__law_any_list) (d__law_roll : CalM P w K mg base T 2 "_law_roll" 2 S__law_roll) (d__law_any_operand : CalM P w K mg base T 3 "_law_any_operand" 3 S__law_any_operand) :
    FnOk P w K mg base (L2N.CX P w) 4 f fd ["_law_dice", "_law_width", "_law_ints", "_law_bare"] (spOf w K T 4 S__law_any_leaf) := by
  have sc := sc__law_any_leaf
  refine fn_ok F sc fun cdv A outer s H H0 F0 m0 E hr => ⟨_, (jb_cons (js_par 4 5 rfl sc.nd (ja_cons (je_call d__law_roll (hr.mono (by decide)) (ja_cons (je_var 0) (ja_cons je_int ja_nil))) (ja_cons (je_ix (je_lst (ja_cons je_str (ja_cons je_str (ja_cons je_str (ja_cons je_str ja_nil))))) (je_call d__law_roll (hr.mono (by decide)) (ja_cons (je_var 0) (ja_cons je_int ja_nil)))) ja_nil)))
  (jb_cons (js_par 6 7 rfl sc.nd (ja_cons (je_call d__law_any_operand (hr.mono (by decide)) (ja_cons (je_var 0) (ja_cons (je_var 1) (ja_cons (je_var 2) ja_nil)))) (ja_cons (je_call d__law_any_operand (hr.mono (by decide)) (ja_cons (je_var 0) (ja_cons (je_var 1) (ja_cons (je_var 2) ja_nil)))) ja_nil)))
  (jb_cons (js_set 8 sc.nd (je_call d__law_any_list (hr.mono (by decide)) (ja_cons (je_var 0) (ja_cons (je_var 2) ja_nil))))
  (jb_consC (js_if (jt_val (je_var 3)) (jb_consC (js_set 6 sc.nd (je_if (jt_cmp (o_eq (rm_of hr)) (je_var 6) (je_tup (ja_cons je_str (ja_cons je_non ja_nil)))) (je_tup (ja_cons je_str (ja_cons je_int ja_nil))) (je_var 6)))
  (jb_consC (js_set 7 sc.nd (je_if (jt_cmp (o_eq (rm_of hr)) (je_var 7) (je_tup (ja_cons je_str (ja_cons je_non ja_nil)))) (je_tup (ja_cons je_str (ja_cons (je_ix (je_var 2) je_int) ja_nil))) (je_var 7)))
  (jb_one (js_set 8 sc.nd (je_callTy c_tuple (bn _ (by decide)) (ja_cons (je_lc (own := [("_law_literal", 9)]) rfl sc.nd (ji_tup (je_var 8)) (blkOk_by (show blkC ["_law_dice", "_law_width", "_law_ints", "_law_bare", "_law_act", "_law_op", "_law_one", "_law_other", "_law_some", "_law_literal"] (defScope s__law_any_leaf) _ [("_law_literal", 9)] = true by decide +kernel)) (fun _ _ _ _ _ => (jg_name 9 sc.nd)) (fun _ _ _ _ _ => (jts_one (jt_cmp o_isnot (je_var 9) je_non))) (fun _ _ _ _ _ => (je_var 9))) ja_nil)))))) jb_nil)
  (jb_cons (js_if (jt_cmp (o_eq (rm_of hr)) (je_var 4) je_int) (jb_one (js_ret (je_tup (ja_cons je_str (ja_cons (je_var 6) (ja_cons (je_var 8) ja_nil)))))) jb_nil)
  (jb_cons (js_if (jt_cmp o_lt (je_var 4) je_int) (jb_one (js_ret (je_tup (ja_cons (je_ix (je_lst (ja_cons je_str (ja_cons je_str ja_nil))) (je_op o_sub (je_var 4) je_int)) (ja_cons (je_var 5) (ja_cons (je_var 6) (ja_cons (je_var 8) ja_nil))))))) jb_nil)
  (jb_cons (js_if (JW.jt (jw_and (jt_cmp (o_eq (rm_of hr)) (je_var 4) je_int) (jw_and1 (jt_not (jt_val (je_var 3)))))) (jb_one (js_ret (je_tup (ja_cons je_str (ja_cons (je_var 6) ja_nil))))) jb_nil)
  (jb_cons (js_if (jt_cmp (o_eq (rm_of hr)) (je_var 4) je_int) (jb_one (js_ret (je_tup (ja_cons (je_ix (je_lst (ja_cons je_str (ja_cons je_str (ja_cons je_str ja_nil)))) (je_call d__law_roll (hr.mono (by decide)) (ja_cons (je_var 0) (ja_cons (je_if (jt_val (je_var 3)) je_int je_int) ja_nil)))) ja_nil)))) jb_nil)
  (jb_one (js_ret (je_tup (ja_cons je_str (ja_cons (je_var 5) (ja_cons (je_var 6) (ja_cons (je_var 7) ja_nil))))))))))))))), ?_⟩
  intro qs m Q R h hl; clear hl
  unfold S__law_any_leaf at h
  split at h
  · rename_i a w xs bare
    obtain ⟨hm, w0, w1, I, hI, rfl, hQ⟩ := h
    simp [hm]
    intro act a0 a1 z z0 z1
    obtain ⟨o, eo, _⟩ : ∃ o : Op4, atI [PV.str "=", PV.str "!=", PV.str "<", PV.str "<="] z = some (.str o.s) ∧ True := by
      obtain ⟨o, e⟩ := ops_at z0 z1; exact ⟨o, e, trivial⟩
    refine ⟨_, eo, w0, w1, I, hI, rfl, fun one h1 => ⟨w0, w1, I, hI, rfl, fun other h2 => ⟨I, hI, rfl, fun l h3 => ?_⟩⟩⟩
    refine seqC (fun ρ' m' => m = m' ∧ ∃ one other l, ∃ v9, DrawnO w I bare one ∧ DrawnO w I bare other ∧ DrawnL I bare l ∧ ρ' = [some (SV.val (PV.raw (V.ref a))), some (SV.val (PV.int w)), some (SV.val (PV.lst (List.map PV.int I))),
      some (SV.val (PV.bl bare)), some (SV.val (PV.int act)), some (SV.val (PV.str o.s)), some (SV.val (opdP one)), some (SV.val (opdP other)), some (SV.val (rowP l)), v9]) (fun N hN => ?_) ?_
    · cases bare with
      | false =>
        simp
        exact hN _ _ ⟨rfl, one, other, l, _, h1, h2, h3, rfl⟩
      | true =>
        simp only [wIfS, wTst, wVar, at', bTst]
        refine seqC (fun ρ' m' => m = m' ∧ ∃ one, DrawnO w I true one ∧ ρ' = [some (SV.val (PV.raw (V.ref a))), some (SV.val (PV.int w)), some (SV.val (PV.lst (List.map PV.int I))),
          some (SV.val (PV.bl true)), some (SV.val (PV.int act)), some (SV.val (PV.str o.s)), some (SV.val (opdP one)), some (SV.val (opdP other)), some (SV.val (rowP l)), none]) (fun N' hN' => ?_) ?_
        · refine ⟨Nat.le_of_ble_eq_true rfl, is_value_opd one _ ?_⟩
          dsimp only [bTst]
          cases e : one.known with
          | true => exact hN' _ _ ⟨rfl, one, ⟨h1.ok, h1.li, fun _ => e⟩, rfl⟩
          | false => exact ⟨Nat.le_of_ble_eq_true rfl, hN' _ _ ⟨rfl, .col 0, ⟨by simp only [Opd.ok, Bool.and_eq_true, decide_eq_true_eq]; omega, (fun i h => by simp [Opd.li] at h), fun _ => rfl⟩, rfl⟩⟩
        rintro _ _ ⟨rfl, one, h1, rfl⟩
        refine seqC (fun ρ' m' => m = m' ∧ ∃ other, DrawnO w I true other ∧ ρ' = [some (SV.val (PV.raw (V.ref a))), some (SV.val (PV.int w)), some (SV.val (PV.lst (List.map PV.int I))),
          some (SV.val (PV.bl true)), some (SV.val (PV.int act)), some (SV.val (PV.str o.s)), some (SV.val (opdP one)), some (SV.val (opdP other)), some (SV.val (rowP l)), none]) (fun N' hN' => ?_) ?_
        · refine ⟨Nat.le_of_ble_eq_true rfl, is_value_opd other _ ?_⟩
          dsimp only [bTst]
          cases e : other.known with
          | true => exact hN' _ _ ⟨rfl, other, ⟨h2.ok, h2.li, fun _ => e⟩, rfl⟩
          | false =>
            obtain ⟨i, j, k, rfl, i1, i2, i3, i4⟩ := hI
            exact ⟨_, rfl, Nat.le_of_ble_eq_true rfl, hN' _ _ ⟨rfl, .lit (some i), ⟨by simp only [Opd.ok, litOk, Bool.and_eq_true, decide_eq_true_eq]; omega, (fun i h => by simp [Opd.li] at h; simp [h]), fun _ => rfl⟩, rfl⟩⟩
        rintro _ _ ⟨rfl, other, h2, rfl⟩
        simp only [wSet, wCB, wCons, wLc, wIT, wVar, at', rowP]
        have hlen := h3.le
        refine ⟨by rw [List.length_map]; omega, compW_map (fun x => match x with | .non => false | _ => true) id _ [] (fun x N acc hm hN => ?_) ?_⟩
        · obtain ⟨v, _, rfl⟩ := List.mem_map.mp hm
          cases v with
          | none => simpa [oP] using hN
          | some i => simpa [oP] using hN
        · have e : ((l.map oP).filter fun x => match x with | .non => false | _ => true).map id = (l.filter Option.isSome).map oP := by
            rw [List.map_id]
            induction l with
            | nil => rfl
            | cons v l ih =>
              cases v with
              | none => simpa [oP] using ih ⟨by have := h3.le; simp at this; omega, fun i hi => h3.li i (by simpa [rowI] using hi), fun e => nomatch e⟩ (by have := h3.le; simp at this; omega)
              | some i => simpa [oP] using ih ⟨by have := h3.le; simp at this; omega, fun j hj => h3.li j (by simp [rowI] at hj ⊢; exact .inr hj), fun e => nomatch e⟩ (by have := h3.le; simp at this; omega)
          rw [List.nil_append, e]
          refine hN _ _ ⟨rfl, one, other, l.filter Option.isSome, _, h1, h2, ⟨?_, fun i hi => h3.li i ?_, fun _ => ?_⟩, rfl⟩
          · exact Nat.le_trans (List.length_filter_le _ _) hlen
          · simp only [rowI, List.mem_filterMap, List.mem_filter, id] at hi ⊢
            obtain ⟨x, ⟨hx, _⟩, rfl⟩ := hi
            exact ⟨_, hx, rfl⟩
          · simp
            intro x _
            cases x <;> simp
    rintro _ _ ⟨rfl, one, other, l, v9, h1, h2, h3, rfl⟩
    simp [hm]
    by_cases e0 : act = 0
    · subst e0
      simp
      exact hQ (.inn one l) (.inn hI h1 h3)
    have b0 : (act == 0) = false := by simpa using e0
    by_cases e1 : act < 3
    · have : act = 1 ∨ act = 2 := by omega
      simp [b0, e1]
      rcases this with rfl | rfl
      · exact ⟨_, rfl, hQ (.qnt false o one l) (.qnt hI false o h1 h3)⟩
      · exact ⟨_, rfl, hQ (.qnt true o one l) (.qnt hI true o h1 h3)⟩
    simp only [b0, decide_eq_false e1]
    have fin : Q (PV.tup [PV.str "compare", PV.str o.s, opdP one, opdP other]) m := hQ (.cmp o one other) (.cmp o h1 h2)
    by_cases e3 : act = 3
    · subst e3
      cases bare with
      | false => simpa [prP] using hQ (.nul one) (.nul h1)
      | true => simpa using fin
    have b3 : (act == 3) = false := by simpa using e3
    by_cases e4 : act = 4
    · subst e4
      cases bare with
      | false =>
        simp
        intro r r0 r1
        obtain ⟨t, e, _⟩ := truth_at r0 r1
        exact ⟨_, e, hQ (.cst t) (.cst w I false t fun e => nomatch e)⟩
      | true =>
        simp
        intro r r0 r1
        obtain ⟨t, e, ht⟩ := truth_at r0 (by omega)
        exact ⟨_, e, hQ (.cst t) (.cst w I true t fun _ => ht r1)⟩
    have b4 : (act == 4) = false := by simpa using e4
    simpa [b3, b4] using fin
  · exact h.elim
abbrev s__law_any_predicate : Stmt := top 38
theorem sc__law_any_predicate : FnScope ["_law_dice", "_law_width", "_law_ints", "_law_deep", "_law_bare", "_law_act", "_law_one", "_law_other"] ["_law_dice", "_law_width", "_law_ints", "_law_deep", "_law_bare"] (defScope s__law_any_predicate) := ⟨rfl, rfl, rfl, by decide +kernel, rfl, by decide +kernel, by decide +kernel⟩
@[irreducible] def S__law_any_predicate : Nat → SpP := fun n ps m Q R => match n, ps with
  | n + 1, [.raw (.ref a), .int w, .lst xs, .int d, .bl bare] => m a = some .dice ∧ 1 ≤ w ∧ w ≤ 3 ∧ (∃ k : Nat, d = k ∧ k ≤ n ∧ ∃ I, Rise I ∧ xs = I.map PV.int ∧ ∀ p : Pr, Drawn w I (k + 1) bare p → Q (prP p) m)
  | _, _ => False
theorem S_anyp_mk {n : Nat} {a : Addr} {w : Int} {I : List Int} {k : Nat} {bare : Bool} {m : Mem} {Q : KV'} {R : KX} (h0 : k + 1 ≤ n) (hm : m a = some .dice) (w0 : 1 ≤ w) (w1 : w ≤ 3) (hI : Rise I) (h : ∀ p : Pr, Drawn w I (k + 1) bare p → Q (prP p) m) :
    S__law_any_predicate n [.raw (.ref a), .int w, .lst (I.map PV.int), .int k, .bl bare] m Q R := by
  obtain ⟨n, rfl⟩ : ∃ j, n = j + 1 := ⟨n - 1, by omega⟩
  unfold S__law_any_predicate
  exact ⟨hm, w0, w1, k, rfl, by omega, I, hI, rfl, h⟩
theorem step__law_any_predicate {f : Addr} {fd : FuncData} (F : Fun K "_law_any_predicate" "_law_any_predicate" s__law_any_predicate f fd) (bn : BN mg) (d__law_roll : CalM P w K mg base T 2 "_law_roll" 2 S__law_roll) (d__law_any_leaf : CalM P w K mg base T 4 "_law_any_leaf" 4 S__law_any_leaf) (n : Nat) (d__law_any_predicate : CalM P w K mg base T (4 + n) "_law_any_predicate" 5 (S__law_any_predicate n)) :
    FnOk P w K mg base (L2N.CX P w) (4 + n + 1) f fd ["_law_dice", "_law_width", "_law_ints", "_law_deep", "_law_bare"] (spOf w K T 5 (S__law_any_predicate (n + 1))) := by
  have sc := sc__law_any_predicate
  refine fn_ok F sc fun cdv A outer s H H0 F0 m0 E hr => ⟨_, (jb_cons (js_set 5 sc.nd (je_call d__law_roll (hr.mono (by omega)) (ja_cons (je_var 0) (ja_cons je_int ja_nil))))
  (jb_cons (js_if (JW.jt (jw_or (jt_cmp (o_eq (rm_of hr)) (je_var 3) je_int) (jw_or1 (jt_cmp o_lt (je_var 5) je_int)))) (jb_one (js_ret (je_call d__law_any_leaf (hr.mono (by omega)) (ja_cons (je_var 0) (ja_cons (je_var 1) (ja_cons (je_var 2) (ja_cons (je_var 4) ja_nil))))))) jb_nil)
  (jb_cons (js_set 6 sc.nd (je_call d__law_any_predicate (hr.mono (by omega)) (ja_cons (je_var 0) (ja_cons (je_var 1) (ja_cons (je_var 2) (ja_cons (je_op o_sub (je_var 3) je_int) (ja_cons (je_var 4) ja_nil)))))))
  (jb_cons (js_if (jt_cmp o_lt (je_var 5) je_int) (jb_one (js_ret (je_tup (ja_cons je_str (ja_cons (je_var 6) ja_nil))))) jb_nil)
  (jb_cons (js_if (JW.jt (jw_and (jt_cmp (o_eq (rm_of hr)) (je_var 5) je_int) (jw_and1 (jt_not (jt_val (je_var 4)))))) (jb_one (js_ret (je_tup (ja_cons je_str (ja_cons (je_ix (je_lst (ja_cons je_str (ja_cons je_str (ja_cons je_str ja_nil)))) (je_call d__law_roll (hr.mono (by omega)) (ja_cons (je_var 0) (ja_cons je_int ja_nil)))) (ja_cons (je_var 6) ja_nil)))))) jb_nil)
  (jb_cons (js_set 7 sc.nd (je_call d__law_any_predicate (hr.mono (by omega)) (ja_cons (je_var 0) (ja_cons (je_var 1) (ja_cons (je_var 2) (ja_cons (je_op o_sub (je_var 3) je_int) (ja_cons (je_var 4) ja_nil)))))))
  (jb_one (js_ret (je_tup (ja_cons (je_ix (je_lst (ja_cons je_str (ja_cons je_str ja_nil))) (je_op o_mod (je_var 5) je_int)) (ja_cons (je_var 6) (ja_cons (je_var 7) ja_nil)))))))))))), ?_⟩
  intro qs m Q R h hl; clear hl
  unfold S__law_any_predicate at h
  split at h
  · rename_i n' a w xs d bare heq
    cases heq
    obtain ⟨hm, w0, w1, k, rfl, hk, I, hI, rfl, hQ⟩ := h
    simp [hm]
    intro act a0 a1
    have leaf : 1 ≤ w ∧ w ≤ 3 ∧ ∃ I_1, Rise I_1 ∧ List.map PV.int I = List.map PV.int I_1 ∧ ∀ (p : Pr), Drawn w I_1 1 bare p → Q (prP p) m := ⟨w0, w1, I, hI, rfl, fun p hp => hQ p (hp.up (by omega))⟩
    cases k with
    | zero => exact leaf
    | succ k =>
      have e0 : (((k + 1 : Nat) : Int) == 0) = false := by simp only [beq_eq_false_iff_ne, ne_eq]; omega
      rw [e0]
      by_cases e1 : act < 2
      · simpa [e1] using leaf
      simp only [decide_eq_false e1]
      have ek : ((k + 1 : Nat) : Int) - 1 = (k : Int) := by omega
      rw [ek]
      refine S_anyp_mk (by omega) hm w0 w1 hI fun p hp => ?_
      have bin : S__law_any_predicate n [PV.raw (V.ref a), PV.int w, PV.lst (List.map PV.int I), PV.int k, PV.bl bare] m (fun p_1 m1 => ∃ v, atI [PV.str (Str.ofString "and"), PV.str (Str.ofString "or")] (act % 2) = some v ∧ Q (PV.tup [v, prP p, p_1]) m1) R := by
        refine S_anyp_mk (by omega) hm w0 w1 hI fun q hq => ?_
        have c0 := Int.emod_nonneg act (show (2 : Int) ≠ 0 by omega)
        have c1 := Int.emod_lt_of_pos act (show (0 : Int) < 2 by omega)
        have : act % 2 = 0 ∨ act % 2 = 1 := by omega
        rcases this with e | e <;> rw [e]
        · exact ⟨_, rfl, hQ (.bin false p q) (.bin false hp hq)⟩
        · exact ⟨_, rfl, hQ (.bin true p q) (.bin true hp hq)⟩
      by_cases e2 : act < 4
      · simpa [e2, prP] using hQ (.nott p) hp.nott
      simp only [decide_eq_false e2]
      by_cases e4 : act = 4
      · subst e4
        cases bare with
        | false =>
          refine ⟨hm, fun r r0 r1 => ?_⟩
          obtain ⟨t, e, _⟩ := truth_at r0 r1
          exact ⟨_, e, hQ (.iss t p) (.iss t hp)⟩
        | true => exact bin
      · have b4 : (act == 4) = false := by simpa using e4
        rw [b4]
        exact bin
  · exact h.elim
theorem ok__law_any_predicate {f : Addr} {fd : FuncData} (F : Fun K "_law_any_predicate" "_law_any_predicate" s__law_any_predicate f fd) (bn : BN mg) (d__law_roll : CalM P w K mg base T 2 "_law_roll" 2 S__law_roll) (d__law_any_leaf : CalM P w K mg base T 4 "_law_any_leaf" 4 S__law_any_leaf) (hm : mg "_law_any_predicate" = some (.ref f)) (hb : Binds K fd ["_law_dice", "_law_width", "_law_ints", "_law_deep", "_law_bare"] []) (N : Nat) :
    FnOk P w K mg base (L2N.CX P w) (4 + N) f fd ["_law_dice", "_law_width", "_law_ints", "_law_deep", "_law_bare"] (spOf w K T 5 (S__law_any_predicate N)) := ok_rec (S := fun n => (S__law_any_predicate n)) hm F.kp hb (fun ps m Q R h => by unfold S__law_any_predicate at h; exact h) (fun n d => step__law_any_predicate F bn d__law_roll d__law_any_leaf n d) N
abbrev s__law_value : Stmt := top 39
theorem sc__law_value : FnScope ["_law_operand", "_law_row"] ["_law_operand", "_law_row"] (defScope s__law_value) := ⟨rfl, rfl, rfl, by decide +kernel, rfl, by decide +kernel, by decide +kernel⟩
@[simp] def S__law_value : SpP := fun ps m Q R => match ps with
  | [p, .tup xs] => ∃ (a : Opd) (r : Row), p = opdP a ∧ xs = r.map oP ∧ a.ok (r.length : Int) = true ∧ Q (oP (a.val r)) m
  | _ => False
theorem ok__law_value {f : Addr} {fd : FuncData} (F : Fun K "_law_value" "_law_value" s__law_value f fd) (bn : BN mg)  :
    FnOk P w K mg base (L2N.CX P w) 1 f fd ["_law_operand", "_law_row"] (spOf w K T 2 S__law_value) := by
  have sc := sc__law_value
  refine fn_ok F sc fun cdv A outer s H H0 F0 m0 E hr => ⟨_, (jb_one (js_ret (je_if (jt_cmp (o_eq (rm_of hr)) (je_ix (je_var 0) je_int) je_str) (je_ix (je_var 1) (je_ix (je_var 0) je_int)) (je_ix (je_var 0) je_int)))), ?_⟩
  intro qs m Q R h hl; clear hl
  unfold S__law_value at h
  split at h
  · obtain ⟨a, r, rfl, rfl, h1, h⟩ := h
    cases a with
    | col i =>
      simp (decide := true) [opdP, str_beq]
      exact ⟨_, atI_row (opd_at h1 rfl), h⟩
    | lit v => simpa (decide := true) [opdP, str_beq, Opd.val] using h
  · exact h.elim
abbrev s__law_level : Stmt := top 40
theorem sc__law_level : FnScope ["_law_op", "_law_one", "_law_other", "_law_signs", "_law_sign"] ["_law_op", "_law_one", "_law_other"] (defScope s__law_level) := ⟨rfl, rfl, rfl, by decide +kernel, rfl, by decide +kernel, by decide +kernel⟩
def signsD : List (Option Key × PV) := [(some (.inr "="), .lst [.int 0]), (some (.inr "!="), .lst [.int (-1), .int 1]), (some (.inr "<"), .lst [.int (-1)]), (some (.inr "<="), .lst [.int (-1), .int 0])]
theorem signsD_merge : pMerge [] signsD = signsD := by simp (decide := true) [signsD, pput]
theorem signs_val (o : Op4) : pval signsD (some (.inr o.s)) = some (.lst (match o with | .eq => [.int 0] | .ne => [.int (-1), .int 1] | .lt => [.int (-1)] | .le => [.int (-1), .int 0])) := by
  cases o <;> simp (decide := true) [signsD, pval, Op4.s]
@[simp] def S__law_level : SpP := fun ps m Q R => match ps with
  | [p, q, u] => ∃ (o : Op4) (x y : Option Int), p = .str o.s ∧ q = oP x ∧ u = oP y ∧ Q (.int (lvl (cmpO o x y))) m
  | _ => False
theorem ok__law_level {f : Addr} {fd : FuncData} (F : Fun K "_law_level" "_law_level" s__law_level f fd) (bn : BN mg)  :
    FnOk P w K mg base (L2N.CX P w) 1 f fd ["_law_op", "_law_one", "_law_other"] (spOf w K T 3 S__law_level) := by
  have sc := sc__law_level
  refine fn_ok F sc fun cdv A outer s H H0 F0 m0 E hr => ⟨_, (jb_cons (js_if (JW.jt (jw_or (jt_cmp o_is (je_var 1) je_non) (jw_or1 (jt_cmp o_is (je_var 2) je_non)))) (jb_one (js_ret je_int)) jb_nil)
  (jb_cons (js_disp 3 rfl sc.nd (jp_cons je_str (je_lst (ja_cons je_int ja_nil)) (jp_cons je_str (je_lst (ja_cons (je_neg je_int) (ja_cons je_int ja_nil))) (jp_cons je_str (je_lst (ja_cons (je_neg je_int) ja_nil)) (jp_cons je_str (je_lst (ja_cons (je_neg je_int) (ja_cons je_int ja_nil))) jp_nil)))))
  (jb_consC (js_set 4 sc.nd (je_if (jt_cmp (o_eq (rm_of hr)) (je_var 1) (je_var 2)) je_int (je_if (jt_cmp o_lt (je_var 1) (je_var 2)) (je_neg je_int) je_int)))
  (jb_one (js_ret (je_if (jt_cmp (o_in (rm_of hr)) (je_var 4) (je_dget 3 rfl (hu1 hr) (je_var 0))) je_int je_int)))))), ?_⟩
  intro qs m Q R h hl; clear hl
  unfold S__law_level at h
  split at h
  · obtain ⟨o, x, y, rfl, rfl, rfl, h⟩ := h
    cases x with
    | none => simpa [oP, cmpO, lvl] using h
    | some a =>
      cases y with
      | none => simpa [oP, cmpO, lvl] using h
      | some b =>
        simp [oP]
        refine ⟨signsD, rfl, Nat.le_of_ble_eq_true rfl, ?_⟩
        have em := signsD_merge
        simp only [pMerge] at em
        rw [em]
        refine seqC (fun ρ' m' => m = m' ∧ ρ' = [some (SV.val (PV.str o.s)), some (SV.val (PV.int a)), some (SV.val (PV.int b)), some (SV.own (OO.dct signsD)), some (.val (.int (if a = b then 0 else if a < b then -1 else 1)))]) (fun N hN => ?_) ?_
        · by_cases e : a = b
          · have := hN _ _ ⟨rfl, rfl⟩
            simpa [e] using this
          · have e2 : (a == b) = false := by simpa using e
            by_cases e3 : a < b
            · have := hN _ _ ⟨rfl, rfl⟩
              simpa [e, e2, e3] using this
            · have := hN _ _ ⟨rfl, rfl⟩
              simpa [e, e2, e3] using this
        · rintro _ _ ⟨rfl, rfl⟩
          dsimp only [wSeq, wNext, wIfS, wTst, wAnd, wOr, wNot, wCall, wCons, wNil, wOp, wVar, wC, wSet, wAsg, wRet, wFor, wIL, wIT, wIR1, wIR2, wIE, wLc, wYes, wTup, wLst, wPar, gT, gsCons, gsNil, gN, at', put, wTold, vals, startP, bTst, wAndV, wOrV, wNotV, wIf, wSl, wPart, wNoPart, wCB, wDGet, wDIn, wDNin, wDLst, wPut, wFrz, wOwnL, wApp, wipeP, wRaise, wDrop, wFun, wCallF, lamP, slP, wMove, wRetO, wCatN, wCallN, wIfN, wFrzQ, wLst', List.map, List.replicate, List.cons_append, List.nil_append]
          refine ⟨_, congrArg some (signs_val o), ?_⟩
          have key : ∀ (l : List Int) (i : Int), (Q (.int (if i ∈ l then 2 else 0)) m) → gIn false (.int i) (.lst (l.map PV.int)) (bTst fun b => match b with | true => Q (.int 2) m | false => Q (.int 0) m) := fun l i hq => by
            refine ⟨rfl, okDs_ints l, by simp, ?_⟩
            rw [any_ints, Bool.false_xor]
            by_cases hi : i ∈ l <;> simpa [hi] using hq
          cases o with
          | eq => refine key [0] _ ?_; simp only [cmpO, Op4.f, lvl] at h; by_cases e : a = b <;> by_cases e3 : a < b <;> simpa [e, e3, lvl] using h
          | ne => refine key [-1, 1] _ ?_; simp only [cmpO, Op4.f, lvl] at h; by_cases e : a = b <;> by_cases e3 : a < b <;> simpa [e, e3, lvl] using h
          | lt => refine key [-1] _ ?_; simp only [cmpO, Op4.f, lvl] at h; by_cases e : a = b <;> by_cases e3 : a < b <;> simp_all [lvl]
          | le =>
            refine key [-1, 0] _ ?_
            simp only [cmpO, Op4.f, lvl] at h
            rcases Int.lt_trichotomy a b with e | e | e
            · have e1 : ¬ a = b := by omega
              have e2 : a ≤ b := by omega
              simpa [e, e1, e2, lvl] using h
            · subst e; simpa [lvl] using h
            · have e1 : ¬ a = b := by omega
              have e2 : ¬ a ≤ b := by omega
              have e3 : ¬ a < b := by omega
              simpa [e1, e2, e3, lvl] using h
  · exact h.elim
abbrev s__law_key : Stmt := top 42
theorem sc__law_key : FnScope ["_law_value_here"] ["_law_value_here"] (defScope s__law_key) := ⟨rfl, rfl, rfl, by decide +kernel, rfl, by decide +kernel, by decide +kernel⟩
@[simp] def S__law_key : SpP := fun ps m Q R => match ps with
  | [p] => ∃ x : Option Int, p = oP x ∧ Q (.int (okey x : Int)) m
  | _ => False
theorem ok__law_key {f : Addr} {fd : FuncData} (F : Fun K "_law_key" "_law_key" s__law_key f fd) (bn : BN mg)  :
    FnOk P w K mg base (L2N.CX P w) 1 f fd ["_law_value_here"] (spOf w K T 1 S__law_key) := by
  have sc := sc__law_key
  refine fn_ok F sc fun cdv A outer s H H0 F0 m0 E hr => ⟨_, (jb_one (js_ret (je_if (jt_cmp o_is (je_var 0) je_non) je_int (je_if (jt_cmp o_gt (je_var 0) je_int) (je_op o_mul je_int (je_var 0)) (je_op o_sub je_int (je_op o_mul je_int (je_var 0))))))), ?_⟩
  intro qs m Q R h hl; clear hl
  unfold S__law_key at h
  split at h
  · obtain ⟨x, rfl, h⟩ := h
    cases x with
    | none => simpa [oP, okey] using h
    | some v =>
      have c2 : ∀ v : Int, IntMulOk 2 v := fun v => CMul.ok (.inl ⟨by decide, by decide⟩)
      by_cases hv : 0 < v
      · have e : ((okey (some v) : Nat) : Int) = 2 * v := by simp only [okey, if_pos hv]; omega
        rw [e] at h
        simpa [oP, hv, c2] using h
      · have e : ((okey (some v) : Nat) : Int) = 1 - 2 * v := by simp only [okey, if_neg hv]; omega
        rw [e] at h
        simpa [oP, hv, c2] using h
  · exact h.elim
abbrev s__law_values : Stmt := top 43
theorem sc__law_values : FnScope ["_law_ints", "_law_found", "_law_integer", "_law_step"] ["_law_ints"] (defScope s__law_values) := ⟨rfl, rfl, rfl, by decide +kernel, rfl, by decide +kernel, by decide +kernel⟩
@[simp] def S__law_values : SpP := fun ps m Q R => match ps with
  | [.lst xs] => ∃ I : List Int, xs = I.map PV.int ∧ I.length = 3 ∧ Q (.lst ((lawVals I).map oP)) m
  | _ => False
abbrev lamQ__law_values : Str := (envOfC "_law_values" (defScope s__law_values) 0 0 .none).qual ++ "<lambda>"
theorem ok__law_values {f c P0 : Addr} {fd : FuncData} (F : Fun K "_law_values" "_law_values" s__law_values f fd) (bn : BN mg) (d__law_key : CalM P w K mg base T 1 "_law_key" 1 S__law_key) (TB : LamX.TabB base mg c P0) (hcode : fd.code = .ref c) (hmT : (P0, lamQ__law_values) ∈ T) (hmU : ∀ p ∈ T, p.1 = P0 → p.2 = lamQ__law_values) :
    FnOk P w K mg base (L2N.CX P w) 5 f fd ["_law_ints"] (spOf w K T 1 S__law_values) := by
  have sc := sc__law_values
  refine fn_okC F sc fun cdv A outer s H H0 F0 m0 E hcd hr => ?_
  obtain rfl : cdv = .ref c := hcd.symm.trans hcode
  refine ⟨_, (jb_cons (js_disp 1 rfl sc.nd (jp_cons je_non je_bl (jp_cons (je_op o_pow je_int je_int) je_bl (jp_cons (je_op o_sub je_int (je_op o_pow je_int je_int)) je_bl jp_nil))))
  (jb_cons (js_for passes_own rfl (ji_list (je_op o_add (je_var 0) (je_lst (ja_cons je_int ja_nil)))) (jg_name 2 sc.nd) (jb_one (js_for passes_own rfl (ji_rng2 (bn _ (by decide)) (ja_cons (je_neg je_int) (ja_cons je_int ja_nil))) (jg_name 3 sc.nd) (jb_one (js_dput 1 rfl (hu1 hr) (je_op o_add (je_var 2) (je_var 3)) je_bl)))))
  (jb_one (js_ret (je_sortK (x := "_law_value_here") (k := 1) rfl (bn _ (by decide)) TB rfl hmT hmU (hr.mono (by decide)) ⟨rfl, rfl, rfl, by decide +kernel, rfl, by decide +kernel, by decide +kernel⟩ rfl (fun _ _ _ _ _ => rfl) (je_dlist 1 rfl rfl (bn _ (by decide))) (fun _ _ _ _ _ _ _ _ hr => (je_call d__law_key (hr.mono (by decide)) (ja_cons (je_var 0) ja_nil)))))))), ?_⟩
  intro qs m Q R h hl; clear hl
  unfold S__law_values at h
  split at h
  · obtain ⟨I, rfl, hI, h⟩ := h
    have hp : CPow 10 9 := ⟨by decide, by decide, by decide⟩
    refine ⟨hp, hp, ?_⟩
    have e9 : (10 : Int) ^ Int.toNat 9 = 1000000000 := by decide
    rw [e9]
    refine ⟨[entO none, entO (some 1000000000), entO (some (-999999999))], rfl, Nat.le_of_ble_eq_true rfl, ?_⟩
    rw [show pMerge [] [entO none, entO (some 1000000000), entO (some (-999999999))] = (dedO [none, some 1000000000, some (-999999999)]).map entO by simp (decide := true) [pput, entO, oKy, dedO, addO]]
    refine ⟨Nat.le_of_ble_eq_true rfl, by rw [List.length_map, hI]; exact Nat.le_of_ble_eq_true rfl, by rw [List.length_append, List.length_map, hI]; exact Nat.le_of_ble_eq_true rfl, ?_⟩
    refine forW_fill2 (fun acc v u => [some (.val (.lst (I.map PV.int))), some (.own (.dct (acc.map entO))), v, u]) (fun z => match z with | .int i => (List.range 7).map fun (k : Nat) => some (i + (-3 + (k : Int))) | _ => []) 100 7 (fun z => by split <;> simp) _ _ none none (fun z hz acc v u N hacc hN => ?_) (by simp [hI, dedO, addO]) fun v u => ?_
    · obtain ⟨i, rfl⟩ : ∃ i, z = .int i := by
        rcases List.mem_append.mp hz with hz | hz
        · obtain ⟨i, _, rfl⟩ := List.mem_map.mp hz; exact ⟨i, rfl⟩
        · exact ⟨0, List.mem_singleton.mp hz⟩
      refine ⟨by decide, forW_fill (fun acc u => [some (.val (.lst (I.map PV.int))), some (.own (.dct (acc.map entO))), some (.val (.int i)), u]) (fun z => match z with | .int k => some (i + k) | _ => none) 100 _ _ u (fun z hz acc v N hacc hN => ?_) (by simpa [rngP] using hacc) fun v => ?_⟩
      · obtain ⟨k, hk, rfl⟩ := List.mem_map.mp hz
        have hl : (acc.map entO).length < 1000000 := by rw [List.length_map]; omega
        refine ⟨.dct ((addO acc (some (i + (-3 + (k : Int))))).map entO), ?_, hN⟩
        show (if (acc.map entO).length < 1000000 then some (OO.dct (pput (acc.map entO) (oKy (some (i + (-3 + (k : Int))))) (.bl true))) else none) = _
        rw [if_pos hl, pput_O]
      · have := hN v
        simpa [rngP, List.map_map, Function.comp_def] using this
    · have es : (((I.map PV.int ++ [PV.int 0]).flatMap fun z => match z with | .int i => (List.range 7).map fun (k : Nat) => some (i + (-3 + (k : Int))) | _ => []).foldl addO (dedO [none, some 1000000000, some (-999999999)])) = dedO (lawSeq I) := by
        have e0 : (I.map PV.int ++ [PV.int 0]) = (I ++ [0]).map PV.int := by simp
        rw [e0, List.flatMap_map]
        unfold dedO lawSeq
        simp only [List.foldl_cons, List.foldl_nil]
      refine ⟨_, congrArg some (keysO _), dedO (lawSeq I), fun x => (okey x : Int), ?_, ?_, ?_, ?_⟩
      · exact congrArg (fun z => PV.lst (List.map oP z)) es
      · refine Nat.le_trans (dedO_len _) ?_
        match I, hI with
        | [a, b, c], _ => exact Nat.le_of_ble_eq_true rfl
      · intro y hy
        exact ⟨y, rfl, rfl, rfl⟩
      · intro l' h1 h2
        rw [srtO_of h1 h2]
        exact h
  · exact h.elim
abbrev s__law_truth : Stmt := top 41
theorem sc__law_truth : FnScope ["_law_p", "_law_row", "_law_word", "_law_op", "_law_left", "_law_levels", "_law_literal", "_law_sides"] ["_law_p", "_law_row"] (defScope s__law_truth) := ⟨rfl, rfl, rfl, by decide +kernel, rfl, by decide +kernel, by decide +kernel⟩
@[irreducible] def S__law_truth : Nat → SpP := fun n ps m Q R => match n, ps with
  | n + 1, [p, q] => ∃ (pr : Pr) (r : Row), p = prP pr ∧ q = rowP r ∧ pr.ok (r.length : Int) = true ∧ pr.depth ≤ n + 1 ∧ Q (.int (lvl (pr.ev r))) m
  | _, _ => False
theorem S_ltruth_mk {n : Nat} {pr : Pr} {r : Row} {m : Mem} {Q : KV'} {R : KX} (h0 : pr.depth ≤ n) (h1 : pr.ok (r.length : Int) = true) (h : Q (.int (lvl (pr.ev r))) m) : S__law_truth n [prP pr, rowP r] m Q R := by
  have : 1 ≤ pr.depth := by cases pr <;> simp [Pr.depth]
  obtain ⟨n, rfl⟩ : ∃ j, n = j + 1 := ⟨n - 1, by omega⟩
  unfold S__law_truth
  exact ⟨pr, r, rfl, rfl, h1, h0, h⟩
theorem idx_t (t : Option Bool) : idxP [.str "false", .str "unknown", .str "true"] (.str (truthS t)) = some (lvl t).toNat := by
  rcases t with _ | _ | _ <;> simp (decide := true) [idxP, truthS, str_beq, lvl]
theorem lvl_nat (t : Option Bool) : (((lvl t).toNat : Nat) : Int) = lvl t := by rcases t with _ | _ | _ <;> rfl
theorem lvl_iss (t u : Option Bool) : lvl (some (decide (t = u))) = if lvl t = lvl u then 2 else 0 := by
  rcases t with _ | _ | _ <;> rcases u with _ | _ | _ <;> rfl
theorem step__law_truth {f : Addr} {fd : FuncData} (F : Fun K "_law_truth" "_law_truth" s__law_truth f fd) (bn : BN mg) (d__law_level : CalM P w K mg base T 1 "_law_level" 3 S__law_level) (d__law_value : CalM P w K mg base T 1 "_law_value" 2 S__law_value) (n : Nat) (d__law_truth : CalM P w K mg base T (1 + n) "_law_truth" 2 (S__law_truth n)) :
    FnOk P w K mg base (L2N.CX P w) (1 + n + 1) f fd ["_law_p", "_law_row"] (spOf w K T 2 (S__law_truth (n + 1))) := by
  have sc := sc__law_truth
  refine fn_ok F sc fun cdv A outer s H H0 F0 m0 E hr => ⟨_, (jb_cons (js_set 2 sc.nd (je_ix (je_var 0) je_int))
  (jb_cons (js_if (jt_cmp (o_in (rm_of hr)) (je_var 2) (je_tup (ja_cons je_str (ja_cons je_str (ja_cons je_str ja_nil))))) (jb_one (js_ret (je_index (je_lst (ja_cons je_str (ja_cons je_str (ja_cons je_str ja_nil)))) (je_var 2)))) jb_nil)
  (jb_cons (js_if (jt_cmp (o_eq (rm_of hr)) (je_var 2) je_str) (jb_one (js_ret (je_call d__law_level (hr.mono (by omega)) (ja_cons (je_ix (je_var 0) je_int) (ja_cons (je_call d__law_value (hr.mono (by omega)) (ja_cons (je_ix (je_var 0) je_int) (ja_cons (je_var 1) ja_nil))) (ja_cons (je_call d__law_value (hr.mono (by omega)) (ja_cons (je_ix (je_var 0) je_int) (ja_cons (je_var 1) ja_nil))) ja_nil)))))) jb_nil)
  (jb_cons (js_if (jt_cmp (o_in (rm_of hr)) (je_var 2) (je_tup (ja_cons je_str (ja_cons je_str (ja_cons je_str ja_nil))))) (jb_consC (js_asg (je_if (jt_cmp (o_eq (rm_of hr)) (je_var 2) je_str) (je_tup (ja_cons je_str (ja_cons (je_ix (je_var 0) je_int) ja_nil))) (je_tup (ja_cons (je_ix (je_var 0) je_int) (ja_cons (je_ix (je_var 0) je_int) ja_nil)))) (jg_tup (n := 2) rfl (jgs_cons (jg_name 3 sc.nd) (jgs_cons (jg_name 4 sc.nd) jgs_nil))))
  (jb_cons (js_setLc (own := [("_law_literal", 6)]) 5 rfl sc.nd (ji_tup (je_ix (je_var 0) (je_neg je_int))) (blkOk_by (show blkC ["_law_p", "_law_row", "_law_word", "_law_op", "_law_left", "_law_levels", "_law_literal", "_law_sides"] (defScope s__law_truth) _ [("_law_literal", 6)] = true by decide +kernel)) (fun _ _ _ _ _ => (jg_name 6 sc.nd)) (fun _ _ _ _ _ => jts_nil) (fun _ _ _ _ _ => (je_call d__law_level (hr.mono (by omega)) (ja_cons (je_var 3) (ja_cons (je_call d__law_value (hr.mono (by omega)) (ja_cons (je_var 4) (ja_cons (je_var 1) ja_nil))) (ja_cons (je_var 6) ja_nil))))))
  (jb_one (js_ret (je_if (jt_cmp (o_eq (rm_of hr)) (je_var 2) je_str) (je_callB (c_min rfl) (bn _ (by decide)) (ja_cons (je_op o_add (je_var 5) (je_lst (ja_cons je_int ja_nil))) ja_nil)) (je_callB (c_max rfl) (bn _ (by decide)) (ja_cons (je_op o_add (je_var 5) (je_lst (ja_cons je_int ja_nil))) ja_nil))))))) jb_nil)
  (jb_cons (js_if (jt_cmp (o_eq (rm_of hr)) (je_var 2) je_str) (jb_one (js_ret (je_if (jt_cmp o_is (je_call d__law_value (hr.mono (by omega)) (ja_cons (je_ix (je_var 0) je_int) (ja_cons (je_var 1) ja_nil))) je_non) je_int je_int))) jb_nil)
  (jb_cons (js_if (jt_cmp (o_eq (rm_of hr)) (je_var 2) je_str) (jb_one (js_ret (je_op o_sub je_int (je_call d__law_truth (hr.mono (by omega)) (ja_cons (je_ix (je_var 0) je_int) (ja_cons (je_var 1) ja_nil)))))) jb_nil)
  (jb_cons (js_if (jt_cmp (o_eq (rm_of hr)) (je_var 2) je_str) (jb_one (js_ret (je_if (jt_cmp (o_eq (rm_of hr)) (je_call d__law_truth (hr.mono (by omega)) (ja_cons (je_ix (je_var 0) je_int) (ja_cons (je_var 1) ja_nil))) (je_index (je_lst (ja_cons je_str (ja_cons je_str (ja_cons je_str ja_nil)))) (je_ix (je_var 0) je_int))) je_int je_int))) jb_nil)
  (jb_cons (js_set 7 sc.nd (je_lst (ja_cons (je_call d__law_truth (hr.mono (by omega)) (ja_cons (je_ix (je_var 0) je_int) (ja_cons (je_var 1) ja_nil))) (ja_cons (je_call d__law_truth (hr.mono (by omega)) (ja_cons (je_ix (je_var 0) je_int) (ja_cons (je_var 1) ja_nil))) ja_nil))))
  (jb_one (js_ret (je_if (jt_cmp (o_eq (rm_of hr)) (je_var 2) je_str) (je_callB (c_min rfl) (bn _ (by decide)) (ja_cons (je_var 7) ja_nil)) (je_callB (c_max rfl) (bn _ (by decide)) (ja_cons (je_var 7) ja_nil))))))))))))), ?_⟩
  intro qs m Q R h hl; clear hl
  unfold S__law_truth at h
  split at h
  · rename_i n' p q heq
    cases heq
    obtain ⟨pr, r, rfl, rfl, ho, hd, h⟩ := h
    cases pr with
    | cst t =>
      have e := idx_t t
      rcases t with _ | _ | _ <;> simp (decide := true) [prP, truthS, str_beq] <;> exact ⟨_, e, h⟩
    | cmp o a b =>
      simp only [Pr.ok, Bool.and_eq_true] at ho
      simp (decide := true) [prP, str_beq, -S__law_value, -S__law_level]
      refine ⟨a, r, rfl, rfl, ho.1, b, r, rfl, rfl, ho.2, o, _, _, rfl, rfl, rfl, h⟩
    | inn a l =>
      simp only [Pr.ok, Bool.and_eq_true, lstOk, decide_eq_true_eq] at ho
      simp (decide := true) [prP, str_beq, -S__law_value, -S__law_level]
      refine seqC (fun ρ' m' => m = m' ∧ ρ' = [some (.val (prP (Pr.inn a l))), some (.val (rowP r)), some (.val (.str "in")), some (.val (.str (Op4.s .eq))), some (.val (opdP a)), none, none, none]) (fun N hN => ?_) ?_
      · have := hN _ _ ⟨rfl, rfl⟩
        simpa (decide := true) [prP, str_beq, Op4.s] using this
      rintro _ _ ⟨rfl, rfl⟩
      refine ⟨rowP l, rfl, by rw [List.length_map]; omega, compW_map (fun _ => true) (fun y => match y with | .int i => .int (lvl (cmpO .eq (a.val r) (some i))) | _ => .int 1) _ [] (fun x N acc hm hN => ?_) ?_⟩
      · obtain ⟨v, _, rfl⟩ := List.mem_map.mp hm
        refine ⟨a, r, rfl, rfl, ho.1, .eq, a.val r, v, rfl, rfl, rfl, ?_⟩
        cases v with
        | none => rw [show cmpO .eq (a.val r) none = none by cases a.val r <;> rfl]; exact hN
        | some i => exact hN
      rw [List.filter_eq_self.mpr (fun _ _ => rfl), List.nil_append, List.map_map]
      have e : l.map ((fun y => match y with | .int i => PV.int (lvl (cmpO .eq (a.val r) (some i))) | _ => .int 1) ∘ oP) = ((l.map (cmpO .eq (a.val r))).map lvl).map PV.int := by
        rw [List.map_map, List.map_map]
        refine List.map_congr_left fun v _ => ?_
        cases v with
        | none => show PV.int 1 = PV.int (lvl (cmpO .eq (a.val r) none)); rw [show cmpO .eq (a.val r) none = none by cases a.val r <;> rfl]; rfl
        | some i => rfl
      rw [e]
      simp (decide := true) [str_beq, -List.map_map]
      refine ⟨by omega, (l.map (cmpO .eq (a.val r))).map lvl ++ [0], by rw [← intsOf_map, List.map_append]; rfl, by simp, fun k h1 h2 => ?_⟩
      rw [lvl_or h1 h2]
      exact h
    | qnt al o a l =>
      simp only [Pr.ok, Bool.and_eq_true, lstOk, decide_eq_true_eq] at ho
      cases al with
      | false =>
        simp (decide := true) [prP, str_beq, -S__law_value, -S__law_level]
        refine seqC (fun ρ' m' => m = m' ∧ ρ' = [some (.val (prP (Pr.qnt false o a l))), some (.val (rowP r)), some (.val (.str "any")), some (.val (.str (Op4.s o))), some (.val (opdP a)), none, none, none]) (fun N hN => ?_) ?_
        · have := hN _ _ ⟨rfl, rfl⟩
          simpa (decide := true) [prP, str_beq, Op4.s] using this
        rintro _ _ ⟨rfl, rfl⟩
        refine ⟨rowP l, rfl, by rw [List.length_map]; omega, compW_map (fun _ => true) (fun y => match y with | .int i => .int (lvl (cmpO o (a.val r) (some i))) | _ => .int 1) _ [] (fun x N acc hm hN => ?_) ?_⟩
        · obtain ⟨v, _, rfl⟩ := List.mem_map.mp hm
          refine ⟨a, r, rfl, rfl, ho.1, o, a.val r, v, rfl, rfl, rfl, ?_⟩
          cases v with
          | none => rw [show cmpO o (a.val r) none = none by cases a.val r <;> rfl]; exact hN
          | some i => exact hN
        rw [List.filter_eq_self.mpr (fun _ _ => rfl), List.nil_append, List.map_map]
        have e : l.map ((fun y => match y with | .int i => PV.int (lvl (cmpO o (a.val r) (some i))) | _ => .int 1) ∘ oP) = ((l.map (cmpO o (a.val r))).map lvl).map PV.int := by
          rw [List.map_map, List.map_map]
          refine List.map_congr_left fun v _ => ?_
          cases v with
          | none => show PV.int 1 = PV.int (lvl (cmpO o (a.val r) none)); rw [show cmpO o (a.val r) none = none by cases a.val r <;> rfl]; rfl
          | some i => rfl
        rw [e]
        simp (decide := true) [str_beq, -List.map_map]
        refine ⟨by omega, (l.map (cmpO o (a.val r))).map lvl ++ [0], by rw [← intsOf_map, List.map_append]; rfl, by simp, fun k h1 h2 => ?_⟩
        rw [lvl_or h1 h2]
        exact h
      | true =>
        simp (decide := true) [prP, str_beq, -S__law_value, -S__law_level]
        refine seqC (fun ρ' m' => m = m' ∧ ρ' = [some (.val (prP (Pr.qnt true o a l))), some (.val (rowP r)), some (.val (.str "all")), some (.val (.str (Op4.s o))), some (.val (opdP a)), none, none, none]) (fun N hN => ?_) ?_
        · have := hN _ _ ⟨rfl, rfl⟩
          simpa (decide := true) [prP, str_beq, Op4.s] using this
        rintro _ _ ⟨rfl, rfl⟩
        refine ⟨rowP l, rfl, by rw [List.length_map]; omega, compW_map (fun _ => true) (fun y => match y with | .int i => .int (lvl (cmpO o (a.val r) (some i))) | _ => .int 1) _ [] (fun x N acc hm hN => ?_) ?_⟩
        · obtain ⟨v, _, rfl⟩ := List.mem_map.mp hm
          refine ⟨a, r, rfl, rfl, ho.1, o, a.val r, v, rfl, rfl, rfl, ?_⟩
          cases v with
          | none => rw [show cmpO o (a.val r) none = none by cases a.val r <;> rfl]; exact hN
          | some i => exact hN
        rw [List.filter_eq_self.mpr (fun _ _ => rfl), List.nil_append, List.map_map]
        have e : l.map ((fun y => match y with | .int i => PV.int (lvl (cmpO o (a.val r) (some i))) | _ => .int 1) ∘ oP) = ((l.map (cmpO o (a.val r))).map lvl).map PV.int := by
          rw [List.map_map, List.map_map]
          refine List.map_congr_left fun v _ => ?_
          cases v with
          | none => show PV.int 1 = PV.int (lvl (cmpO o (a.val r) none)); rw [show cmpO o (a.val r) none = none by cases a.val r <;> rfl]; rfl
          | some i => rfl
        rw [e]
        simp (decide := true) [str_beq, -List.map_map]
        refine ⟨by omega, (l.map (cmpO o (a.val r))).map lvl ++ [2], by rw [← intsOf_map, List.map_append]; rfl, by simp, fun k h1 h2 => ?_⟩
        rw [lvl_and h1 h2]
        exact h
    | nul a =>
      simp only [Pr.ok] at ho
      simp (decide := true) [prP, str_beq, -S__law_value]
      refine ⟨a, r, rfl, rfl, ho, ?_⟩
      cases e : a.val r with
      | none => simpa [Pr.ev, e, oP, lvl] using h
      | some i => simpa [Pr.ev, e, oP, lvl] using h
    | nott p =>
      simp only [Pr.ok] at ho
      simp (decide := true) [prP, str_beq]
      simp only [Pr.depth] at hd
      refine S_ltruth_mk (by omega) ho ?_
      simp only [Pr.ev, lvl_neg] at h
      simpa using h
    | bin or p q =>
      simp only [Pr.ok, Bool.and_eq_true] at ho
      simp only [Pr.depth] at hd
      cases or with
      | false =>
        simp (decide := true) [prP, str_beq]
        refine S_ltruth_mk (by omega) ho.1 (S_ltruth_mk (by omega) ho.2 ?_)
        refine ⟨[lvl (p.ev r), lvl (q.ev r)], rfl, Nat.le_of_ble_eq_true rfl, fun k h1 h2 => ?_⟩
        have hb : k = lvl ((Pr.bin false p q).ev r) := lvl_and (l := [p.ev r, q.ev r]) (List.mem_append_left [2] h1) fun y hy => by
          rcases List.mem_append.mp hy with hy | hy
          · exact h2 y hy
          · have g1 := h2 _ (List.mem_cons_self)
            have g2 := lvl_le (p.ev r)
            rw [List.mem_singleton.mp hy]; omega
        rw [hb]; exact h
      | true =>
        simp (decide := true) [prP, str_beq]
        refine S_ltruth_mk (by omega) ho.1 (S_ltruth_mk (by omega) ho.2 ?_)
        refine ⟨[lvl (p.ev r), lvl (q.ev r)], rfl, Nat.le_of_ble_eq_true rfl, fun k h1 h2 => ?_⟩
        have hb : k = lvl ((Pr.bin true p q).ev r) := lvl_or (l := [p.ev r, q.ev r]) (List.mem_append_left [0] h1) fun y hy => by
          rcases List.mem_append.mp hy with hy | hy
          · exact h2 y hy
          · have g1 := h2 _ (List.mem_cons_self)
            have g2 := lvl_le (p.ev r)
            rw [List.mem_singleton.mp hy]; omega
        rw [hb]; exact h
    | iss t p =>
      simp only [Pr.ok] at ho
      simp only [Pr.depth] at hd
      simp (decide := true) [prP, str_beq]
      refine S_ltruth_mk (by omega) ho ?_
      refine ⟨by rcases t with _ | _ | _ <;> decide +kernel, _, idx_t t, rfl, ?_⟩
      rw [lvl_nat]
      simp only [Pr.ev, lvl_iss] at h
      by_cases e : lvl t = lvl (p.ev r)
      · simpa [e] using h
      · have e2 : ¬ lvl (p.ev r) = lvl t := fun z => e z.symm
        have e3 : (lvl (p.ev r) == lvl t) = false := by simpa using e2
        simpa [e, e2, e3] using h
  · exact h.elim
theorem ok__law_truth {f : Addr} {fd : FuncData} (F : Fun K "_law_truth" "_law_truth" s__law_truth f fd) (bn : BN mg) (d__law_level : CalM P w K mg base T 1 "_law_level" 3 S__law_level) (d__law_value : CalM P w K mg base T 1 "_law_value" 2 S__law_value) (hm : mg "_law_truth" = some (.ref f)) (hb : Binds K fd ["_law_p", "_law_row"] []) (N : Nat) :
    FnOk P w K mg base (L2N.CX P w) (1 + N) f fd ["_law_p", "_law_row"] (spOf w K T 2 (S__law_truth N)) := ok_rec (S := fun n => (S__law_truth n)) hm F.kp hb (fun ps m Q R h => by unfold S__law_truth at h; exact h) (fun n d => step__law_truth F bn d__law_level d__law_value n d) N
end
end PL


namespace PL
open PySem PySem.Spec PyProof.Rows L2
section
variable {P : Program} {w : World} {K : PySem.W.Frag} {mg : Str → Option Value} {base : Heap} {T : List (Addr × Str)} {C_FilterError C_InvalidWidth C_InvalidPredicate : Addr}
abbrev s__law_rows : Stmt := top 44
theorem sc__law_rows : FnScope ["_law_width", "_law_ints", "_law_rows_here", "_law_values_here", "_law_column", "_law_longer", "_law_row", "_law_value_here"] ["_law_width", "_law_ints"] (defScope s__law_rows) := ⟨rfl, rfl, rfl, by decide +kernel, rfl, by decide +kernel, by decide +kernel⟩
@[simp] def S__law_rows : SpP := fun ps m Q R => match ps with
  | [.int w, .lst xs] => ∃ I : List Int, xs = I.map PV.int ∧ I.length = 3 ∧ 1 ≤ w ∧ w ≤ 2 ∧ ∀ a : Addr, m a = none → (rowsL (fun _ => lawVals I) w.toNat).length ≤ 961 → Q (.raw (.ref a)) (mset m a (.lst ((rowsL (fun _ => lawVals I) w.toNat).map rowP)))
  | _ => False
theorem lawBd {I : List Int} (hI : Rise I) {o : Option Int} (ho : o ∈ lawVals I) {i : Int} (e : o = some i) : -1000000000000 ≤ i ∧ i ≤ 1000000000000 := by
  subst e
  rcases mem_lawVals.mp ho with h | h | h | ⟨i0, h0, v, e, h1, h2⟩
  · cases h
  · cases h; decide
  · cases h; decide
  · cases e
    rcases h0 with h0 | rfl
    · have := hI.lit h0; omega
    · omega
theorem rowsBd {I : List Int} {w : Nat} {r : Row} (hr : r ∈ rowsL (fun _ => lawVals I) w) {o : Option Int} (ho : o ∈ r) : o ∈ lawVals I := by
  obtain ⟨h1, h2⟩ := mem_rowsL.mp hr
  obtain ⟨i, hi, e⟩ := List.mem_iff_getElem.mp ho
  have := h2 i (by omega)
  rw [List.getD_eq_getElem?_getD, List.getElem?_eq_getElem hi] at this
  rw [← e]; exact this
/-- the program's rows stand among the law's -/
theorem prog_sub {w n : Nat} {C : List Nat} {S I : List Int} (hn : n ≤ 3) (hS : ∀ s ∈ S, s ∈ I) : ∀ r ∈ progRows w n C S, r ∈ rowsL (fun _ => lawVals I) w := fun r hr => by
  obtain ⟨h1, h2⟩ := mem_rowsL.mp hr
  refine mem_rowsL.mpr ⟨h1, fun i hi => ?_⟩
  have := h2 i hi
  unfold progF at this
  split at this
  · generalize r.getD i none = x at this
    cases x with
    | none => exact mem_lawVals.mpr (.inl rfl)
    | some v =>
      rcases candL_near this with h | h | ⟨s, hs, h⟩
      · exact mem_lawVals.mpr (.inr (.inr (.inr ⟨v, .inl (hS v h), v, rfl, by omega, by omega⟩)))
      · exact mem_lawVals.mpr (.inr (.inr (.inr ⟨0, .inr rfl, v, rfl, by omega, by omega⟩)))
      · exact mem_lawVals.mpr (.inr (.inr (.inr ⟨s, .inl (hS s hs), v, rfl, by omega, by omega⟩)))
  · rw [List.mem_singleton.mp this]; exact mem_lawVals.mpr (.inl rfl)
theorem law_find {w n : Nat} {C : List Nat} {S I : List Int} {p : Row → Bool} (hC : C.length ≤ n) (hn : 1 ≤ n) (hn3 : n ≤ 3) (hS : S.Pairwise (· < ·)) (hSI : ∀ s ∈ S, s ∈ I) (hp : ∀ r r', Alike C S r r' → p r = p r') : (progRows w n C S).find? p = (rowsL (fun _ => lawVals I) w).find? p :=
  prog_find hC hn hS hp (rowsL_sorted fun i _ => srtO_strict _) (fun r hr => rowsL_len hr) (prog_sub hn3 hSI)
theorem rowsL_count31 {f : Nat → Row} (h : ∀ i, (f i).length ≤ 31) : ∀ k, (rowsL f k).length ≤ 31 ^ k
  | 0 => by simp [rowsL]
  | k + 1 => by
    have h1 := flat_len (fun r : Row => (f k).map fun v => r ++ [v]) 31 (rowsL f k) fun r _ => by rw [List.length_map]; exact h k
    have h2 := rowsL_count31 h k
    rw [rowsL, Nat.pow_succ]
    exact Nat.le_trans h1 (Nat.mul_le_mul_right _ h2)
theorem rows_plusN {m : Mem} {D : PEnds} (L : Row) (v0 v1 v2 v4 : Option SV) (hv : L.length ≤ 31) : ∀ (rs acc : List Row) (v6 : Option SV), acc.length + rs.length * 31 ≤ 100000 → (∀ r ∈ rs, r.length ≤ 100) → (∀ v6, D.nx [v0, v1, v2, some (.val (.lst (L.map oP))), v4, some (.own (.lst ((acc ++ rs.flatMap fun r => L.map fun v => r ++ [v]).map rowP))), v6, none] m) →
    forW (gN 6) (wFrz 5 (wOwnL 5 (wCatN (wVar 5) (wLc (wIL (wVar 3)) (gN 7) wYes (wOp gAdd (wVar 6) (wTup (wCons (wVar 7) wNil))) [7])))) (rs.map rowP) [v0, v1, v2, some (.val (.lst (L.map oP))), v4, some (.own (.lst (acc.map rowP))), v6, none] m D
  | [], acc, v6, _, _, h => by have := h v6; rw [List.flatMap_nil, List.append_nil] at this; exact this
  | r :: rs, acc, v6, hb, hr, h => by
    have hr0 := hr r List.mem_cons_self
    have hb1 : acc.length + (rs.length * 31 + 31) ≤ 100000 := by simpa [Nat.add_mul] using hb
    refine ⟨by rw [List.length_map]; omega, compW_map (fun _ => true) (fun y => match y with | .int i => rowP (r ++ [some i]) | _ => rowP (r ++ [none])) _ [] (fun x N acc hm hN => ?_) ?_⟩
    · obtain ⟨v, _, rfl⟩ := List.mem_map.mp hm
      refine ⟨Nat.le_of_ble_eq_true rfl, by rw [List.length_map]; simp; omega, ?_⟩
      cases v with
      | none => simpa [rowP, oP] using hN
      | some i => simpa [rowP, oP] using hN
    · rw [List.filter_eq_self.mpr (fun _ _ => rfl), List.map_map, List.nil_append]
      have e : L.map ((fun y => match y with | .int i => rowP (r ++ [some i]) | _ => rowP (r ++ [none])) ∘ oP) = (L.map fun v => r ++ [v]).map rowP := by
        rw [List.map_map]
        exact List.map_congr_left fun v _ => by cases v <;> rfl
      rw [e]
      refine ⟨by simp only [List.length_map]; omega, ?_⟩
      have := rows_plusN (D := D) L v0 v1 v2 v4 hv rs (acc ++ L.map fun v => r ++ [v]) (some (.val (rowP r))) (by rw [List.length_append, List.length_map]; omega) (fun q hq => hr q (List.mem_cons_of_mem _ hq)) fun v6 => by
        have := h v6
        rw [List.flatMap_cons, ← List.append_assoc] at this
        exact this
      rw [List.map_append] at this
      exact this
theorem ok__law_rows {f : Addr} {fd : FuncData} (F : Fun K "_law_rows" "_law_rows" s__law_rows f fd) (bn : BN mg) (d__law_values : CalM P w K mg base T 5 "_law_values" 1 S__law_values) :
    FnOk P w K mg base (L2N.CX P w) 6 f fd ["_law_width", "_law_ints"] (spOf w K T 2 S__law_rows) := by
  have sc := sc__law_rows
  refine fn_ok F sc fun cdv A outer s H H0 F0 m0 E hr => ⟨_, (jb_cons (js_par 2 3 rfl sc.nd (ja_cons (je_lst (ja_cons (je_tup ja_nil) ja_nil)) (ja_cons (je_call d__law_values (hr.mono (by decide)) (ja_cons (je_var 1) ja_nil)) ja_nil))) (jb_cons (js_for passes_own rfl (ji_rng1 (bn _ (by decide)) (ja_cons (je_var 0) ja_nil)) (jg_name 4 sc.nd) (jb_cons (js_ownL 5 sc.nd (jn_lst ja_nil)) (jb_frzQ 2 (jb_cons (js_for passes_own rfl (ji_list (je_var 2)) (jg_name 6 sc.nd) (jb_frz 5 (jb_one (js_ownL 5 sc.nd (jn_cat (je_var 5) (je_lc (own := [("_law_value_here", 7)]) rfl sc.nd (ji_list (je_var 3)) (blkOk_by (show blkC ["_law_width", "_law_ints", "_law_rows_here", "_law_values_here", "_law_column", "_law_longer", "_law_row", "_law_value_here"] (defScope s__law_rows) _ [("_law_value_here", 7)] = true by decide +kernel)) (fun _ _ _ _ _ => (jg_name 7 sc.nd)) (fun _ _ _ _ _ => jts_nil) (fun _ _ _ _ _ => (je_op o_add (je_var 6) (je_tup (ja_cons (je_var 7) ja_nil)))))))))) (jb_one (js_move 2 5 sc.nd)))))) (jb_one (js_retO 2)))), ?_⟩
  intro qs m Q R h hl; clear hl
  unfold S__law_rows at h
  split at h
  · rename_i w xs
    obtain ⟨I, rfl, hI, w1, w2, h⟩ := h
    have hvl := lawVals_len hI
    have hcount := rowsL_count31 (f := fun _ => lawVals I) fun _ => hvl
    refine ⟨Nat.zero_le _, Nat.le_of_ble_eq_true rfl, I, rfl, hI, ⟨by omega, by omega⟩, ?_⟩
    generalize lawVals I = L at h hvl hcount
    refine forW_inv (fun j ρ m' => m = m' ∧ ∃ v4 v5 v6, ρ = [some (.val (.int w)), some (.val (.lst (I.map PV.int))), (if j = 0 then some (.val (.lst ((rowsL (fun _ => L) j).map rowP))) else some (.own (.lst ((rowsL (fun _ => L) j).map rowP)))), some (.val (.lst (L.map oP))), v4, v5, v6, none]) _ 0 _ _ ?_ ?_ ⟨rfl, none, none, none, rfl⟩
    · rintro j x ρ m' N hx ⟨rfl, v4, v5, v6, rfl⟩ hN
      obtain ⟨rfl, hjw⟩ := rng_get hx
      simp only [Nat.zero_add] at hN ⊢
      have hr31 : (rowsL (fun _ => L) j).length ≤ 31 := Nat.le_trans (hcount j) (Nat.le_trans (Nat.pow_le_pow_right (by decide) (show j ≤ 1 by omega)) (by decide))
      have hlen : ((rowsL (fun _ => L) j).map rowP).length ≤ 1000000 := by rw [List.length_map]; omega
      by_cases hj : j = 0
      · rw [if_pos hj]
        dsimp only [wSeq, wNext, wIfS, wTst, wAnd, wOr, wNot, wCall, wCons, wNil, wOp, wVar, wC, wSet, wAsg, wRet, wFor, wIL, wIT, wIR1, wIR2, wIE, wLc, wYes, wTup, wLst, wPar, gT, gsCons, gsNil, gN, at', put, wTold, vals, startP, bTst, wAndV, wOrV, wNotV, wIf, wSl, wPart, wNoPart, wCB, wDGet, wDIn, wDNin, wDLst, wPut, wFrz, wOwnL, wApp, wipeP, wRaise, wDrop, wFun, wCallF, lamP, slP, wMove, wRetO, wCatN, wCallN, wIfN, wFrzQ, wLst', List.map, List.replicate, List.cons_append, List.nil_append]
        refine ⟨Nat.zero_le _, hlen, rows_plusN L _ _ _ _ hvl (rowsL (fun _ => L) j) [] v6 (by simp only [List.length_nil]; omega) (fun r hr => by rw [rowsL_len hr]; omega) fun v6 => ?_⟩
        exact hN _ _ ⟨rfl, _, _, _, rfl⟩
      · rw [if_neg hj]
        dsimp only [wSeq, wNext, wIfS, wTst, wAnd, wOr, wNot, wCall, wCons, wNil, wOp, wVar, wC, wSet, wAsg, wRet, wFor, wIL, wIT, wIR1, wIR2, wIE, wLc, wYes, wTup, wLst, wPar, gT, gsCons, gsNil, gN, at', put, wTold, vals, startP, bTst, wAndV, wOrV, wNotV, wIf, wSl, wPart, wNoPart, wCB, wDGet, wDIn, wDNin, wDLst, wPut, wFrz, wOwnL, wApp, wipeP, wRaise, wDrop, wFun, wCallF, lamP, slP, wMove, wRetO, wCatN, wCallN, wIfN, wFrzQ, wLst', List.map, List.replicate, List.cons_append, List.nil_append]
        refine ⟨Nat.zero_le _, hlen, rows_plusN L _ _ _ _ hvl (rowsL (fun _ => L) j) [] v6 (by simp only [List.length_nil]; omega) (fun r hr => by rw [rowsL_len hr]; omega) fun v6 => ?_⟩
        exact hN _ _ ⟨rfl, _, _, _, rfl⟩
    · rintro ρ m' ⟨rfl, v4, v5, v6, rfl⟩
      rw [rngP_len, Nat.zero_add, if_neg (by omega)]
      exact fun a ha => h a ha (Nat.le_trans (hcount _) (Nat.le_trans (Nat.pow_le_pow_right (by decide) (show w.toNat ≤ 2 by omega)) (by decide)))
  · exact h.elim
end
end PL


namespace PL
open PySem PySem.Spec PyProof.Rows L2
section
variable {P : Program} {w : World} {K : PySem.W.Frag} {mg : Str → Option Value} {base : Heap} {T : List (Addr × Str)} {C_FilterError C_InvalidWidth C_InvalidPredicate : Addr}
abbrev s_flipped : Stmt := top 21
theorem sc_flipped : FnScope ["part", "op", "left", "right"] ["part"] (defScope s_flipped) := ⟨rfl, rfl, rfl, by decide +kernel, rfl, by decide +kernel, by decide +kernel⟩
@[simp] def S_flipped : SpP := fun ps m Q R => match ps with
  | [p] => ∃ (o : Op4) (a b : Opd), p = prP (.cmp o a b) ∧ Q (prP (flipP o a b)) m
  | _ => False
theorem ok_flipped {f : Addr} {fd : FuncData} (F : Fun K "flipped" "flipped" s_flipped f fd) (bn : BN mg)  :
    FnOk P w K mg base (L2N.CX P w) 1 f fd ["part"] (spOf w K T 1 S_flipped) := by
  have sc := sc_flipped
  refine fn_ok F sc fun cdv A outer s H H0 F0 m0 E hr => ⟨_, (jb_cons (js_asg (je_sl (je_var 0) (jo_some je_int) jo_none) (jg_tup (n := 3) rfl (jgs_cons (jg_name 1 sc.nd) (jgs_cons (jg_name 2 sc.nd) (jgs_cons (jg_name 3 sc.nd) jgs_nil)))))
  (jb_cons (js_if (jt_cmp (o_in (rm_of hr)) (je_var 1) (je_tup (ja_cons je_str (ja_cons je_str ja_nil)))) (jb_one (js_ret (je_tup (ja_cons je_str (ja_cons (je_if (jt_cmp (o_eq (rm_of hr)) (je_var 1) je_str) je_str je_str) (ja_cons (je_var 2) (ja_cons (je_var 3) ja_nil))))))) jb_nil)
  (jb_one (js_ret (je_tup (ja_cons je_str (ja_cons (je_if (jt_cmp (o_eq (rm_of hr)) (je_var 1) je_str) je_str je_str) (ja_cons (je_var 3) (ja_cons (je_var 2) ja_nil))))))))), ?_⟩
  intro qs m Q R h hl; clear hl
  unfold S_flipped at h
  split at h
  · obtain ⟨o, a, b, rfl, h⟩ := h
    have ec : ∀ x : Str, cutP [PV.str "compare", .str x, opdP a, opdP b] (some 1) none = [.str x, opdP a, opdP b] := fun x => rfl
    cases o <;> simpa (decide := true) [prP, flipP, str_beq, Op4.s, ec] using h
  · exact h.elim
abbrev s_joined : Stmt := top 23
theorem sc_joined : FnScope ["word", "predicates", "found", "predicate"] ["word", "predicates"] (defScope s_joined) := ⟨rfl, rfl, rfl, by decide +kernel, rfl, by decide +kernel, by decide +kernel⟩
@[simp] def S_joined : SpP := fun ps m Q R => match ps with
  | [.str s, .lst xs] => ∃ (or : Bool) (l : List Pr), s = (if or then ("or" : Str) else "and") ∧ xs = l.map prP ∧ l ≠ [] ∧ l.length ≤ 1000 ∧ Q (prP (joinP or l)) m
  | _ => False
theorem cut_tl {α : Type} (x : α) (xs : List α) : cutP (x :: xs) (some 1) none = xs := by
  unfold cutP
  have e1 : HT.sIx (x :: xs).length 0 (some 1) = 1 := by simp [HT.sIx]
  have e2 : HT.sIx (x :: xs).length (x :: xs).length none = xs.length + 1 := by simp [HT.sIx]
  rw [e1, e2]
  simp
theorem ok_joined {f : Addr} {fd : FuncData} (F : Fun K "joined" "joined" s_joined f fd) (bn : BN mg)  :
    FnOk P w K mg base (L2N.CX P w) 1 f fd ["word", "predicates"] (spOf w K T 2 S_joined) := by
  have sc := sc_joined
  refine fn_ok F sc fun cdv A outer s H H0 F0 m0 E hr => ⟨_, (jb_cons (js_set 2 sc.nd (je_ix (je_var 1) je_int))
  (jb_cons (js_for passes_own rfl (ji_list (je_sl (je_var 1) (jo_some je_int) jo_none)) (jg_name 3 sc.nd) (jb_one (js_set 2 sc.nd (je_tup (ja_cons (je_var 0) (ja_cons (je_var 2) (ja_cons (je_var 3) ja_nil)))))))
  (jb_one (js_ret (je_var 2))))), ?_⟩
  intro qs m Q R h hl; clear hl
  unfold S_joined at h
  split at h
  · obtain ⟨or, l, rfl, rfl, hne, hlen, h⟩ := h
    cases l with
    | nil => exact absurd rfl hne
    | cons p l =>
      simp only [List.length_cons] at hlen
      have ec : cutP (prP p :: l.map prP) (some 1) none = l.map prP := cut_tl _ _
      dsimp only [wSeq, wNext, wIfS, wTst, wAnd, wOr, wNot, wCall, wCons, wNil, wOp, wVar, wC, wSet, wAsg, wRet, wFor, wIL, wIT, wIR1, wIR2, wIE, wLc, wYes, wTup, wLst, wPar, gT, gsCons, gsNil, gN, at', put, wTold, vals, startP, bTst, wAndV, wOrV, wNotV, wIf, wSl, wPart, wNoPart, wCB, wDGet, wDIn, wDNin, wDLst, wPut, wFrz, wOwnL, wApp, wipeP, wRaise, wDrop, wFun, wCallF, lamP, slP, wMove, wRetO, wCatN, wCallN, wIfN, wFrzQ, wLst', List.map, List.replicate, List.cons_append, List.nil_append]
      refine ⟨prP p, atI_0 _ _, ?_⟩
      show List.length (cutP (prP p :: l.map prP) (some 1) none) ≤ 1000000 ∧ _
      rw [ec]
      refine ⟨by rw [List.length_map]; omega, ?_⟩
      refine forW_inv (fun j ρ m' => m = m' ∧ ∃ v3, ρ = [some (.val (.str (if or then ("or" : Str) else "and"))), some (.val (.lst (prP p :: l.map prP))), some (.val (prP ((l.take j).foldl (fun a b => .bin or a b) p))), v3]) _ 0 _ _ ?_ ?_ ⟨rfl, none, rfl⟩
      · rintro j x ρ m' N hx ⟨rfl, v3, rfl⟩ hN
        rw [List.getElem?_map] at hx
        cases e : l[j]? with
        | none => rw [e] at hx; cases hx
        | some q =>
          rw [e] at hx
          cases hx
          simp only [Nat.zero_add] at hN ⊢
          dsimp only [wSeq, wNext, wIfS, wTst, wAnd, wOr, wNot, wCall, wCons, wNil, wOp, wVar, wC, wSet, wAsg, wRet, wFor, wIL, wIT, wIR1, wIR2, wIE, wLc, wYes, wTup, wLst, wPar, gT, gsCons, gsNil, gN, at', put, wTold, vals, startP, bTst, wAndV, wOrV, wNotV, wIf, wSl, wPart, wNoPart, wCB, wDGet, wDIn, wDNin, wDLst, wPut, wFrz, wOwnL, wApp, wipeP, wRaise, wDrop, wFun, wCallF, lamP, slP, wMove, wRetO, wCatN, wCallN, wIfN, wFrzQ, wLst', List.map, List.replicate, List.cons_append, List.nil_append]
          refine ⟨Nat.le_of_ble_eq_true rfl, hN _ _ ⟨rfl, some (.val (prP q)), ?_⟩⟩
          rw [List.take_add_one, e, Option.toList, List.foldl_append]
          rfl
      · rintro ρ m' ⟨rfl, v3, rfl⟩
        rw [List.length_map, Nat.zero_add, List.take_length]
        exact h
  · exact h.elim
abbrev s_others_than : Stmt := top 25
theorem sc_others_than : FnScope ["truth", "one"] ["truth"] (defScope s_others_than) := ⟨rfl, rfl, rfl, by decide +kernel, rfl, by decide +kernel, by decide +kernel⟩
@[simp] def S_others_than : SpP := fun ps m Q R => match ps with
  | [.str s] => ∃ t : Option Bool, s = truthS t ∧ Q (.lst ((othersT t).map fun x => .str (truthS x))) m
  | _ => False
theorem ok_others_than {f : Addr} {fd : FuncData} (F : Fun K "others_than" "others_than" s_others_than f fd) (bn : BN mg)  :
    FnOk P w K mg base (L2N.CX P w) 1 f fd ["truth"] (spOf w K T 1 S_others_than) := by
  have sc := sc_others_than
  refine fn_ok F sc fun cdv A outer s H H0 F0 m0 E hr => ⟨_, (jb_one (js_ret (je_lc (own := [("one", 1)]) rfl sc.nd (ji_tup (je_tup (ja_cons je_str (ja_cons je_str (ja_cons je_str ja_nil))))) (blkOk_by (show blkC ["truth", "one"] (defScope s_others_than) _ [("one", 1)] = true by decide +kernel)) (fun _ _ _ _ _ => (jg_name 1 sc.nd)) (fun _ _ _ _ _ => (jts_one (jt_cmp (o_ne (rm_of hr)) (je_var 1) (je_var 0)))) (fun _ _ _ _ _ => (je_var 1))))), ?_⟩
  intro qs m Q R h hl; clear hl
  unfold S_others_than at h
  split at h
  · obtain ⟨t, rfl, h⟩ := h
    rcases t with _ | _ | _ <;> simpa (decide := true) [compW, wipeP, truthS, str_beq, othersT] using h
  · exact h.elim
abbrev s_negated_list : Stmt := top 24
theorem sc_negated_list : FnScope ["predicate", "word", "op", "left", "right", "other", "one"] ["predicate"] (defScope s_negated_list) := ⟨rfl, rfl, rfl, by decide +kernel, rfl, by decide +kernel, by decide +kernel⟩
@[simp] def S_negated_list : SpP := fun ps m Q R => match ps with
  | [p] => ∃ (al : Bool) (o : Op4) (a : Opd) (l : Row), p = prP (.qnt al o a l) ∧ l.length ≤ 1000 ∧ Q (prP (negL al o a l)) m
  | _ => False
theorem flip_comp {o : Op4} {a : Opd} {l : Row} {m : Mem} {Q : List PV → Mem → Prop} {v0 v1 v4 v5 v6 : Option SV} (ho : o = .lt ∨ o = .le) (h : Q ((l.map fun v => flipP o a (.lit v)).map prP) m) :
    compW (gN 6) wYes (wCall S_flipped (wCons (wTup (wCons (wC (PV.str "compare")) (wCons (wVar 2) (wCons (wVar 3) (wCons (wTup (wCons (wC (PV.str "value")) (wCons (wVar 6) wNil))) wNil))))) wNil))
      [v0, v1, some (.val (.str o.s)), some (.val (opdP a)), v4, v5, v6] (l.map oP) [] m Q := by
  refine compW_mapA oP (fun v => prP (flipP o a (.lit v))) l [] (fun v _ N acc hN => ?_) ?_
  · dsimp only [wSeq, wNext, wIfS, wTst, wAnd, wOr, wNot, wCall, wCons, wNil, wOp, wVar, wC, wSet, wAsg, wRet, wFor, wIL, wIT, wIR1, wIR2, wIE, wLc, wYes, wTup, wLst, wPar, gT, gsCons, gsNil, gN, at', put, wTold, vals, startP, bTst, wAndV, wOrV, wNotV, wIf, wSl, wPart, wNoPart, wCB, wDGet, wDIn, wDNin, wDLst, wPut, wFrz, wOwnL, wApp, wipeP, wRaise, wDrop, wFun, wCallF, lamP, slP, wMove, wRetO, wCatN, wCallN, wIfN, wFrzQ, wLst', List.map, List.replicate, List.cons_append, List.nil_append]
    exact ⟨Nat.le_of_ble_eq_true rfl, Nat.le_of_ble_eq_true rfl, o, a, .lit v, rfl, hN⟩
  · rw [List.map_map] at h
    exact h
theorem ok_negated_list {f : Addr} {fd : FuncData} (F : Fun K "negated_list" "negated_list" s_negated_list f fd) (bn : BN mg) (d_joined : CalM P w K mg base T 1 "joined" 2 S_joined) (d_flipped : CalM P w K mg base T 1 "flipped" 1 S_flipped) :
    FnOk P w K mg base (L2N.CX P w) 2 f fd ["predicate"] (spOf w K T 1 S_negated_list) := by
  have sc := sc_negated_list
  refine fn_ok F sc fun cdv A outer s H H0 F0 m0 E hr => ⟨_, (jb_cons (js_asg (je_var 0) (jg_tup (n := 4) rfl (jgs_cons (jg_name 1 sc.nd) (jgs_cons (jg_name 2 sc.nd) (jgs_cons (jg_name 3 sc.nd) (jgs_cons (jg_name 4 sc.nd) jgs_nil))))))
  (jb_consC (js_set 5 sc.nd (je_if (jt_cmp (o_eq (rm_of hr)) (je_var 1) je_str) je_str je_str))
  (jb_cons (js_if (jt_cmp (o_in (rm_of hr)) (je_var 2) (je_tup (ja_cons je_str (ja_cons je_str ja_nil)))) (jb_one (js_ret (je_tup (ja_cons (je_var 5) (ja_cons (je_if (jt_cmp (o_eq (rm_of hr)) (je_var 2) je_str) je_str je_str) (ja_cons (je_var 3) (ja_cons (je_var 4) ja_nil))))))) jb_nil)
  (jb_cons (js_if (jt_cmp (o_eq (rm_of hr)) (je_var 4) (je_tup ja_nil)) (jb_one (js_ret (je_if (jt_cmp (o_eq (rm_of hr)) (je_var 1) je_str) (je_tup (ja_cons je_str ja_nil)) (je_tup (ja_cons je_str ja_nil))))) jb_nil)
  (jb_one (js_ret (je_call d_joined (hr.mono (by decide)) (ja_cons (je_if (jt_cmp (o_eq (rm_of hr)) (je_var 1) je_str) je_str je_str) (ja_cons (je_lc (own := [("one", 6)]) rfl sc.nd (ji_tup (je_var 4)) (blkOk_by (show blkC ["predicate", "word", "op", "left", "right", "other", "one"] (defScope s_negated_list) _ [("one", 6)] = true by decide +kernel)) (fun _ _ _ _ _ => (jg_name 6 sc.nd)) (fun _ _ _ _ _ => jts_nil) (fun _ _ _ _ _ => (je_call d_flipped (hr.mono (by decide)) (ja_cons (je_tup (ja_cons je_str (ja_cons (je_var 2) (ja_cons (je_var 3) (ja_cons (je_tup (ja_cons je_str (ja_cons (je_var 6) ja_nil))) ja_nil))))) ja_nil)))) ja_nil))))))))), ?_⟩
  intro qs m Q R h hl; clear hl
  unfold S_negated_list at h
  split at h
  · obtain ⟨al, o, a, l, rfl, hl, h⟩ := h
    simp only [prP]
    dsimp only [wSeq, wNext, wIfS, wTst, wAnd, wOr, wNot, wCall, wCons, wNil, wOp, wVar, wC, wSet, wAsg, wRet, wFor, wIL, wIT, wIR1, wIR2, wIE, wLc, wYes, wTup, wLst, wPar, gT, gsCons, gsNil, gN, at', put, wTold, vals, startP, bTst, wAndV, wOrV, wNotV, wIf, wSl, wPart, wNoPart, wCB, wDGet, wDIn, wDNin, wDLst, wPut, wFrz, wOwnL, wApp, wipeP, wRaise, wDrop, wFun, wCallF, lamP, slP, wMove, wRetO, wCatN, wCallN, wIfN, wFrzQ, wLst', List.map, List.replicate, List.cons_append, List.nil_append]
    refine ⟨rfl, ?_⟩
    refine seqC (fun ρ' m' => m = m' ∧ ρ' = [some (SV.val (prP (.qnt al o a l))), some (.val (.str (if al then ("all" : Str) else "any"))), some (.val (.str o.s)), some (.val (opdP a)), some (.val (rowP l)), some (.val (.str (if al then ("any" : Str) else "all"))), none]) (fun N hN => ?_) ?_
    · cases al
      · simp (decide := true) [str_beq]
        exact hN _ _ ⟨rfl, rfl⟩
      · simp (decide := true) [str_beq]
        exact hN _ _ ⟨rfl, rfl⟩
    · rintro ρ m' ⟨rfl, rfl⟩
      cases l with
      | nil =>
        cases o <;> cases al <;> simpa (decide := true) [prP, negL, str_beq, Op4.s, truthS, rowP] using h
      | cons v l =>
        have e1 : okD (rowP (v :: l)) = true := okD_row' _
        have e2 : peq (rowP (v :: l)) (.tup []) = false := by simp [rowP, peq, toD, PyData.eqv, toDs, PyData.eqvAll]
        have e3 : ((v :: l).map oP).length ≤ 1000000 := by rw [List.length_map]; omega
        cases o
        · cases al <;> simpa (decide := true) [prP, negL, str_beq, Op4.s] using h
        · cases al <;> simpa (decide := true) [prP, negL, str_beq, Op4.s] using h
        · have h' : Q (prP (joinP al ((v :: l).map fun v => flipP .lt a (.lit v)))) m := by simpa [negL] using h
          cases al
          · simp (decide := true) [prP, str_beq, Op4.s, e1, e2]
            refine ⟨by omega, e3, flip_comp (o := .lt) (by simp) ⟨_, rfl, by simp, by rw [List.length_map]; exact hl, h'⟩⟩
          · simp (decide := true) [prP, str_beq, Op4.s, e1, e2]
            refine ⟨by omega, e3, flip_comp (o := .lt) (by simp) ⟨_, rfl, by simp, by rw [List.length_map]; exact hl, h'⟩⟩
        · have h' : Q (prP (joinP al ((v :: l).map fun v => flipP .le a (.lit v)))) m := by simpa [negL] using h
          cases al
          · simp (decide := true) [prP, str_beq, Op4.s, e1, e2]
            refine ⟨by omega, e3, flip_comp (o := .le) (by simp) ⟨_, rfl, by simp, by rw [List.length_map]; exact hl, h'⟩⟩
          · simp (decide := true) [prP, str_beq, Op4.s, e1, e2]
            refine ⟨by omega, e3, flip_comp (o := .le) (by simp) ⟨_, rfl, by simp, by rw [List.length_map]; exact hl, h'⟩⟩
  · exact h.elim
end
end PL


namespace PL
open PySem PySem.Spec PyProof.Rows L2
section
variable {P : Program} {w : World} {K : PySem.W.Frag} {mg : Str → Option Value} {base : Heap} {T : List (Addr × Str)} {C_FilterError C_InvalidWidth C_InvalidPredicate : Addr}
abbrev s_negated : Stmt := top 26
theorem sc_negated : FnScope ["predicate", "word", "inner", "truth"] ["predicate"] (defScope s_negated) := ⟨rfl, rfl, rfl, by decide +kernel, rfl, by decide +kernel, by decide +kernel⟩
@[irreducible] def S_negated : Nat → SpP := fun n ps m Q R => match n, ps with
  | n + 1, [p] => ∃ (pr : Pr) (w : Int), p = prP pr ∧ pr.depth ≤ n + 1 ∧ pr.ok w = true ∧ Q (prP (nw pr true)) m
  | _, _ => False
@[irreducible] def S_without_not : Nat → SpP := fun n ps m Q R => match n, ps with
  | n + 1, [p] => ∃ (pr : Pr) (w : Int), p = prP pr ∧ pr.depth ≤ n + 1 ∧ pr.ok w = true ∧ Q (prP (nw pr false)) m
  | _, _ => False
theorem S_neg_mk {n : Nat} {w : Int} {pr : Pr} {m : Mem} {Q : KV'} {R : KX} (h0 : pr.depth ≤ n) (ho : pr.ok w = true) (h : Q (prP (nw pr true)) m) : S_negated n [prP pr] m Q R := by
  have : 1 ≤ pr.depth := by cases pr <;> simp [Pr.depth]
  obtain ⟨n, rfl⟩ : ∃ j, n = j + 1 := ⟨n - 1, by omega⟩
  unfold S_negated
  exact ⟨pr, w, rfl, h0, ho, h⟩
theorem S_wn_mk {n : Nat} {w : Int} {pr : Pr} {m : Mem} {Q : KV'} {R : KX} (h0 : pr.depth ≤ n) (ho : pr.ok w = true) (h : Q (prP (nw pr false)) m) : S_without_not n [prP pr] m Q R := by
  have : 1 ≤ pr.depth := by cases pr <;> simp [Pr.depth]
  obtain ⟨n, rfl⟩ : ∃ j, n = j + 1 := ⟨n - 1, by omega⟩
  unfold S_without_not
  exact ⟨pr, w, rfl, h0, ho, h⟩
theorem step_negated {f : Addr} {fd : FuncData} (F : Fun K "negated" "negated" s_negated f fd) (bn : BN mg) (d_flipped : CalM P w K mg base T 1 "flipped" 1 S_flipped) (d_joined : CalM P w K mg base T 1 "joined" 2 S_joined) (d_negated_list : CalM P w K mg base T 2 "negated_list" 1 S_negated_list) (d_others_than : CalM P w K mg base T 1 "others_than" 1 S_others_than) (n : Nat) (d_negated : CalM P w K mg base T (2 + n) "negated" 1 (S_negated n)) (d_without_not : CalM P w K mg base T (2 + n) "without_not" 1 (S_without_not n)) :
    FnOk P w K mg base (L2N.CX P w) (2 + n + 1) f fd ["predicate"] (spOf w K T 1 (S_negated (n + 1))) := by
  have sc := sc_negated
  refine fn_ok F sc fun cdv A outer s H H0 F0 m0 E hr => ⟨_, (jb_cons (js_set 1 sc.nd (je_ix (je_var 0) je_int))
  (jb_cons (js_if (jt_cmp (o_in (rm_of hr)) (je_var 1) (je_tup (ja_cons je_str (ja_cons je_str ja_nil)))) (jb_one (js_ret (je_if (jt_cmp (o_eq (rm_of hr)) (je_var 1) je_str) (je_tup (ja_cons je_str ja_nil)) (je_tup (ja_cons je_str ja_nil))))) jb_nil)
  (jb_cons (js_if (jt_cmp (o_eq (rm_of hr)) (je_var 1) je_str) (jb_one (js_ret (je_var 0))) jb_nil)
  (jb_cons (js_if (jt_cmp (o_eq (rm_of hr)) (je_var 1) je_str) (jb_one (js_ret (je_call d_flipped (hr.mono (by omega)) (ja_cons (je_var 0) ja_nil)))) jb_nil)
  (jb_cons (js_if (jt_cmp (o_eq (rm_of hr)) (je_var 1) je_str) (jb_one (js_ret (je_tup (ja_cons je_str (ja_cons je_str (ja_cons (je_ix (je_var 0) je_int) (ja_cons (je_ix (je_var 0) je_int) ja_nil))))))) jb_nil)
  (jb_cons (js_if (jt_cmp (o_in (rm_of hr)) (je_var 1) (je_tup (ja_cons je_str (ja_cons je_str ja_nil)))) (jb_one (js_ret (je_call d_negated_list (hr.mono (by omega)) (ja_cons (je_var 0) ja_nil)))) jb_nil)
  (jb_cons (js_if (jt_cmp (o_eq (rm_of hr)) (je_var 1) je_str) (jb_one (js_ret (je_tup (ja_cons je_str (ja_cons je_str (ja_cons (je_var 0) ja_nil)))))) jb_nil)
  (jb_cons (js_if (jt_cmp (o_eq (rm_of hr)) (je_var 1) je_str) (jb_one (js_ret (je_call d_without_not (hr.mono (by omega)) (ja_cons (je_ix (je_var 0) je_int) ja_nil)))) jb_nil)
  (jb_cons (js_if (jt_cmp (o_eq (rm_of hr)) (je_var 1) je_str) (jb_cons (js_set 2 sc.nd (je_call d_without_not (hr.mono (by omega)) (ja_cons (je_ix (je_var 0) je_int) ja_nil)))
  (jb_one (js_ret (je_call d_joined (hr.mono (by omega)) (ja_cons je_str (ja_cons (je_lc (own := [("truth", 3)]) rfl sc.nd (ji_list (je_call d_others_than (hr.mono (by omega)) (ja_cons (je_ix (je_var 0) je_int) ja_nil))) (blkOk_by (show blkC ["predicate", "word", "inner", "truth"] (defScope s_negated) _ [("truth", 3)] = true by decide +kernel)) (fun _ _ _ _ _ => (jg_name 3 sc.nd)) (fun _ _ _ _ _ => jts_nil) (fun _ _ _ _ _ => (je_tup (ja_cons je_str (ja_cons (je_var 3) (ja_cons (je_var 2) ja_nil)))))) ja_nil)))))) jb_nil)
  (jb_one (js_ret (je_tup (ja_cons (je_if (jt_cmp (o_eq (rm_of hr)) (je_var 1) je_str) je_str je_str) (ja_cons (je_call d_negated (hr.mono (by omega)) (ja_cons (je_ix (je_var 0) je_int) ja_nil)) (ja_cons (je_call d_negated (hr.mono (by omega)) (ja_cons (je_ix (je_var 0) je_int) ja_nil)) ja_nil))))))))))))))), ?_⟩
  intro qs m Q R h hl; clear hl
  unfold S_negated at h
  split at h
  · rename_i n' p heq
    cases heq
    obtain ⟨pr, wd, rfl, hd, ho, h⟩ := h
    cases pr with
    | cst t => rcases t with _ | _ | _ <;> simpa (decide := true) [prP, str_beq, nw, truthS, neg3] using h
    | cmp o a b =>
      simp (decide := true) [prP, str_beq]
      exact ⟨o, a, b, by simp [prP], h⟩
    | inn a l => simpa (decide := true) [prP, str_beq, nw, Op4.s] using h
    | qnt al o a l =>
      have hl : l.length ≤ 1000 := by
        simp only [Pr.ok, Bool.and_eq_true, lstOk, decide_eq_true_eq] at ho
        omega
      cases al
      · simp (decide := true) [prP, str_beq]
        exact ⟨o, a, l, ⟨rfl, rfl, rfl⟩, hl, h⟩
      · simp (decide := true) [prP, str_beq]
        exact ⟨o, a, l, ⟨rfl, rfl, rfl⟩, hl, h⟩
    | nul a => simpa (decide := true) [prP, str_beq, nw, truthS] using h
    | nott q =>
      simp only [Pr.depth] at hd
      simp (decide := true) [prP, str_beq]
      exact S_wn_mk (by omega) (w := wd) ho h
    | iss t q =>
      simp only [Pr.depth] at hd
      simp (decide := true) [prP, str_beq]
      refine S_wn_mk (by omega) (w := wd) ho ?_
      have e2 : (othersT t).length = 2 := by rcases t with _ | _ | _ <;> rfl
      refine ⟨t, rfl, by omega, compW_mapA (fun x => PV.str (truthS x)) (fun x => prP (.iss x (nw q false))) (othersT t) [] (fun x _ N acc hN => ?_) ⟨(othersT t).map fun x => .iss x (nw q false), ?_, fun z => ?_, by rw [List.length_map]; omega, ?_⟩⟩
      · dsimp only [wSeq, wNext, wIfS, wTst, wAnd, wOr, wNot, wCall, wCons, wNil, wOp, wVar, wC, wSet, wAsg, wRet, wFor, wIL, wIT, wIR1, wIR2, wIE, wLc, wYes, wTup, wLst, wPar, gT, gsCons, gsNil, gN, at', put, wTold, vals, startP, bTst, wAndV, wOrV, wNotV, wIf, wSl, wPart, wNoPart, wCB, wDGet, wDIn, wDNin, wDLst, wPut, wFrz, wOwnL, wApp, wipeP, wRaise, wDrop, wFun, wCallF, lamP, slP, wMove, wRetO, wCatN, wCallN, wIfN, wFrzQ, wLst', List.map, List.replicate, List.cons_append, List.nil_append]
        exact ⟨Nat.le_of_ble_eq_true rfl, hN⟩
      · rw [List.map_map]; rfl
      · rw [List.map_eq_nil_iff] at z
        rw [z] at e2
        cases e2
      · simpa [nw] using h
    | bin or a b =>
      simp only [Pr.ok, Bool.and_eq_true] at ho
      simp only [Pr.depth] at hd
      cases or
      · simp (decide := true) [prP, str_beq]
        refine S_neg_mk (by omega) (w := wd) ho.1 (S_neg_mk (by omega) (w := wd) ho.2 ?_)
        simpa [nw, prP] using h
      · simp (decide := true) [prP, str_beq]
        refine S_neg_mk (by omega) (w := wd) ho.1 (S_neg_mk (by omega) (w := wd) ho.2 ?_)
        simpa [nw, prP] using h
  · exact h.elim
abbrev s_without_not : Stmt := top 27
theorem sc_without_not : FnScope ["predicate", "word"] ["predicate"] (defScope s_without_not) := ⟨rfl, rfl, rfl, by decide +kernel, rfl, by decide +kernel, by decide +kernel⟩
theorem step_without_not {f : Addr} {fd : FuncData} (F : Fun K "without_not" "without_not" s_without_not f fd) (bn : BN mg) (n : Nat) (d_negated : CalM P w K mg base T (2 + n) "negated" 1 (S_negated n)) (d_without_not : CalM P w K mg base T (2 + n) "without_not" 1 (S_without_not n)) :
    FnOk P w K mg base (L2N.CX P w) (2 + n + 1) f fd ["predicate"] (spOf w K T 1 (S_without_not (n + 1))) := by
  have sc := sc_without_not
  refine fn_ok F sc fun cdv A outer s H H0 F0 m0 E hr => ⟨_, (jb_cons (js_set 1 sc.nd (je_ix (je_var 0) je_int))
  (jb_cons (js_if (jt_cmp (o_eq (rm_of hr)) (je_var 1) je_str) (jb_one (js_ret (je_call d_negated (hr.mono (by omega)) (ja_cons (je_ix (je_var 0) je_int) ja_nil)))) jb_nil)
  (jb_cons (js_if (jt_cmp (o_in (rm_of hr)) (je_var 1) (je_tup (ja_cons je_str (ja_cons je_str ja_nil)))) (jb_one (js_ret (je_tup (ja_cons (je_var 1) (ja_cons (je_call d_without_not (hr.mono (by omega)) (ja_cons (je_ix (je_var 0) je_int) ja_nil)) (ja_cons (je_call d_without_not (hr.mono (by omega)) (ja_cons (je_ix (je_var 0) je_int) ja_nil)) ja_nil)))))) jb_nil)
  (jb_one (js_ret (je_if (jt_cmp (o_eq (rm_of hr)) (je_var 1) je_str) (je_tup (ja_cons je_str (ja_cons (je_ix (je_var 0) je_int) (ja_cons (je_call d_without_not (hr.mono (by omega)) (ja_cons (je_ix (je_var 0) je_int) ja_nil)) ja_nil)))) (je_var 0))))))), ?_⟩
  intro qs m Q R h hl; clear hl
  unfold S_without_not at h
  split at h
  · rename_i n' p heq
    cases heq
    obtain ⟨pr, wd, rfl, hd, ho, h⟩ := h
    cases pr with
    | cst t => rcases t with _ | _ | _ <;> simpa (decide := true) [prP, str_beq, nw, truthS] using h
    | cmp o a b => simpa (decide := true) [prP, str_beq, nw] using h
    | inn a l => simpa (decide := true) [prP, str_beq, nw] using h
    | qnt al o a l => cases al <;> simpa (decide := true) [prP, str_beq, nw] using h
    | nul a => simpa (decide := true) [prP, str_beq, nw] using h
    | nott q =>
      simp only [Pr.depth] at hd
      simp (decide := true) [prP, str_beq]
      exact S_neg_mk (by omega) (w := wd) ho h
    | iss t q =>
      simp only [Pr.depth] at hd
      simp (decide := true) [prP, str_beq]
      refine S_wn_mk (by omega) (w := wd) ho ?_
      simpa [nw, prP] using h
    | bin or a b =>
      simp only [Pr.ok, Bool.and_eq_true] at ho
      simp only [Pr.depth] at hd
      cases or
      · simp (decide := true) [prP, str_beq]
        refine S_wn_mk (by omega) (w := wd) ho.1 (S_wn_mk (by omega) (w := wd) ho.2 ?_)
        simpa [nw, prP] using h
      · simp (decide := true) [prP, str_beq]
        refine S_wn_mk (by omega) (w := wd) ho.1 (S_wn_mk (by omega) (w := wd) ho.2 ?_)
        simpa [nw, prP] using h
  · exact h.elim
/-- two defs that call one another -/
theorem mut_negated {f g : Addr} {fd gd : FuncData} (F : Fun K "negated" "negated" s_negated f fd) (G : Fun K "without_not" "without_not" s_without_not g gd) (bn : BN mg) (d_flipped : CalM P w K mg base T 1 "flipped" 1 S_flipped) (d_joined : CalM P w K mg base T 1 "joined" 2 S_joined) (d_negated_list : CalM P w K mg base T 2 "negated_list" 1 S_negated_list) (d_others_than : CalM P w K mg base T 1 "others_than" 1 S_others_than) (hf : mg "negated" = some (.ref f)) (hg : mg "without_not" = some (.ref g)) (bf : Binds K fd ["predicate"] []) (bg : Binds K gd ["predicate"] []) :
    ∀ N, FnOk P w K mg base (L2N.CX P w) (2 + N) f fd ["predicate"] (spOf w K T 1 (S_negated N)) ∧ FnOk P w K mg base (L2N.CX P w) (2 + N) g gd ["predicate"] (spOf w K T 1 (S_without_not N))
  | 0 => ⟨fn_vac fun ps m Q R h => by unfold S_negated at h; exact h, fn_vac fun ps m Q R h => by unfold S_without_not at h; exact h⟩
  | N + 1 => by
    obtain ⟨h1, h2⟩ := mut_negated F G bn d_flipped d_joined d_negated_list d_others_than hf hg bf bg N
    exact ⟨step_negated F bn d_flipped d_joined d_negated_list d_others_than N (cal_of h1 hf F.kp bf) (cal_of h2 hg G.kp bg), step_without_not G bn N (cal_of h1 hf F.kp bf) (cal_of h2 hg G.kp bg)⟩
end
end PL


namespace PL
open PySem PySem.Spec PyProof.Rows L2
section
variable {P : Program} {w : World} {K : PySem.W.Frag} {mg : Str → Option Value} {base : Heap} {T : List (Addr × Str)} {C_FilterError C_InvalidWidth C_InvalidPredicate : Addr}
abbrev s_pushed : Stmt := top 28
theorem sc_pushed : FnScope ["width", "predicate"] ["width", "predicate"] (defScope s_pushed) := ⟨rfl, rfl, rfl, by decide +kernel, rfl, by decide +kernel, by decide +kernel⟩
@[simp] def S_pushed : SpP := fun ps m Q R => match ps with
  | [.int w, p] => ∃ pr : Pr, p = prP pr ∧ 1 ≤ w ∧ w ≤ 3 ∧ pr.good w = true ∧ Q (prP (nw pr false)) m
  | _ => False
theorem ok_pushed {f : Addr} {fd : FuncData} (F : Fun K "pushed" "pushed" s_pushed f fd) (bn : BN mg) (d_need_predicate : CalM P w K mg base T 12 "need_predicate" 2 (S_need_predicate C_InvalidWidth C_InvalidPredicate)) (d_without_not : CalM P w K mg base T 22 "without_not" 1 (S_without_not 20)) :
    FnOk P w K mg base (L2N.CX P w) 23 f fd ["width", "predicate"] (spOf w K T 2 S_pushed) := by
  have sc := sc_pushed
  refine fn_ok F sc fun cdv A outer s H H0 F0 m0 E hr => ⟨_, (jb_cons (js_expr (je_call d_need_predicate (hr.mono (by decide)) (ja_cons (je_var 0) (ja_cons (je_var 1) ja_nil))))
  (jb_one (js_ret (je_call d_without_not (hr.mono (by decide)) (ja_cons (je_var 1) ja_nil))))), ?_⟩
  intro qs m Q R h hl; clear hl
  unfold S_pushed at h
  split at h
  · rename_i w p
    obtain ⟨pr, rfl, w1, w3, hg, h⟩ := h
    have hw : isWhole (.int w) 1 3 = true := by simp only [isWhole, Bool.and_eq_true, decide_eq_true_eq]; omega
    have hok : pr.ok w = true := by
      simp only [Pr.good, Bool.and_eq_true, decide_eq_true_eq] at hg
      exact hg.1.1.1
    refine ⟨trivial, fun z => absurd (hw.symm.trans z) (by decide), fun w' e _ => ?_⟩
    cases e
    exact ⟨okD_prP _, fun _ => S_wn_mk (by have := (good_ok hg).2.1; omega) hok h, fun z => absurd (z.symm.trans (isPred_P _ _)) (by rw [hg]; decide)⟩
  · exact h.elim
abbrev s__law_has_not : Stmt := top 45
theorem sc__law_has_not : FnScope ["_law_p", "_law_places", "_law_place"] ["_law_p"] (defScope s__law_has_not) := ⟨rfl, rfl, rfl, by decide +kernel, rfl, by decide +kernel, by decide +kernel⟩
@[irreducible] def S__law_has_not : Nat → SpP := fun n ps m Q R => match n, ps with
  | n + 1, [p] => ∃ pr : Pr, p = prP pr ∧ pr.depth ≤ n + 1 ∧ Q (.bl (hasNot pr)) m
  | _, _ => False
theorem S_has_mk {n : Nat} {pr : Pr} {m : Mem} {Q : KV'} {R : KX} (h0 : pr.depth ≤ n) (h : Q (.bl (hasNot pr)) m) : S__law_has_not n [prP pr] m Q R := by
  have : 1 ≤ pr.depth := by cases pr <;> simp [Pr.depth]
  obtain ⟨n, rfl⟩ : ∃ j, n = j + 1 := ⟨n - 1, by omega⟩
  unfold S__law_has_not
  exact ⟨pr, rfl, h0, h⟩
def hasD : List (Option Key × PV) := [(some (.inr "and"), .lst [.int 1, .int 2]), (some (.inr "or"), .lst [.int 1, .int 2]), (some (.inr "is"), .lst [.int 2])]
theorem hasD_merge : pMerge [] hasD = hasD := by simp (decide := true) [hasD, pput]
theorem hasD_get (s : Str) : pval hasD (some (.inr s)) = if s = "and" then some (.lst [.int 1, .int 2]) else if s = "or" then some (.lst [.int 1, .int 2]) else if s = "is" then some (.lst [.int 2]) else none := by
  unfold pval hasD
  by_cases h2 : s = "and"
  · subst h2; simp (decide := true)
  · by_cases h3 : s = "or"
    · subst h3; simp (decide := true)
    · by_cases h4 : s = "is"
      · subst h4; simp (decide := true)
      · have e2 : ¬ ("and" : Str) = s := fun z => h2 z.symm
        have e3 : ¬ ("or" : Str) = s := fun z => h3 z.symm
        have e4 : ¬ ("is" : Str) = s := fun z => h4 z.symm
        simp [h2, h3, h4, e2, e3, e4]
theorem step__law_has_not {f : Addr} {fd : FuncData} (F : Fun K "_law_has_not" "_law_has_not" s__law_has_not f fd) (bn : BN mg)  (n : Nat) (d__law_has_not : CalM P w K mg base T (0 + n) "_law_has_not" 1 (S__law_has_not n)) :
    FnOk P w K mg base (L2N.CX P w) (0 + n + 1) f fd ["_law_p"] (spOf w K T 1 (S__law_has_not (n + 1))) := by
  have sc := sc__law_has_not
  refine fn_ok F sc fun cdv A outer s H H0 F0 m0 E hr => ⟨_, (jb_cons (js_disp 1 rfl sc.nd (jp_cons je_str (je_lst (ja_cons je_int (ja_cons je_int ja_nil))) (jp_cons je_str (je_lst (ja_cons je_int (ja_cons je_int ja_nil))) (jp_cons je_str (je_lst (ja_cons je_int ja_nil)) jp_nil))))
  (jb_one (js_ret (je_or (je_cmp (o_eq (rm_of hr)) (je_ix (je_var 0) je_int) je_str) (je_one (je_callB (c_any rfl) (bn _ (by decide)) (ja_cons (je_lc (own := [("_law_place", 2)]) rfl sc.nd (ji_list (je_dgetd 1 rfl (hu1 hr) (je_ix (je_var 0) je_int) (je_lst ja_nil))) (blkOk_by (show blkC ["_law_p", "_law_places", "_law_place"] (defScope s__law_has_not) _ [("_law_place", 2)] = true by decide +kernel)) (fun _ _ _ _ _ => (jg_name 2 sc.nd)) (fun _ _ _ _ _ => jts_nil) (fun _ _ _ _ _ => (je_call d__law_has_not (hr.mono (by omega)) (ja_cons (je_ix (je_var 0) (je_var 2)) ja_nil)))) ja_nil))))))), ?_⟩
  intro qs m Q R h hl; clear hl
  unfold S__law_has_not at h
  split at h
  · rename_i n' p heq
    cases heq
    obtain ⟨pr, rfl, hd, h⟩ := h
    refine ⟨Nat.le_of_ble_eq_true rfl, Nat.le_of_ble_eq_true rfl, Nat.le_of_ble_eq_true rfl, hasD, rfl, Nat.le_of_ble_eq_true rfl, ?_⟩
    rw [hasD_merge]
    cases pr with
    | cst t => rcases t with _ | _ | _ <;> simpa (decide := true) [prP, str_beq, truthS, hasD_get, compW, wipeP, hasNot, blsOf] using h
    | cmp o a b => simpa (decide := true) [prP, str_beq, hasD_get, compW, wipeP, hasNot, blsOf] using h
    | inn a l => simpa (decide := true) [prP, str_beq, hasD_get, compW, wipeP, hasNot, blsOf] using h
    | qnt al o a l => cases al <;> simpa (decide := true) [prP, str_beq, hasD_get, compW, wipeP, hasNot, blsOf] using h
    | nul a => simpa (decide := true) [prP, str_beq, hasD_get, compW, wipeP, hasNot, blsOf] using h
    | nott q => simpa (decide := true) [prP, str_beq, hasD_get, compW, wipeP, hasNot, blsOf] using h
    | iss t q =>
      simp only [Pr.depth] at hd
      simp (decide := true) [prP, str_beq, hasD_get, compW, wipeP, blsOf]
      refine S_has_mk (by omega) ?_
      simpa [hasNot, blsOf] using h
    | bin or a b =>
      simp only [Pr.depth] at hd
      cases or
      · simp (decide := true) [prP, str_beq, hasD_get, compW, wipeP, blsOf]
        refine S_has_mk (by omega) (S_has_mk (by omega) ?_)
        simpa [hasNot, blsOf] using h
      · simp (decide := true) [prP, str_beq, hasD_get, compW, wipeP, blsOf]
        refine S_has_mk (by omega) (S_has_mk (by omega) ?_)
        simpa [hasNot, blsOf] using h
  · exact h.elim
theorem ok__law_has_not {f : Addr} {fd : FuncData} (F : Fun K "_law_has_not" "_law_has_not" s__law_has_not f fd) (bn : BN mg)  (hm : mg "_law_has_not" = some (.ref f)) (hb : Binds K fd ["_law_p"] []) (N : Nat) :
    FnOk P w K mg base (L2N.CX P w) (0 + N) f fd ["_law_p"] (spOf w K T 1 (S__law_has_not N)) := ok_rec (S := fun n => (S__law_has_not n)) hm F.kp hb (fun ps m Q R h => by unfold S__law_has_not at h; exact h) (fun n d => step__law_has_not F bn  n d) N
end
end PL


namespace PL
open PySem PySem.Spec PyProof.Rows L2
section
variable {P : Program} {w : World} {K : PySem.W.Frag} {mg : Str → Option Value} {base : Heap} {T : List (Addr × Str)} {C_FilterError C_InvalidWidth C_InvalidPredicate : Addr}
abbrev s_law : Stmt := top 46
theorem sc_law : FnScope ["_law_script", "_law_dice", "_law_width", "_law_ints", "_law_p", "_law_made", "_law_values_here", "_law_rows_here", "_law_turn", "_law_column", "_law_row"] ["_law_script"] (defScope s_law) := ⟨rfl, rfl, rfl, by decide +kernel, rfl, by decide +kernel, by decide +kernel⟩
def S_law : SpP := fun ps m Q R => match ps with
  | [.scr ns] => ns.length ≤ 63 ∧ ∀ m', Q (.bl true) m'
  | _ => False
theorem ok_law {f : Addr} {fd : FuncData} (F : Fun K "law" "law" s_law f fd) (bn : BN mg) (d__law_rounds : CalM P w K mg base T 2 "_law_rounds" 2 S__law_rounds) (d_is_predicate : CalM P w K mg base T 11 "is_predicate" 2 (S_is_predicate C_InvalidWidth)) (d__law_any_ints : CalM P w K mg base T 3 "_law_any_ints" 1 S__law_any_ints) (d__law_any_predicate : CalM P w K mg base T 8 "_law_any_predicate" 5 (S__law_any_predicate 4)) (d_pushed : CalM P w K mg base T 23 "pushed" 2 S_pushed) (d__law_has_not : CalM P w K mg base T 20 "_law_has_not" 1 (S__law_has_not 20)) (d__law_values : CalM P w K mg base T 5 "_law_values" 1 S__law_values) (d__law_roll : CalM P w K mg base T 2 "_law_roll" 2 S__law_roll) (d__law_rows : CalM P w K mg base T 6 "_law_rows" 2 S__law_rows) (d__law_truth : CalM P w K mg base T 21 "_law_truth" 2 (S__law_truth 20)) :
    FnOk P w K mg base (L2N.CX P w) 45 f fd ["_law_script"] (spOf w K T 1 S_law) := by
  have sc := sc_law
  refine fn_ok F sc fun cdv A outer s H H0 F0 m0 E hr => ⟨_, (jb_cons (js_for passes_own rfl (ji_list (je_call d__law_rounds (hr.mono (by decide)) (ja_cons (je_var 0) (ja_cons je_int ja_nil)))) (jg_name 1 sc.nd) (jb_cons (js_par 2 3 rfl sc.nd (ja_cons (je_op o_add je_int (je_call d__law_roll (hr.mono (by decide)) (ja_cons (je_var 1) (ja_cons je_int ja_nil)))) (ja_cons (je_call d__law_any_ints (hr.mono (by decide)) (ja_cons (je_var 1) ja_nil)) ja_nil)))
  (jb_cons (js_set 4 sc.nd (je_tup (ja_cons je_str (ja_cons (je_call d__law_any_predicate (hr.mono (by decide)) (ja_cons (je_var 1) (ja_cons (je_var 2) (ja_cons (je_var 3) (ja_cons je_int (ja_cons je_bl ja_nil)))))) ja_nil))))
  (jb_consC (js_set 4 sc.nd (je_if (jt_cmp o_gt (je_call d__law_roll (hr.mono (by decide)) (ja_cons (je_var 1) (ja_cons je_int ja_nil))) je_int) (je_var 4) (je_tup (ja_cons je_str (ja_cons (je_var 4) (ja_cons (je_tup (ja_cons je_str (ja_cons (je_tup (ja_cons je_str (ja_cons je_str (ja_cons (je_ix (je_var 4) je_int) ja_nil)))) ja_nil))) ja_nil))))))
  (jb_one (js_if (jt_val (je_call d_is_predicate (hr.mono (by decide)) (ja_cons (je_var 2) (ja_cons (je_var 4) ja_nil)))) (jb_cons (js_set 5 sc.nd (je_call d_pushed (hr.mono (by decide)) (ja_cons (je_var 2) (ja_cons (je_var 4) ja_nil))))
  (jb_cons (js_if (jt_val (je_call d__law_has_not (hr.mono (by decide)) (ja_cons (je_var 5) ja_nil))) (jb_one (js_ret je_bl)) jb_nil)
  (jb_cons (js_set 6 sc.nd (je_call d__law_values (hr.mono (by decide)) (ja_cons (je_var 3) ja_nil)))
  (jb_consC (js_ownL 7 sc.nd (jn_if (jt_cmp o_lt (je_var 2) je_int) (jn_call (je_call d__law_rows (hr.mono (by decide)) (ja_cons (je_var 2) (ja_cons (je_var 3) ja_nil)))) (jn_lst ja_nil)))
  (jb_cons (js_for passes_own rfl (ji_rng1 (bn _ (by decide)) (ja_cons je_int ja_nil)) (jg_name 8 sc.nd) (jb_one (js_app 7 (je_callTy c_tuple (bn _ (by decide)) (ja_cons (je_lc (own := [("_law_column", 9)]) rfl sc.nd (ji_rng1 (bn _ (by decide)) (ja_cons (je_var 2) ja_nil)) (blkOk_by (show blkC ["_law_script", "_law_dice", "_law_width", "_law_ints", "_law_p", "_law_made", "_law_values_here", "_law_rows_here", "_law_turn", "_law_column", "_law_row"] (defScope s_law) _ [("_law_column", 9)] = true by decide +kernel)) (fun _ _ _ _ _ => (jg_name 9 sc.nd)) (fun _ _ _ _ _ => jts_nil) (fun _ _ _ _ _ => (je_ix (je_var 6) (je_call d__law_roll (hr.mono (by decide)) (ja_cons (je_var 1) (ja_cons (je_callB c_len (bn _ (by decide)) (ja_cons (je_var 6) ja_nil)) ja_nil)))))) ja_nil)))))
  (jb_frz 7 (jb_one (js_for passes_own rfl (ji_list (je_var 7)) (jg_name 10 sc.nd) (jb_one (js_if (jt_cmp (o_ne (rm_of hr)) (je_call d__law_truth (hr.mono (by decide)) (ja_cons (je_var 4) (ja_cons (je_var 10) ja_nil))) (je_call d__law_truth (hr.mono (by decide)) (ja_cons (je_var 5) (ja_cons (je_var 10) ja_nil)))) (jb_one (js_ret je_bl)) jb_nil)))))))))) jb_nil))))))
  (jb_one (js_ret je_bl))), ?_⟩
  intro qs m Q R h hl; clear hl
  unfold S_law at h
  split at h
  · rename_i ns
    obtain ⟨hn, hQ⟩ := h
    refine ⟨hn, by decide, by decide, fun as m1 hal has => ⟨by rw [List.length_map]; omega, ?_⟩⟩
    refine forW_inv (fun _ ρ m' => m1 = m' ∧ ∃ v1 v2 v3 v4 v5 v6 v7 v8 v9 v10, ρ = [some (.val (.scr ns)), v1, v2, v3, v4, v5, v6, v7, v8, v9, v10]) _ 0 _ _ ?_ ?_ ⟨rfl, _, _, _, _, _, _, _, _, _, _, rfl⟩
    · rintro j x ρ m' N hx ⟨rfl, v1, v2, v3, v4, v5, v6, v7, v8, v9, v10, rfl⟩ hN
      obtain ⟨a, ha, rfl⟩ := List.mem_map.mp (List.mem_of_getElem? hx)
      have hd := has a ha
      refine ⟨hd, by decide, by decide, fun r r0 r1 => ?_⟩
      refine ⟨hd, fun I hI => ?_⟩
      have hw : isWhole (.int (1 + r)) 1 3 = true := by simp only [isWhole, Bool.and_eq_true, decide_eq_true_eq]; omega
      refine S_anyp_mk (k := 2) (by decide) hd (by omega) (by omega) hI fun p hp => ?_
      dsimp only [wSeq, wNext, wIfS, wTst, wAnd, wOr, wNot, wCall, wCons, wNil, wOp, wVar, wC, wSet, wAsg, wRet, wFor, wIL, wIT, wIR1, wIR2, wIE, wLc, wYes, wTup, wLst, wPar, gT, gsCons, gsNil, gN, at', put, wTold, vals, startP, bTst, wAndV, wOrV, wNotV, wIf, wSl, wPart, wNoPart, wCB, wDGet, wDIn, wDNin, wDLst, wPut, wFrz, wOwnL, wApp, wipeP, wRaise, wDrop, wFun, wCallF, lamP, slP, wMove, wRetO, wCatN, wCallN, wIfN, wFrzQ, wLst', List.map, List.replicate, List.cons_append, List.nil_append]
      refine ⟨Nat.le_of_ble_eq_true rfl, ?_⟩
      refine seqC (fun ρ' m' => m1 = m' ∧ ∃ pr : Pr, ρ' = [some (.val (.scr ns)), some (.val (.raw (.ref a))), some (.val (.int (1 + r))), some (.val (.lst (I.map PV.int))), some (.val (prP pr)), v5, v6, v7, v8, v9, v10]) (fun N1 hN1 => ?_) ?_
      · refine ⟨hd, by decide, by decide, fun r2 s0 s1 => ?_⟩
        try dsimp only [wSeq, wNext, wIfS, wTst, wAnd, wOr, wNot, wCall, wCons, wNil, wOp, wVar, wC, wSet, wAsg, wRet, wFor, wIL, wIT, wIR1, wIR2, wIE, wLc, wYes, wTup, wLst, wPar, gT, gsCons, gsNil, gN, at', put, wTold, vals, startP, bTst, wAndV, wOrV, wNotV, wIf, wSl, wPart, wNoPart, wCB, wDGet, wDIn, wDNin, wDLst, wPut, wFrz, wOwnL, wApp, wipeP, wRaise, wDrop, wFun, wCallF, lamP, slP, wMove, wRetO, wCatN, wCallN, wIfN, wFrzQ, wLst', List.map, List.replicate, List.cons_append, List.nil_append, gTuple, gList, gLen, gCmpI, gSub, gAdd, gIx, gMod, List.length_map]
        cases hc : decide ((0 : Int) < r2) with
        | true => exact hN1 _ _ ⟨rfl, .nott p, rfl⟩
        | false =>
          dsimp only
          exact ⟨_, atI_1 _ _ _, Nat.le_of_ble_eq_true rfl, Nat.le_of_ble_eq_true rfl, Nat.le_of_ble_eq_true rfl, hN1 _ _ ⟨rfl, .bin true (.nott p) (.nott (.iss none p)), rfl⟩⟩
      · rintro _ _ ⟨rfl, pr, rfl⟩
        dsimp only [wSeq, wNext, wIfS, wTst, wAnd, wOr, wNot, wCall, wCons, wNil, wOp, wVar, wC, wSet, wAsg, wRet, wFor, wIL, wIT, wIR1, wIR2, wIE, wLc, wYes, wTup, wLst, wPar, gT, gsCons, gsNil, gN, at', put, wTold, vals, startP, bTst, wAndV, wOrV, wNotV, wIf, wSl, wPart, wNoPart, wCB, wDGet, wDIn, wDNin, wDLst, wPut, wFrz, wOwnL, wApp, wipeP, wRaise, wDrop, wFun, wCallF, lamP, slP, wMove, wRetO, wCatN, wCallN, wIfN, wFrzQ, wLst', List.map, List.replicate, List.cons_append, List.nil_append]
        refine is_pred_ok hw (okD_prP _) ?_
        rw [isPred_P]
        cases hg : pr.good (1 + r) with
        | false => exact hN _ _ ⟨rfl, _, _, _, _, _, _, _, _, _, _, rfl⟩
        | true =>
          have hok := (good_ok hg).1
          have hdp := (good_ok hg).2.1
          obtain ⟨nok, ndp⟩ := nw_ok pr false hok
          dsimp only [wSeq, wNext, wIfS, wTst, wAnd, wOr, wNot, wCall, wCons, wNil, wOp, wVar, wC, wSet, wAsg, wRet, wFor, wIL, wIT, wIR1, wIR2, wIE, wLc, wYes, wTup, wLst, wPar, gT, gsCons, gsNil, gN, at', put, wTold, vals, startP, bTst, wAndV, wOrV, wNotV, wIf, wSl, wPart, wNoPart, wCB, wDGet, wDIn, wDNin, wDLst, wPut, wFrz, wOwnL, wApp, wipeP, wRaise, wDrop, wFun, wCallF, lamP, slP, wMove, wRetO, wCatN, wCallN, wIfN, wFrzQ, wLst', List.map, List.replicate, List.cons_append, List.nil_append]
          refine ⟨pr, rfl, by omega, by omega, hg, ?_⟩
          refine S_has_mk (by omega) ?_
          rw [nw_not]
          dsimp only [wSeq, wNext, wIfS, wTst, wAnd, wOr, wNot, wCall, wCons, wNil, wOp, wVar, wC, wSet, wAsg, wRet, wFor, wIL, wIT, wIR1, wIR2, wIE, wLc, wYes, wTup, wLst, wPar, gT, gsCons, gsNil, gN, at', put, wTold, vals, startP, bTst, wAndV, wOrV, wNotV, wIf, wSl, wPart, wNoPart, wCB, wDGet, wDIn, wDNin, wDLst, wPut, wFrz, wOwnL, wApp, wipeP, wRaise, wDrop, wFun, wCallF, lamP, slP, wMove, wRetO, wCatN, wCallN, wIfN, wFrzQ, wLst', List.map, List.replicate, List.cons_append, List.nil_append]
          refine ⟨I, rfl, hI.len, ?_⟩
          refine seqC (fun ρ' m' => m1 = m' ∧ ∃ L : List Row, L.length ≤ 961 ∧ (∀ q ∈ L, (q.length : Int) = 1 + r) ∧ ρ' = [some (.val (.scr ns)), some (.val (.raw (.ref a))), some (.val (.int (1 + r))), some (.val (.lst (I.map PV.int))), some (.val (prP pr)), some (.val (prP (nw pr false))), some (.val (.lst ((lawVals I).map oP))), some (.own (.lst (L.map rowP))), v8, v9, v10]) (fun N2 hN2 => ?_) ?_
          · try dsimp only [wSeq, wNext, wIfS, wTst, wAnd, wOr, wNot, wCall, wCons, wNil, wOp, wVar, wC, wSet, wAsg, wRet, wFor, wIL, wIT, wIR1, wIR2, wIE, wLc, wYes, wTup, wLst, wPar, gT, gsCons, gsNil, gN, at', put, wTold, vals, startP, bTst, wAndV, wOrV, wNotV, wIf, wSl, wPart, wNoPart, wCB, wDGet, wDIn, wDNin, wDLst, wPut, wFrz, wOwnL, wApp, wipeP, wRaise, wDrop, wFun, wCallF, lamP, slP, wMove, wRetO, wCatN, wCallN, wIfN, wFrzQ, wLst', List.map, List.replicate, List.cons_append, List.nil_append, gTuple, gList, gLen, gCmpI, gSub, gAdd, gIx, gMod, List.length_map]
            cases hc : decide ((1 : Int) + r < 3) with
            | true =>
              have hc' : (1 : Int) + r < 3 := of_decide_eq_true hc
              dsimp only
              refine ⟨I, rfl, hI.len, by omega, by omega, fun b hb hLn => ⟨b, _, rfl, hb, mset_same _ _ _, ?_⟩⟩
              rw [mdel_mset hb]
              exact hN2 _ _ ⟨rfl, _, hLn, fun q hq => by rw [rowsL_len hq]; omega, rfl⟩
            | false =>
              dsimp only
              exact ⟨Nat.zero_le _, hN2 _ _ ⟨rfl, [], Nat.zero_le _, (fun q hq => nomatch hq), rfl⟩⟩
          · rintro _ _ ⟨rfl, L, hL, hLl, rfl⟩
            dsimp only [wSeq, wNext, wIfS, wTst, wAnd, wOr, wNot, wCall, wCons, wNil, wOp, wVar, wC, wSet, wAsg, wRet, wFor, wIL, wIT, wIR1, wIR2, wIE, wLc, wYes, wTup, wLst, wPar, gT, gsCons, gsNil, gN, at', put, wTold, vals, startP, bTst, wAndV, wOrV, wNotV, wIf, wSl, wPart, wNoPart, wCB, wDGet, wDIn, wDNin, wDLst, wPut, wFrz, wOwnL, wApp, wipeP, wRaise, wDrop, wFun, wCallF, lamP, slP, wMove, wRetO, wCatN, wCallN, wIfN, wFrzQ, wLst', List.map, List.replicate, List.cons_append, List.nil_append]
            have hvp := lawVals_pos I
            have hvl := lawVals_len hI.len
            refine ⟨by decide, forW_inv (fun j ρ' m' => m1 = m' ∧ ∃ (L : List Row) (v8 v10 : Option SV), L.length ≤ 961 + j ∧ (∀ q ∈ L, (q.length : Int) = 1 + r) ∧ ρ' = [some (.val (.scr ns)), some (.val (.raw (.ref a))), some (.val (.int (1 + r))), some (.val (.lst (I.map PV.int))), some (.val (prP pr)), some (.val (prP (nw pr false))), some (.val (.lst ((lawVals I).map oP))), some (.own (.lst (L.map rowP))), v8, v9, v10]) _ 0 _ _ ?_ ?_ ⟨rfl, L, _, _, by omega, hLl, rfl⟩⟩
            · rintro j2 x ρ' m' N3 hx ⟨rfl, L, v8, v10, hL, hLl, rfl⟩ hN3
              obtain ⟨rfl, hj⟩ := rng_get hx
              dsimp only [wSeq, wNext, wIfS, wTst, wAnd, wOr, wNot, wCall, wCons, wNil, wOp, wVar, wC, wSet, wAsg, wRet, wFor, wIL, wIT, wIR1, wIR2, wIE, wLc, wYes, wTup, wLst, wPar, gT, gsCons, gsNil, gN, at', put, wTold, vals, startP, bTst, wAndV, wOrV, wNotV, wIf, wSl, wPart, wNoPart, wCB, wDGet, wDIn, wDNin, wDLst, wPut, wFrz, wOwnL, wApp, wipeP, wRaise, wDrop, wFun, wCallF, lamP, slP, wMove, wRetO, wCatN, wCallN, wIfN, wFrzQ, wLst', List.map, List.replicate, List.cons_append, List.nil_append]
              refine ⟨by omega, compW_inv (fun k acc m2 => m1 = m2 ∧ ∃ q : Row, q.length = k ∧ acc = q.map oP) _ 0 [] m1 ?_ ?_ ⟨rfl, [], rfl, rfl⟩⟩
              · rintro k y acc m2 N5 hy ⟨rfl, q, hq, rfl⟩ hN5
                try dsimp only [wSeq, wNext, wIfS, wTst, wAnd, wOr, wNot, wCall, wCons, wNil, wOp, wVar, wC, wSet, wAsg, wRet, wFor, wIL, wIT, wIR1, wIR2, wIE, wLc, wYes, wTup, wLst, wPar, gT, gsCons, gsNil, gN, at', put, wTold, vals, startP, bTst, wAndV, wOrV, wNotV, wIf, wSl, wPart, wNoPart, wCB, wDGet, wDIn, wDNin, wDLst, wPut, wFrz, wOwnL, wApp, wipeP, wRaise, wDrop, wFun, wCallF, lamP, slP, wMove, wRetO, wCatN, wCallN, wIfN, wFrzQ, wLst', List.map, List.replicate, List.cons_append, List.nil_append, gTuple, gList, gLen, gCmpI, gSub, gAdd, gIx, gMod, List.length_map]
                have hll : ((lawVals I).map oP).length = (lawVals I).length := List.length_map _
                refine ⟨hd, by omega, by omega, fun z z0 z1 => ⟨oP ((lawVals I).getD z.toNat none), atI_row ⟨z0, by omega⟩, ?_⟩⟩
                have := hN5 (q.map oP ++ [oP ((lawVals I).getD z.toNat none)]) _ ⟨rfl, q ++ [(lawVals I).getD z.toNat none], by simp; omega, by simp⟩
                exact this
              · rintro acc m2 ⟨rfl, q, hq, rfl⟩
                rw [rngP_len] at hq
                dsimp only [gTuple]
                refine ⟨by rw [List.length_map]; omega, ?_⟩
                rw [show L.map rowP ++ [PV.tup (q.map oP)] = (L ++ [q]).map rowP by rw [List.map_append]; rfl]
                refine hN3 _ _ ⟨rfl, L ++ [q], _, _, by simp only [List.length_append, List.length_cons, List.length_nil]; omega, fun q' hq' => ?_, rfl⟩
                rcases List.mem_append.mp hq' with hq' | hq'
                · exact hLl q' hq'
                · rw [List.mem_singleton.mp hq']; omega
            · rintro ρ' m' ⟨rfl, L, v8, v10, hL, hLl, rfl⟩
              rw [rngP_len] at hL
              have hL' : L.length ≤ 1021 := by simpa using hL
              dsimp only [wSeq, wNext, wIfS, wTst, wAnd, wOr, wNot, wCall, wCons, wNil, wOp, wVar, wC, wSet, wAsg, wRet, wFor, wIL, wIT, wIR1, wIR2, wIE, wLc, wYes, wTup, wLst, wPar, gT, gsCons, gsNil, gN, at', put, wTold, vals, startP, bTst, wAndV, wOrV, wNotV, wIf, wSl, wPart, wNoPart, wCB, wDGet, wDIn, wDNin, wDLst, wPut, wFrz, wOwnL, wApp, wipeP, wRaise, wDrop, wFun, wCallF, lamP, slP, wMove, wRetO, wCatN, wCallN, wIfN, wFrzQ, wLst', List.map, List.replicate, List.cons_append, List.nil_append]
              refine ⟨by rw [List.length_map]; omega, forW_inv (fun _ ρ' m' => m1 = m' ∧ ∃ v10, ρ' = [some (.val (.scr ns)), some (.val (.raw (.ref a))), some (.val (.int (1 + r))), some (.val (.lst (I.map PV.int))), some (.val (prP pr)), some (.val (prP (nw pr false))), some (.val (.lst ((lawVals I).map oP))), some (.val (.lst (L.map rowP))), v8, v9, v10]) _ 0 _ _ ?_ ?_ ⟨rfl, _, rfl⟩⟩
              · rintro j3 x ρ' m' N4 hx ⟨rfl, v10, rfl⟩ hN4
                obtain ⟨q, hq, rfl⟩ := List.mem_map.mp (List.mem_of_getElem? hx)
                dsimp only [wSeq, wNext, wIfS, wTst, wAnd, wOr, wNot, wCall, wCons, wNil, wOp, wVar, wC, wSet, wAsg, wRet, wFor, wIL, wIT, wIR1, wIR2, wIE, wLc, wYes, wTup, wLst, wPar, gT, gsCons, gsNil, gN, at', put, wTold, vals, startP, bTst, wAndV, wOrV, wNotV, wIf, wSl, wPart, wNoPart, wCB, wDGet, wDIn, wDNin, wDLst, wPut, wFrz, wOwnL, wApp, wipeP, wRaise, wDrop, wFun, wCallF, lamP, slP, wMove, wRetO, wCatN, wCallN, wIfN, wFrzQ, wLst', List.map, List.replicate, List.cons_append, List.nil_append]
                refine S_ltruth_mk (by omega) (by rw [hLl q hq]; exact hok) (S_ltruth_mk (by omega) (by rw [hLl q hq]; exact nok) ?_)
                rw [nw_ev]
                refine ne_self (by simp) rfl (Nat.zero_le _) ?_
                exact hN4 _ _ ⟨rfl, _, rfl⟩
              · rintro ρ' m' ⟨rfl, v10, rfl⟩
                exact hN _ _ ⟨rfl, _, _, _, _, _, _, _, _, _, _, rfl⟩
    · rintro ρ m' ⟨rfl, v1, v2, v3, v4, v5, v6, v7, v8, v9, v10, rfl⟩
      exact hQ _
  · exact h.elim
end
end PL


namespace PL
open PySem PySem.Spec PyProof.Rows L2
/-! ### the end -/
def dd (i : Nat) (x : Str) : He.DefD := ⟨(x, none), x, x, defArgs (top i), defBody (top i), defScope (top i), [], []⟩
def hfn : List He.DefD := [dd 7 "is_whole", dd 8 "need_width", dd 9 "is_literal", dd 10 "is_operand", dd 11 "is_list", dd 12 "is_word", dd 13 "fits", dd 14 "places_of", dd 15 "parts_of", dd 16 "literals_of", dd 17 "integers_of", dd 18 "is_predicate", dd 19 "need_predicate", dd 30 "_law_cell", dd 31 "_law_drawn", dd 32 "_law_roll", dd 33 "_law_rounds", dd 34 "_law_any_ints", dd 35 "_law_any_operand", dd 36 "_law_any_list", dd 37 "_law_any_leaf", dd 38 "_law_any_predicate", dd 39 "_law_value", dd 40 "_law_level", dd 42 "_law_key", dd 43 "_law_values", dd 41 "_law_truth", dd 44 "_law_rows", dd 21 "flipped", dd 23 "joined", dd 25 "others_than", dd 24 "negated_list", dd 26 "negated", dd 27 "without_not", dd 28 "pushed", dd 45 "_law_has_not", dd 46 "law"]
def hfa0 : List He.Fa := [.glo "is_whole", .glo "need_width", .glo "is_literal", .glo "is_operand", .glo "is_list", .glo "is_word", .glo "fits", .glo "places_of", .glo "parts_of", .glo "literals_of", .glo "integers_of", .glo "is_predicate", .glo "need_predicate", .glo "_law_cell", .glo "_law_drawn", .glo "_law_roll", .glo "_law_rounds", .glo "_law_any_ints", .glo "_law_any_operand", .glo "_law_any_list", .glo "_law_any_leaf", .glo "_law_any_predicate", .glo "_law_value", .glo "_law_level", .glo "_law_key", .glo "_law_values", .glo "_law_truth", .glo "_law_rows", .glo "flipped", .glo "joined"]
def hfa1 : List He.Fa := [.glo "others_than", .glo "negated_list", .glo "negated", .glo "without_not", .glo "pushed", .glo "_law_has_not", .glo "law", .glo "InvalidWidth", .exc "InvalidWidth", .glo "InvalidPredicate", .exc "InvalidPredicate", .glo "TRUTHS", .glo "OPS", .free "isinstance", .free "int", .free "bool", .free "str", .free "tuple", .free "list", .free "len", .free "all", .free "any", .free "range", .free "max", .free "min", .free "sum", .free "sorted", .free "enumerate", .free "set", .free "reversed"]
def hfa2 : List He.Fa := [.free "ValueError"]
def hfa : List He.Fa := hfa0 ++ hfa1 ++ hfa2
def hts : List He.Tab := [((fun K => He.ga K "TRUTHS"), ["true", "false", "unknown"])]
def hmo (K : PySem.W.Frag) : Bool := true && gdB K "TRUTHS" truthsK && He.tupB K "OPS" (opNames.map He.Dv.str)
def hexT (K : PySem.W.Frag) : Bool := true
def hdis (K : PySem.W.Frag) : Bool := true
def hex (K : PySem.W.Frag) : Bool := (hmo K && hexT K) && hdis K
theorem start_law (ns : List Int) (hl : ns.length ≤ 63) (hb : ∀ z ∈ ns, Builtin.Int.intBits z ≤ 1048576) : S_law [.scr ns] (fun _ => none) (fun p _ => p = .bl true) (fun _ _ => False) := ⟨hl, fun _ => rfl⟩
theorem law_at {w : World} {K : PySem.W.Frag} {mg : Str → Option Value} {fa : Addr} {h : Heap} (X : K.In h) (G : h.Ns mainGlobals mg) (hfa0 : mg ("law" : Str) = some (.ref fa)) (c : He.SaysX hfa hfn hts [("_law_values", none)] hex w h K) :
    LamX.LawAtS PySem.Challenge.rw_nullfilters_k11_whole_pushed w K (L2N.CX (PySem.Challenge.rw_nullfilters_k11_whole_pushed).prog w) 45 63 "_law_script" mg fa h := by
  obtain ⟨fd_is_whole, FD_is_whole⟩ := c.t.d.def_ 0 (d := dd 7 "is_whole") rfl
  have F_is_whole : Fun K "is_whole" "is_whole" s_is_whole (He.fAd K ("is_whole", none)) fd_is_whole := fun_of FD_is_whole
  have gl_is_whole := He.glo_ok X G (c.t.d.fact 0 (f := .glo "is_whole") rfl)
  obtain ⟨fd_need_width, FD_need_width⟩ := c.t.d.def_ 1 (d := dd 8 "need_width") rfl
  have F_need_width : Fun K "need_width" "need_width" s_need_width (He.fAd K ("need_width", none)) fd_need_width := fun_of FD_need_width
  have gl_need_width := He.glo_ok X G (c.t.d.fact 1 (f := .glo "need_width") rfl)
  obtain ⟨fd_is_literal, FD_is_literal⟩ := c.t.d.def_ 2 (d := dd 9 "is_literal") rfl
  have F_is_literal : Fun K "is_literal" "is_literal" s_is_literal (He.fAd K ("is_literal", none)) fd_is_literal := fun_of FD_is_literal
  have gl_is_literal := He.glo_ok X G (c.t.d.fact 2 (f := .glo "is_literal") rfl)
  obtain ⟨fd_is_operand, FD_is_operand⟩ := c.t.d.def_ 3 (d := dd 10 "is_operand") rfl
  have F_is_operand : Fun K "is_operand" "is_operand" s_is_operand (He.fAd K ("is_operand", none)) fd_is_operand := fun_of FD_is_operand
  have gl_is_operand := He.glo_ok X G (c.t.d.fact 3 (f := .glo "is_operand") rfl)
  obtain ⟨fd_is_list, FD_is_list⟩ := c.t.d.def_ 4 (d := dd 11 "is_list") rfl
  have F_is_list : Fun K "is_list" "is_list" s_is_list (He.fAd K ("is_list", none)) fd_is_list := fun_of FD_is_list
  have gl_is_list := He.glo_ok X G (c.t.d.fact 4 (f := .glo "is_list") rfl)
  obtain ⟨fd_is_word, FD_is_word⟩ := c.t.d.def_ 5 (d := dd 12 "is_word") rfl
  have F_is_word : Fun K "is_word" "is_word" s_is_word (He.fAd K ("is_word", none)) fd_is_word := fun_of FD_is_word
  have gl_is_word := He.glo_ok X G (c.t.d.fact 5 (f := .glo "is_word") rfl)
  obtain ⟨fd_fits, FD_fits⟩ := c.t.d.def_ 6 (d := dd 13 "fits") rfl
  have F_fits : Fun K "fits" "fits" s_fits (He.fAd K ("fits", none)) fd_fits := fun_of FD_fits
  have gl_fits := He.glo_ok X G (c.t.d.fact 6 (f := .glo "fits") rfl)
  obtain ⟨fd_places_of, FD_places_of⟩ := c.t.d.def_ 7 (d := dd 14 "places_of") rfl
  have F_places_of : Fun K "places_of" "places_of" s_places_of (He.fAd K ("places_of", none)) fd_places_of := fun_of FD_places_of
  have gl_places_of := He.glo_ok X G (c.t.d.fact 7 (f := .glo "places_of") rfl)
  obtain ⟨fd_parts_of, FD_parts_of⟩ := c.t.d.def_ 8 (d := dd 15 "parts_of") rfl
  have F_parts_of : Fun K "parts_of" "parts_of" s_parts_of (He.fAd K ("parts_of", none)) fd_parts_of := fun_of FD_parts_of
  have gl_parts_of := He.glo_ok X G (c.t.d.fact 8 (f := .glo "parts_of") rfl)
  obtain ⟨fd_literals_of, FD_literals_of⟩ := c.t.d.def_ 9 (d := dd 16 "literals_of") rfl
  have F_literals_of : Fun K "literals_of" "literals_of" s_literals_of (He.fAd K ("literals_of", none)) fd_literals_of := fun_of FD_literals_of
  have gl_literals_of := He.glo_ok X G (c.t.d.fact 9 (f := .glo "literals_of") rfl)
  obtain ⟨fd_integers_of, FD_integers_of⟩ := c.t.d.def_ 10 (d := dd 17 "integers_of") rfl
  have F_integers_of : Fun K "integers_of" "integers_of" s_integers_of (He.fAd K ("integers_of", none)) fd_integers_of := fun_of FD_integers_of
  have gl_integers_of := He.glo_ok X G (c.t.d.fact 10 (f := .glo "integers_of") rfl)
  obtain ⟨fd_is_predicate, FD_is_predicate⟩ := c.t.d.def_ 11 (d := dd 18 "is_predicate") rfl
  have F_is_predicate : Fun K "is_predicate" "is_predicate" s_is_predicate (He.fAd K ("is_predicate", none)) fd_is_predicate := fun_of FD_is_predicate
  have gl_is_predicate := He.glo_ok X G (c.t.d.fact 11 (f := .glo "is_predicate") rfl)
  obtain ⟨fd_need_predicate, FD_need_predicate⟩ := c.t.d.def_ 12 (d := dd 19 "need_predicate") rfl
  have F_need_predicate : Fun K "need_predicate" "need_predicate" s_need_predicate (He.fAd K ("need_predicate", none)) fd_need_predicate := fun_of FD_need_predicate
  have gl_need_predicate := He.glo_ok X G (c.t.d.fact 12 (f := .glo "need_predicate") rfl)
  obtain ⟨fd__law_cell, FD__law_cell⟩ := c.t.d.def_ 13 (d := dd 30 "_law_cell") rfl
  have F__law_cell : Fun K "_law_cell" "_law_cell" s__law_cell (He.fAd K ("_law_cell", none)) fd__law_cell := fun_of FD__law_cell
  have gl__law_cell := He.glo_ok X G (c.t.d.fact 13 (f := .glo "_law_cell") rfl)
  obtain ⟨fd__law_drawn, FD__law_drawn⟩ := c.t.d.def_ 14 (d := dd 31 "_law_drawn") rfl
  have F__law_drawn : Fun K "_law_drawn" "_law_drawn" s__law_drawn (He.fAd K ("_law_drawn", none)) fd__law_drawn := fun_of FD__law_drawn
  have gl__law_drawn := He.glo_ok X G (c.t.d.fact 14 (f := .glo "_law_drawn") rfl)
  obtain ⟨fd__law_roll, FD__law_roll⟩ := c.t.d.def_ 15 (d := dd 32 "_law_roll") rfl
  have F__law_roll : Fun K "_law_roll" "_law_roll" s__law_roll (He.fAd K ("_law_roll", none)) fd__law_roll := fun_of FD__law_roll
  have gl__law_roll := He.glo_ok X G (c.t.d.fact 15 (f := .glo "_law_roll") rfl)
  obtain ⟨fd__law_rounds, FD__law_rounds⟩ := c.t.d.def_ 16 (d := dd 33 "_law_rounds") rfl
  have F__law_rounds : Fun K "_law_rounds" "_law_rounds" s__law_rounds (He.fAd K ("_law_rounds", none)) fd__law_rounds := fun_of FD__law_rounds
  have gl__law_rounds := He.glo_ok X G (c.t.d.fact 16 (f := .glo "_law_rounds") rfl)
  obtain ⟨fd__law_any_ints, FD__law_any_ints⟩ := c.t.d.def_ 17 (d := dd 34 "_law_any_ints") rfl
  have F__law_any_ints : Fun K "_law_any_ints" "_law_any_ints" s__law_any_ints (He.fAd K ("_law_any_ints", none)) fd__law_any_ints := fun_of FD__law_any_ints
  have gl__law_any_ints := He.glo_ok X G (c.t.d.fact 17 (f := .glo "_law_any_ints") rfl)
  obtain ⟨fd__law_any_operand, FD__law_any_operand⟩ := c.t.d.def_ 18 (d := dd 35 "_law_any_operand") rfl
  have F__law_any_operand : Fun K "_law_any_operand" "_law_any_operand" s__law_any_operand (He.fAd K ("_law_any_operand", none)) fd__law_any_operand := fun_of FD__law_any_operand
  have gl__law_any_operand := He.glo_ok X G (c.t.d.fact 18 (f := .glo "_law_any_operand") rfl)
  obtain ⟨fd__law_any_list, FD__law_any_list⟩ := c.t.d.def_ 19 (d := dd 36 "_law_any_list") rfl
  have F__law_any_list : Fun K "_law_any_list" "_law_any_list" s__law_any_list (He.fAd K ("_law_any_list", none)) fd__law_any_list := fun_of FD__law_any_list
  have gl__law_any_list := He.glo_ok X G (c.t.d.fact 19 (f := .glo "_law_any_list") rfl)
  obtain ⟨fd__law_any_leaf, FD__law_any_leaf⟩ := c.t.d.def_ 20 (d := dd 37 "_law_any_leaf") rfl
  have F__law_any_leaf : Fun K "_law_any_leaf" "_law_any_leaf" s__law_any_leaf (He.fAd K ("_law_any_leaf", none)) fd__law_any_leaf := fun_of FD__law_any_leaf
  have gl__law_any_leaf := He.glo_ok X G (c.t.d.fact 20 (f := .glo "_law_any_leaf") rfl)
  obtain ⟨fd__law_any_predicate, FD__law_any_predicate⟩ := c.t.d.def_ 21 (d := dd 38 "_law_any_predicate") rfl
  have F__law_any_predicate : Fun K "_law_any_predicate" "_law_any_predicate" s__law_any_predicate (He.fAd K ("_law_any_predicate", none)) fd__law_any_predicate := fun_of FD__law_any_predicate
  have gl__law_any_predicate := He.glo_ok X G (c.t.d.fact 21 (f := .glo "_law_any_predicate") rfl)
  obtain ⟨fd__law_value, FD__law_value⟩ := c.t.d.def_ 22 (d := dd 39 "_law_value") rfl
  have F__law_value : Fun K "_law_value" "_law_value" s__law_value (He.fAd K ("_law_value", none)) fd__law_value := fun_of FD__law_value
  have gl__law_value := He.glo_ok X G (c.t.d.fact 22 (f := .glo "_law_value") rfl)
  obtain ⟨fd__law_level, FD__law_level⟩ := c.t.d.def_ 23 (d := dd 40 "_law_level") rfl
  have F__law_level : Fun K "_law_level" "_law_level" s__law_level (He.fAd K ("_law_level", none)) fd__law_level := fun_of FD__law_level
  have gl__law_level := He.glo_ok X G (c.t.d.fact 23 (f := .glo "_law_level") rfl)
  obtain ⟨fd__law_key, FD__law_key⟩ := c.t.d.def_ 24 (d := dd 42 "_law_key") rfl
  have F__law_key : Fun K "_law_key" "_law_key" s__law_key (He.fAd K ("_law_key", none)) fd__law_key := fun_of FD__law_key
  have gl__law_key := He.glo_ok X G (c.t.d.fact 24 (f := .glo "_law_key") rfl)
  obtain ⟨fd__law_values, FD__law_values⟩ := c.t.d.def_ 25 (d := dd 43 "_law_values") rfl
  have F__law_values : Fun K "_law_values" "_law_values" s__law_values (He.fAd K ("_law_values", none)) fd__law_values := fun_of FD__law_values
  have gl__law_values := He.glo_ok X G (c.t.d.fact 25 (f := .glo "_law_values") rfl)
  obtain ⟨fd__law_truth, FD__law_truth⟩ := c.t.d.def_ 26 (d := dd 41 "_law_truth") rfl
  have F__law_truth : Fun K "_law_truth" "_law_truth" s__law_truth (He.fAd K ("_law_truth", none)) fd__law_truth := fun_of FD__law_truth
  have gl__law_truth := He.glo_ok X G (c.t.d.fact 26 (f := .glo "_law_truth") rfl)
  obtain ⟨fd__law_rows, FD__law_rows⟩ := c.t.d.def_ 27 (d := dd 44 "_law_rows") rfl
  have F__law_rows : Fun K "_law_rows" "_law_rows" s__law_rows (He.fAd K ("_law_rows", none)) fd__law_rows := fun_of FD__law_rows
  have gl__law_rows := He.glo_ok X G (c.t.d.fact 27 (f := .glo "_law_rows") rfl)
  obtain ⟨fd_flipped, FD_flipped⟩ := c.t.d.def_ 28 (d := dd 21 "flipped") rfl
  have F_flipped : Fun K "flipped" "flipped" s_flipped (He.fAd K ("flipped", none)) fd_flipped := fun_of FD_flipped
  have gl_flipped := He.glo_ok X G (c.t.d.fact 28 (f := .glo "flipped") rfl)
  obtain ⟨fd_joined, FD_joined⟩ := c.t.d.def_ 29 (d := dd 23 "joined") rfl
  have F_joined : Fun K "joined" "joined" s_joined (He.fAd K ("joined", none)) fd_joined := fun_of FD_joined
  have gl_joined := He.glo_ok X G (c.t.d.fact 29 (f := .glo "joined") rfl)
  obtain ⟨fd_others_than, FD_others_than⟩ := c.t.d.def_ 30 (d := dd 25 "others_than") rfl
  have F_others_than : Fun K "others_than" "others_than" s_others_than (He.fAd K ("others_than", none)) fd_others_than := fun_of FD_others_than
  have gl_others_than := He.glo_ok X G (c.t.d.fact 30 (f := .glo "others_than") rfl)
  obtain ⟨fd_negated_list, FD_negated_list⟩ := c.t.d.def_ 31 (d := dd 24 "negated_list") rfl
  have F_negated_list : Fun K "negated_list" "negated_list" s_negated_list (He.fAd K ("negated_list", none)) fd_negated_list := fun_of FD_negated_list
  have gl_negated_list := He.glo_ok X G (c.t.d.fact 31 (f := .glo "negated_list") rfl)
  obtain ⟨fd_negated, FD_negated⟩ := c.t.d.def_ 32 (d := dd 26 "negated") rfl
  have F_negated : Fun K "negated" "negated" s_negated (He.fAd K ("negated", none)) fd_negated := fun_of FD_negated
  have gl_negated := He.glo_ok X G (c.t.d.fact 32 (f := .glo "negated") rfl)
  obtain ⟨fd_without_not, FD_without_not⟩ := c.t.d.def_ 33 (d := dd 27 "without_not") rfl
  have F_without_not : Fun K "without_not" "without_not" s_without_not (He.fAd K ("without_not", none)) fd_without_not := fun_of FD_without_not
  have gl_without_not := He.glo_ok X G (c.t.d.fact 33 (f := .glo "without_not") rfl)
  obtain ⟨fd_pushed, FD_pushed⟩ := c.t.d.def_ 34 (d := dd 28 "pushed") rfl
  have F_pushed : Fun K "pushed" "pushed" s_pushed (He.fAd K ("pushed", none)) fd_pushed := fun_of FD_pushed
  have gl_pushed := He.glo_ok X G (c.t.d.fact 34 (f := .glo "pushed") rfl)
  obtain ⟨fd__law_has_not, FD__law_has_not⟩ := c.t.d.def_ 35 (d := dd 45 "_law_has_not") rfl
  have F__law_has_not : Fun K "_law_has_not" "_law_has_not" s__law_has_not (He.fAd K ("_law_has_not", none)) fd__law_has_not := fun_of FD__law_has_not
  have gl__law_has_not := He.glo_ok X G (c.t.d.fact 35 (f := .glo "_law_has_not") rfl)
  obtain ⟨fd_law, FD_law⟩ := c.t.d.def_ 36 (d := dd 46 "law") rfl
  have F_law : Fun K "law" "law" s_law (He.fAd K ("law", none)) fd_law := fun_of FD_law
  have gl_law := He.glo_ok X G (c.t.d.fact 36 (f := .glo "law") rfl)
  have ee := hfa0.symm.trans gl_law
  cases ee
  have g_InvalidWidth := He.glo_ok X G (c.t.d.fact 37 (f := .glo "InvalidWidth") rfl)
  have ec_InvalidWidth := He.exc_ok (c.t.d.fact 38 (f := .exc "InvalidWidth") rfl)
  have x_InvalidWidth : ExcP K mg "InvalidWidth" (He.ga K "InvalidWidth") := ⟨g_InvalidWidth, ec_InvalidWidth.1, ec_InvalidWidth.2.1, ec_InvalidWidth.2.2.1, ec_InvalidWidth.2.2.2⟩
  have g_InvalidPredicate := He.glo_ok X G (c.t.d.fact 39 (f := .glo "InvalidPredicate") rfl)
  have ec_InvalidPredicate := He.exc_ok (c.t.d.fact 40 (f := .exc "InvalidPredicate") rfl)
  have x_InvalidPredicate : ExcP K mg "InvalidPredicate" (He.ga K "InvalidPredicate") := ⟨g_InvalidPredicate, ec_InvalidPredicate.1, ec_InvalidPredicate.2.1, ec_InvalidPredicate.2.2.1, ec_InvalidPredicate.2.2.2⟩
  obtain ⟨hm00, hdis0⟩ := He.ba c.more
  obtain ⟨hm0, hx⟩ := He.ba hm00
  unfold hdis at hdis0
  unfold hmo at hm0
  obtain ⟨hm2, hq_OPS⟩ := He.ba hm0
  obtain ⟨hm1, hq_TRUTHS⟩ := He.ba hm2
  have gl_TRUTHS := He.glo_ok X G (c.t.d.fact 41 (f := .glo "TRUTHS") rfl)
  have g_TRUTHS : GDict w K mg "TRUTHS" truthsK := gdict_of gl_TRUTHS (c.t.tab 0) hq_TRUTHS
  have gl_OPS := He.glo_ok X G (c.t.d.fact 42 (f := .glo "OPS") rfl)
  have g_OPS : GVal K mg "OPS" (.tup (opNames.map PV.str)) := gval_strs opNames gl_OPS hq_OPS
  have bn : BN mg := by
    intro x hx
    simp only [List.mem_cons, List.not_mem_nil, or_false] at hx
    rcases hx with rfl | rfl | rfl | rfl | rfl | rfl | rfl | rfl | rfl | rfl | rfl | rfl | rfl | rfl | rfl | rfl | rfl | rfl
    · exact He.free_ok X G (c.t.d.fact 43 (f := .free "isinstance") rfl)
    · exact He.free_ok X G (c.t.d.fact 44 (f := .free "int") rfl)
    · exact He.free_ok X G (c.t.d.fact 45 (f := .free "bool") rfl)
    · exact He.free_ok X G (c.t.d.fact 46 (f := .free "str") rfl)
    · exact He.free_ok X G (c.t.d.fact 47 (f := .free "tuple") rfl)
    · exact He.free_ok X G (c.t.d.fact 48 (f := .free "list") rfl)
    · exact He.free_ok X G (c.t.d.fact 49 (f := .free "len") rfl)
    · exact He.free_ok X G (c.t.d.fact 50 (f := .free "all") rfl)
    · exact He.free_ok X G (c.t.d.fact 51 (f := .free "any") rfl)
    · exact He.free_ok X G (c.t.d.fact 52 (f := .free "range") rfl)
    · exact He.free_ok X G (c.t.d.fact 53 (f := .free "max") rfl)
    · exact He.free_ok X G (c.t.d.fact 54 (f := .free "min") rfl)
    · exact He.free_ok X G (c.t.d.fact 55 (f := .free "sum") rfl)
    · exact He.free_ok X G (c.t.d.fact 56 (f := .free "sorted") rfl)
    · exact He.free_ok X G (c.t.d.fact 57 (f := .free "enumerate") rfl)
    · exact He.free_ok X G (c.t.d.fact 58 (f := .free "set") rfl)
    · exact He.free_ok X G (c.t.d.fact 59 (f := .free "reversed") rfl)
    · exact He.free_ok X G (c.t.d.fact 60 (f := .free "ValueError") rfl)
  have hcode__law_values := code_of (p := ("_law_values", none)) F__law_values
  refine ⟨fd_law, [He.cT K ("_law_values", none)], spOf w K [((He.cT K ("_law_values", none)).2, lamQ__law_values)] 1 S_law, fun p hp => ?_, fun p hp => ?_, fun p hp => ?_, fun s u => (FD_law.bindsA (ps := ["_law_script"]) (fun _ _ _ _ _ _ us hl => match us, hl with | [_], _ => rfl) s [u] rfl), fun H a ns hl hb hT hS => ?_, fun base KB GB TB => ?_⟩
  · obtain rfl := List.mem_singleton.mp hp
    exact c.empty _ List.mem_cons_self
  · obtain rfl := List.mem_singleton.mp hp
    exact c.out _ List.mem_cons_self
  · obtain rfl := List.mem_singleton.mp hp
    exact PySem.W.codeHd_of_K X (c.hd _ List.mem_cons_self)
  · refine sp_start (fun p hp => ?_) hS (start_law ns hl hb)
    obtain rfl := List.mem_singleton.mp hp
    exact hT (He.cT K ("_law_values", none)) List.mem_cons_self
  have hmU__law_values : ∀ p ∈ ([((He.cT K ("_law_values", none)).2, lamQ__law_values)] : List (Addr × Str)), p.1 = (He.cT K ("_law_values", none)).2 → p.2 = lamQ__law_values := by
    intro p hp e
    obtain rfl := List.mem_singleton.mp hp
    rfl
  have d_is_whole : CalM (PySem.Challenge.rw_nullfilters_k11_whole_pushed).prog w K mg base [((He.cT K ("_law_values", none)).2, lamQ__law_values)] 1 "is_whole" 3 S_is_whole := cal_of (ok_is_whole F_is_whole bn ) gl_is_whole F_is_whole.kp (F_is_whole.binds fun _ _ _ _ _ _ us hl => match us, hl with | [_, _, _], _ => rfl)
  have d_need_width : CalM (PySem.Challenge.rw_nullfilters_k11_whole_pushed).prog w K mg base [((He.cT K ("_law_values", none)).2, lamQ__law_values)] 2 "need_width" 1 (S_need_width (He.ga K "InvalidWidth")) := cal_of (ok_need_width F_need_width bn d_is_whole x_InvalidWidth) gl_need_width F_need_width.kp (F_need_width.binds fun _ _ _ _ _ _ us hl => match us, hl with | [_], _ => rfl)
  have d_is_literal : CalM (PySem.Challenge.rw_nullfilters_k11_whole_pushed).prog w K mg base [((He.cT K ("_law_values", none)).2, lamQ__law_values)] 2 "is_literal" 1 S_is_literal := cal_of (ok_is_literal F_is_literal bn d_is_whole) gl_is_literal F_is_literal.kp (F_is_literal.binds fun _ _ _ _ _ _ us hl => match us, hl with | [_], _ => rfl)
  have d_is_operand : CalM (PySem.Challenge.rw_nullfilters_k11_whole_pushed).prog w K mg base [((He.cT K ("_law_values", none)).2, lamQ__law_values)] 3 "is_operand" 2 S_is_operand := cal_of (ok_is_operand F_is_operand bn d_is_whole d_is_literal) gl_is_operand F_is_operand.kp (F_is_operand.binds fun _ _ _ _ _ _ us hl => match us, hl with | [_, _], _ => rfl)
  have d_is_list : CalM (PySem.Challenge.rw_nullfilters_k11_whole_pushed).prog w K mg base [((He.cT K ("_law_values", none)).2, lamQ__law_values)] 3 "is_list" 1 S_is_list := cal_of (ok_is_list F_is_list bn d_is_literal) gl_is_list F_is_list.kp (F_is_list.binds fun _ _ _ _ _ _ us hl => match us, hl with | [_], _ => rfl)
  have d_is_word : CalM (PySem.Challenge.rw_nullfilters_k11_whole_pushed).prog w K mg base [((He.cT K ("_law_values", none)).2, lamQ__law_values)] 1 "is_word" 2 S_is_word := cal_of (ok_is_word F_is_word bn ) gl_is_word F_is_word.kp (F_is_word.binds fun _ _ _ _ _ _ us hl => match us, hl with | [_, _], _ => rfl)
  have d_fits : CalM (PySem.Challenge.rw_nullfilters_k11_whole_pushed).prog w K mg base [((He.cT K ("_law_values", none)).2, lamQ__law_values)] 10 "fits" 3 (S_fits 7) := cal_of (ok_fits F_fits bn d_is_word d_is_operand d_is_list g_OPS g_TRUTHS gl_fits (F_fits.binds fun _ _ _ _ _ _ us hl => match us, hl with | [_, _, _], _ => rfl) 7) gl_fits F_fits.kp (F_fits.binds fun _ _ _ _ _ _ us hl => match us, hl with | [_, _, _], _ => rfl)
  have d_places_of : CalM (PySem.Challenge.rw_nullfilters_k11_whole_pushed).prog w K mg base [((He.cT K ("_law_values", none)).2, lamQ__law_values)] 1 "places_of" 1 S_places_of := cal_of (ok_places_of F_places_of bn ) gl_places_of F_places_of.kp (F_places_of.binds fun _ _ _ _ _ _ us hl => match us, hl with | [_], _ => rfl)
  have d_parts_of : CalM (PySem.Challenge.rw_nullfilters_k11_whole_pushed).prog w K mg base [((He.cT K ("_law_values", none)).2, lamQ__law_values)] 7 "parts_of" 1 (S_parts_of 6) := cal_of (ok_parts_of F_parts_of bn d_places_of gl_parts_of (F_parts_of.binds fun _ _ _ _ _ _ us hl => match us, hl with | [_], _ => rfl) 6) gl_parts_of F_parts_of.kp (F_parts_of.binds fun _ _ _ _ _ _ us hl => match us, hl with | [_], _ => rfl)
  have d_literals_of : CalM (PySem.Challenge.rw_nullfilters_k11_whole_pushed).prog w K mg base [((He.cT K ("_law_values", none)).2, lamQ__law_values)] 1 "literals_of" 1 S_literals_of := cal_of (ok_literals_of F_literals_of bn ) gl_literals_of F_literals_of.kp (F_literals_of.binds fun _ _ _ _ _ _ us hl => match us, hl with | [_], _ => rfl)
  have d_integers_of : CalM (PySem.Challenge.rw_nullfilters_k11_whole_pushed).prog w K mg base [((He.cT K ("_law_values", none)).2, lamQ__law_values)] 8 "integers_of" 1 S_integers_of := cal_of (ok_integers_of F_integers_of bn d_parts_of d_literals_of) gl_integers_of F_integers_of.kp (F_integers_of.binds fun _ _ _ _ _ _ us hl => match us, hl with | [_], _ => rfl)
  have d_is_predicate : CalM (PySem.Challenge.rw_nullfilters_k11_whole_pushed).prog w K mg base [((He.cT K ("_law_values", none)).2, lamQ__law_values)] 11 "is_predicate" 2 (S_is_predicate (He.ga K "InvalidWidth")) := cal_of (ok_is_predicate F_is_predicate bn d_need_width d_fits d_parts_of d_integers_of) gl_is_predicate F_is_predicate.kp (F_is_predicate.binds fun _ _ _ _ _ _ us hl => match us, hl with | [_, _], _ => rfl)
  have d_need_predicate : CalM (PySem.Challenge.rw_nullfilters_k11_whole_pushed).prog w K mg base [((He.cT K ("_law_values", none)).2, lamQ__law_values)] 12 "need_predicate" 2 (S_need_predicate (He.ga K "InvalidWidth") (He.ga K "InvalidPredicate")) := cal_of (ok_need_predicate F_need_predicate bn d_is_predicate x_InvalidPredicate) gl_need_predicate F_need_predicate.kp (F_need_predicate.binds fun _ _ _ _ _ _ us hl => match us, hl with | [_, _], _ => rfl)
  have d__law_cell : CalM (PySem.Challenge.rw_nullfilters_k11_whole_pushed).prog w K mg base [((He.cT K ("_law_values", none)).2, lamQ__law_values)] 1 "_law_cell" 2 S__law_cell := cal_of (ok__law_cell F__law_cell bn ) gl__law_cell F__law_cell.kp (F__law_cell.binds fun _ _ _ _ _ _ us hl => match us, hl with | [_, _], _ => rfl)
  have d__law_drawn : CalM (PySem.Challenge.rw_nullfilters_k11_whole_pushed).prog w K mg base [((He.cT K ("_law_values", none)).2, lamQ__law_values)] 1 "_law_drawn" 2 S__law_drawn := cal_of (ok__law_drawn F__law_drawn bn ) gl__law_drawn F__law_drawn.kp (F__law_drawn.binds fun _ _ _ _ _ _ us hl => match us, hl with | [_, _], _ => rfl)
  have d__law_roll : CalM (PySem.Challenge.rw_nullfilters_k11_whole_pushed).prog w K mg base [((He.cT K ("_law_values", none)).2, lamQ__law_values)] 2 "_law_roll" 2 S__law_roll := cal_of (ok__law_roll F__law_roll bn d__law_drawn) gl__law_roll F__law_roll.kp (F__law_roll.binds fun _ _ _ _ _ _ us hl => match us, hl with | [_, _], _ => rfl)
  have d__law_rounds : CalM (PySem.Challenge.rw_nullfilters_k11_whole_pushed).prog w K mg base [((He.cT K ("_law_values", none)).2, lamQ__law_values)] 2 "_law_rounds" 2 S__law_rounds := cal_of (ok__law_rounds F__law_rounds bn d__law_cell) gl__law_rounds F__law_rounds.kp (F__law_rounds.binds fun _ _ _ _ _ _ us hl => match us, hl with | [_, _], _ => rfl)
  have d__law_any_ints : CalM (PySem.Challenge.rw_nullfilters_k11_whole_pushed).prog w K mg base [((He.cT K ("_law_values", none)).2, lamQ__law_values)] 3 "_law_any_ints" 1 S__law_any_ints := cal_of (ok__law_any_ints F__law_any_ints bn d__law_roll) gl__law_any_ints F__law_any_ints.kp (F__law_any_ints.binds fun _ _ _ _ _ _ us hl => match us, hl with | [_], _ => rfl)
  have d__law_any_operand : CalM (PySem.Challenge.rw_nullfilters_k11_whole_pushed).prog w K mg base [((He.cT K ("_law_values", none)).2, lamQ__law_values)] 3 "_law_any_operand" 3 S__law_any_operand := cal_of (ok__law_any_operand F__law_any_operand bn d__law_roll) gl__law_any_operand F__law_any_operand.kp (F__law_any_operand.binds fun _ _ _ _ _ _ us hl => match us, hl with | [_, _, _], _ => rfl)
  have d__law_any_list : CalM (PySem.Challenge.rw_nullfilters_k11_whole_pushed).prog w K mg base [((He.cT K ("_law_values", none)).2, lamQ__law_values)] 3 "_law_any_list" 2 S__law_any_list := cal_of (ok__law_any_list F__law_any_list bn d__law_roll) gl__law_any_list F__law_any_list.kp (F__law_any_list.binds fun _ _ _ _ _ _ us hl => match us, hl with | [_, _], _ => rfl)
  have d__law_any_leaf : CalM (PySem.Challenge.rw_nullfilters_k11_whole_pushed).prog w K mg base [((He.cT K ("_law_values", none)).2, lamQ__law_values)] 4 "_law_any_leaf" 4 S__law_any_leaf := cal_of (ok__law_any_leaf F__law_any_leaf bn d__law_any_list d__law_roll d__law_any_operand) gl__law_any_leaf F__law_any_leaf.kp (F__law_any_leaf.binds fun _ _ _ _ _ _ us hl => match us, hl with | [_, _, _, _], _ => rfl)
  have d__law_any_predicate : CalM (PySem.Challenge.rw_nullfilters_k11_whole_pushed).prog w K mg base [((He.cT K ("_law_values", none)).2, lamQ__law_values)] 8 "_law_any_predicate" 5 (S__law_any_predicate 4) := cal_of (ok__law_any_predicate F__law_any_predicate bn d__law_roll d__law_any_leaf gl__law_any_predicate (F__law_any_predicate.binds fun _ _ _ _ _ _ us hl => match us, hl with | [_, _, _, _, _], _ => rfl) 4) gl__law_any_predicate F__law_any_predicate.kp (F__law_any_predicate.binds fun _ _ _ _ _ _ us hl => match us, hl with | [_, _, _, _, _], _ => rfl)
  have d__law_value : CalM (PySem.Challenge.rw_nullfilters_k11_whole_pushed).prog w K mg base [((He.cT K ("_law_values", none)).2, lamQ__law_values)] 1 "_law_value" 2 S__law_value := cal_of (ok__law_value F__law_value bn ) gl__law_value F__law_value.kp (F__law_value.binds fun _ _ _ _ _ _ us hl => match us, hl with | [_, _], _ => rfl)
  have d__law_level : CalM (PySem.Challenge.rw_nullfilters_k11_whole_pushed).prog w K mg base [((He.cT K ("_law_values", none)).2, lamQ__law_values)] 1 "_law_level" 3 S__law_level := cal_of (ok__law_level F__law_level bn ) gl__law_level F__law_level.kp (F__law_level.binds fun _ _ _ _ _ _ us hl => match us, hl with | [_, _, _], _ => rfl)
  have d__law_key : CalM (PySem.Challenge.rw_nullfilters_k11_whole_pushed).prog w K mg base [((He.cT K ("_law_values", none)).2, lamQ__law_values)] 1 "_law_key" 1 S__law_key := cal_of (ok__law_key F__law_key bn ) gl__law_key F__law_key.kp (F__law_key.binds fun _ _ _ _ _ _ us hl => match us, hl with | [_], _ => rfl)
  have d__law_values : CalM (PySem.Challenge.rw_nullfilters_k11_whole_pushed).prog w K mg base [((He.cT K ("_law_values", none)).2, lamQ__law_values)] 5 "_law_values" 1 S__law_values := cal_of (ok__law_values F__law_values bn d__law_key (TB (He.cT K ("_law_values", none)) List.mem_cons_self) hcode__law_values List.mem_cons_self hmU__law_values) gl__law_values F__law_values.kp (F__law_values.binds fun _ _ _ _ _ _ us hl => match us, hl with | [_], _ => rfl)
  have d__law_truth : CalM (PySem.Challenge.rw_nullfilters_k11_whole_pushed).prog w K mg base [((He.cT K ("_law_values", none)).2, lamQ__law_values)] 21 "_law_truth" 2 (S__law_truth 20) := cal_of (ok__law_truth F__law_truth bn d__law_level d__law_value gl__law_truth (F__law_truth.binds fun _ _ _ _ _ _ us hl => match us, hl with | [_, _], _ => rfl) 20) gl__law_truth F__law_truth.kp (F__law_truth.binds fun _ _ _ _ _ _ us hl => match us, hl with | [_, _], _ => rfl)
  have d__law_rows : CalM (PySem.Challenge.rw_nullfilters_k11_whole_pushed).prog w K mg base [((He.cT K ("_law_values", none)).2, lamQ__law_values)] 6 "_law_rows" 2 S__law_rows := cal_of (ok__law_rows F__law_rows bn d__law_values) gl__law_rows F__law_rows.kp (F__law_rows.binds fun _ _ _ _ _ _ us hl => match us, hl with | [_, _], _ => rfl)
  have d_flipped : CalM (PySem.Challenge.rw_nullfilters_k11_whole_pushed).prog w K mg base [((He.cT K ("_law_values", none)).2, lamQ__law_values)] 1 "flipped" 1 S_flipped := cal_of (ok_flipped F_flipped bn ) gl_flipped F_flipped.kp (F_flipped.binds fun _ _ _ _ _ _ us hl => match us, hl with | [_], _ => rfl)
  have d_joined : CalM (PySem.Challenge.rw_nullfilters_k11_whole_pushed).prog w K mg base [((He.cT K ("_law_values", none)).2, lamQ__law_values)] 1 "joined" 2 S_joined := cal_of (ok_joined F_joined bn ) gl_joined F_joined.kp (F_joined.binds fun _ _ _ _ _ _ us hl => match us, hl with | [_, _], _ => rfl)
  have d_others_than : CalM (PySem.Challenge.rw_nullfilters_k11_whole_pushed).prog w K mg base [((He.cT K ("_law_values", none)).2, lamQ__law_values)] 1 "others_than" 1 S_others_than := cal_of (ok_others_than F_others_than bn ) gl_others_than F_others_than.kp (F_others_than.binds fun _ _ _ _ _ _ us hl => match us, hl with | [_], _ => rfl)
  have d_negated_list : CalM (PySem.Challenge.rw_nullfilters_k11_whole_pushed).prog w K mg base [((He.cT K ("_law_values", none)).2, lamQ__law_values)] 2 "negated_list" 1 S_negated_list := cal_of (ok_negated_list F_negated_list bn d_joined d_flipped) gl_negated_list F_negated_list.kp (F_negated_list.binds fun _ _ _ _ _ _ us hl => match us, hl with | [_], _ => rfl)
  have mu := mut_negated (P := (PySem.Challenge.rw_nullfilters_k11_whole_pushed).prog) (w := w) (base := base) (T := [((He.cT K ("_law_values", none)).2, lamQ__law_values)]) F_negated F_without_not bn d_flipped d_joined d_negated_list d_others_than gl_negated gl_without_not (F_negated.binds fun _ _ _ _ _ _ us hl => match us, hl with | [_], _ => rfl) (F_without_not.binds fun _ _ _ _ _ _ us hl => match us, hl with | [_], _ => rfl) 20
  have d_without_not : CalM (PySem.Challenge.rw_nullfilters_k11_whole_pushed).prog w K mg base [((He.cT K ("_law_values", none)).2, lamQ__law_values)] 22 "without_not" 1 (S_without_not 20) := cal_of mu.2 gl_without_not F_without_not.kp (F_without_not.binds fun _ _ _ _ _ _ us hl => match us, hl with | [_], _ => rfl)
  have d_pushed : CalM (PySem.Challenge.rw_nullfilters_k11_whole_pushed).prog w K mg base [((He.cT K ("_law_values", none)).2, lamQ__law_values)] 23 "pushed" 2 S_pushed := cal_of (ok_pushed F_pushed bn d_need_predicate d_without_not) gl_pushed F_pushed.kp (F_pushed.binds fun _ _ _ _ _ _ us hl => match us, hl with | [_, _], _ => rfl)
  have d__law_has_not : CalM (PySem.Challenge.rw_nullfilters_k11_whole_pushed).prog w K mg base [((He.cT K ("_law_values", none)).2, lamQ__law_values)] 20 "_law_has_not" 1 (S__law_has_not 20) := cal_of (ok__law_has_not F__law_has_not bn  gl__law_has_not (F__law_has_not.binds fun _ _ _ _ _ _ us hl => match us, hl with | [_], _ => rfl) 20) gl__law_has_not F__law_has_not.kp (F__law_has_not.binds fun _ _ _ _ _ _ us hl => match us, hl with | [_], _ => rfl)
  exact ok_law F_law bn d__law_rounds d_is_predicate d__law_any_ints d__law_any_predicate d_pushed d__law_has_not d__law_values d__law_roll d__law_rows d__law_truth
/-! ### the head -/
def hob (s : PySem.W.SharedT) : He.AlX := He.obsX 3 hfa hfn hts [("_law_values", none)] hex (HandSHeadRun.getT s)
abbrev hhk : PySem.W.Hook := He.hookX 3 hfa hfn hts [("_law_values", none)] hex
theorem hob_eq (s : PySem.W.SharedT) : hob s = hhk.obs s.abs := He.obsX_eq (HandSHeadRun.getT_eq s)
abbrev R0 : PySem.W.OpenRow := PySem.W.OpenLaw.row PySem.Challenge.rw_nullfilters_k11_whole_pushed
def loose0 : List Str := ["__name__", "FilterError", "InvalidWidth", "InvalidPredicate", "OPS", "TRUTHS", "is_whole", "need_width", "is_literal", "is_operand", "is_list", "is_word"]
def loose1 : List Str := ["fits", "places_of", "parts_of", "literals_of", "integers_of", "is_predicate", "need_predicate", "flipped", "joined", "negated_list", "others_than", "negated"]
def loose2 : List Str := ["without_not", "pushed", "_law_cell", "_law_drawn", "_law_roll", "_law_rounds", "_law_any_ints", "_law_any_operand", "_law_any_list", "_law_any_leaf", "_law_any_predicate", "_law_value"]
def loose3 : List Str := ["_law_level", "_law_truth", "_law_key", "_law_values", "_law_rows", "_law_has_not"]
def loose : List Str := loose0 ++ loose1 ++ loose2 ++ loose3
abbrev qv : Program := PySem.W.view R0.prog [46]
theorem hrun_false (w : World) : HandSHeadRun.RunEq R0 qv hhk hob 12000 loose (w.withFollow "special-get-raises" false) := by
  intro os
  kernel_rfl
theorem hrun_true (w : World) : HandSHeadRun.RunEq R0 qv hhk hob 12000 loose (w.withFollow "special-get-raises" true) := by
  intro os
  kernel_rfl
theorem hrun (w : World) : HandSHeadRun.RunEq R0 qv hhk hob 12000 loose w := PySem.W.byRow2 "special-get-raises" (P := fun w => HandSHeadRun.RunEq R0 qv hhk hob 12000 loose w) hrun_false hrun_true w
end PL
open PySem PySem.W PySem.Calls PyProof.Rows
theorem PySem.Challenge.cw_nullfilters_k11_whole_pushed_holds : PySem.Challenge.rw_nullfilters_k11_whole_pushed.Holds := by
  w_on; o_law
  refine HandSHeadRun.head_any (r := OpenLaw.row PySem.Challenge.rw_nullfilters_k11_whole_pushed) (q := PL.qv) (H := PL.hhk) (ob := PL.hob) (M := 12000) (loose := PL.loose) (d := HandSHeadRun.topDef (OpenLaw.row PySem.Challenge.rw_nullfilters_k11_whole_pushed).prog 46) (kwd := []) PL.hob_eq
    (by kernel_rfl) (fun s => by kernel_rfl) PL.hrun (by kernel_rfl) (by kernel_rfl) (by kernel_rfl) (by rfl) (by first | assumption | decide +kernel) (by decide +kernel) ⟨rfl, rfl, rfl, rfl, rfl, by decide +kernel⟩ ?hw ?hc
  case hw => w_witness2
  case hc =>
    refine LamX.walk_ofTsE (l := PySem.Challenge.rw_nullfilters_k11_whole_pushed) (n := 63) (k := 45) (x := "_law_script") (CX := fun w => L2N.CX (PySem.Challenge.rw_nullfilters_k11_whole_pushed).prog w) rfl (by decide) (by kernel_rfl) ⟨rfl, by decide, by decide⟩ ?F (fun w H s e s' z => PL.cxF z)
    intro w mg fa h Y G hmg0
    obtain ⟨K, KX, c⟩ := Y
    have hmg : mg ("law" : PySem.Str) = some (.ref fa) := by
      have e : (HandSHeadRun.topDef (OpenLaw.row PySem.Challenge.rw_nullfilters_k11_whole_pushed).prog 46).name = ("law" : PySem.Str) := by kernel_rfl
      rw [← e]
      exact hmg0
    exact ⟨K, KX, PL.law_at KX G hmg c⟩


