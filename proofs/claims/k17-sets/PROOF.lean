import PyProof.Rows.All
import Wide.All
import OpenK.AllK
import Wide.FinOn
import HandS.ForMost
import HandS.Exc
import HandS.ExcCtx
import HandS.ExcOwn
import HandS.TryOnly
import HandS.CallSlots
import HandS.Lambda
import KE.KDictKeyed
import HandS.NoneIn
import HandS.SetBool
import HandS.TupAny
import HandS.TupMul
import HandS.Deep
import HandS.IsInst
import HandS.Wide
import HandS.Flow
import HandS.WordsExc
import HandS.Conv
import HandS.Dict
import KE.KItem
import HandS.Hot
import HandS.HotCalls
import HandS.ExcIs
import PyProof.SumWalkG
import PyProof.Walks
import KE.KStateDown
import HandS.Defaults
import HandS.Head0
import HandS.Head1
import HandS.Head2
import HandS.HeadEnd
import HandS.HeadWalk
import HandS.HeadHook1
import HandS.HeadHook2
import HandS.HeadHook3
import HandS.HeadHook4
import HandS.EndTab
import PySem.Challenge.RW_nullfilters_k17_whole_sets
set_option Elab.async false
set_option linter.all false
set_option maxRecDepth 100000
set_option maxHeartbeats 0
/-! The pure layer: values as trees, predicate transformers over pure environments, lifted from the hand layer's rules. -/
namespace PL
open PySem PySem.Spec PyProof.Rows L2

/-- a value as a tree; raw: anything else -/
inductive PV where
  | non | bl (b : Bool) | int (i : Int) | str (x : Str) | tup (xs : List PV) | lst (xs : List PV) | scr (ns : List Int) | raw (v : V)

mutual
inductive Rep (K : PySem.W.Frag) (F : Hp) : V → PV → Prop
  | non : Rep K F .non .non
  | bl (b : Bool) : Rep K F (.bl b) (.bl b)
  | int (i : Int) : Rep K F (.int i) (.int i)
  | str (x : Str) : Rep K F (.str x) (.str x)
  | tup {a : Addr} {xs : List V} {ps : List PV} : SqT K F a xs → RepAll K F xs ps → Rep K F (.ref a) (.tup ps)
  | lst {a : Addr} {xs : List V} {ps : List PV} : F a = some (.lst xs) → RepAll K F xs ps → Rep K F (.ref a) (.lst ps)
  | scr {a : Addr} {ns : List Int} : SqL K F a (ns.map V.int) → Rep K F (.ref a) (.scr ns)
  | raw (v : V) : Rep K F v (.raw v)
inductive RepAll (K : PySem.W.Frag) (F : Hp) : List V → List PV → Prop
  | nil : RepAll K F [] []
  | cons {v : V} {vs : List V} {p : PV} {ps : List PV} : Rep K F v p → RepAll K F vs ps → RepAll K F (v :: vs) (p :: ps)
end

theorem same_t {K : PySem.W.Frag} {H H' : Hp} {a : Addr} {xs : List V} (e : Same H H') (h : SqT K H a xs) : SqT K H' a xs := by
  rcases h with (h | ⟨o, h⟩) | h
  · exact .inl (.inl (e _ _ h))
  · exact .inl (.inr ⟨o, e _ _ h⟩)
  · exact .inr h
mutual
theorem Rep.mono {K : PySem.W.Frag} {F F' : Hp} (e : Same F F') : ∀ {v : V} {p : PV}, Rep K F v p → Rep K F' v p
  | _, _, .non => .non
  | _, _, .bl b => .bl b
  | _, _, .int i => .int i
  | _, _, .str x => .str x
  | _, _, .tup h r => .tup (same_t e h) (RepAll.mono e r)
  | _, _, .lst h r => .lst (e _ _ h) (RepAll.mono e r)
  | _, _, .scr h => .scr (e.seq h)
  | _, _, .raw v => .raw v
theorem RepAll.mono {K : PySem.W.Frag} {F F' : Hp} (e : Same F F') : ∀ {vs : List V} {ps : List PV}, RepAll K F vs ps → RepAll K F' vs ps
  | _, _, .nil => .nil
  | _, _, .cons r t => .cons (Rep.mono e r) (RepAll.mono e t)
end
theorem RepAll.length {K : PySem.W.Frag} {F : Hp} : ∀ {vs : List V} {ps : List PV}, RepAll K F vs ps → vs.length = ps.length
  | _, _, .nil => rfl
  | _, _, .cons _ t => by simp [RepAll.length t]
theorem RepAll.get {K : PySem.W.Frag} {F : Hp} : ∀ {vs : List V} {ps : List PV} {i : Nat} {p : PV}, RepAll K F vs ps → ps[i]? = some p → ∃ v, vs[i]? = some v ∧ Rep K F v p
  | _, _, _, _, .nil, e => by simp at e
  | _, _, 0, p, .cons r _, e => by simp at e; subst e; exact ⟨_, rfl, r⟩
  | _, _, i + 1, p, .cons _ t, e => by
    obtain ⟨v, h1, h2⟩ := RepAll.get (i := i) (p := p) t (by simpa using e)
    exact ⟨v, by simpa using h1, h2⟩
theorem RepAll.get' {K : PySem.W.Frag} {F : Hp} : ∀ {vs : List V} {ps : List PV} {i : Nat} {v : V}, RepAll K F vs ps → vs[i]? = some v → ∃ p, ps[i]? = some p ∧ Rep K F v p
  | _, _, _, _, .nil, e => by simp at e
  | _, _, 0, p, .cons r _, e => by simp at e; subst e; exact ⟨_, rfl, r⟩
  | _, _, i + 1, p, .cons _ t, e => by
    obtain ⟨v, h1, h2⟩ := RepAll.get' (i := i) t (by simpa using e)
    exact ⟨v, by simpa using h1, h2⟩
theorem RepAll.append {K : PySem.W.Frag} {F : Hp} : ∀ {vs us : List V} {ps qs : List PV}, RepAll K F vs ps → RepAll K F us qs → RepAll K F (vs ++ us) (ps ++ qs)
  | _, _, _, _, .nil, h => h
  | _, _, _, _, .cons r t, h => .cons r (RepAll.append t h)
theorem RepAll.take {K : PySem.W.Frag} {F : Hp} : ∀ {vs : List V} {ps : List PV} (n : Nat), RepAll K F vs ps → RepAll K F (vs.take n) (ps.take n)
  | _, _, 0, _ => .nil
  | _, _, _ + 1, .nil => .nil
  | _, _, n + 1, .cons r t => .cons r (RepAll.take n t)
theorem RepAll.drop {K : PySem.W.Frag} {F : Hp} : ∀ {vs : List V} {ps : List PV} (n : Nat), RepAll K F vs ps → RepAll K F (vs.drop n) (ps.drop n)
  | _, _, 0, r => r
  | _, _, _ + 1, .nil => .nil
  | _, _, n + 1, .cons _ t => RepAll.drop n t

/-! ### keys, owned and shared objects -/
/-- True, False and None as keys -/
def bnIs : Option Bool → Value → Bool
  | none, .none => true
  | some k, .bool b => b == k
  | _, _ => false
def bnV : Option Bool → Value
  | none => .none
  | some b => .bool b
theorem bn_shape {k : Option Bool} {v : Value} (h : bnIs k v = true) : v = bnV k := by
  cases k with
  | none => cases v <;> first | rfl | exact absurd h Bool.false_ne_true
  | some k => cases v <;> first | (have := eq_of_beq (show (_ == k) = true from h); subst this; rfl) | exact absurd h Bool.false_ne_true
def bnKind (prog : Program) (w : World) : PySem.KeyKind prog w (Option Bool) where
  is := bnIs
  hash := fun k => match k with
    | none => reduceHash 0xFCA86420
    | some b => PpSet.hB b
  inj := fun v a b ha hb => by
    have e1 := bn_shape ha
    have e2 := bn_shape hb
    have e3 := e1.symm.trans e2
    cases a <;> cases b <;> simp_all [bnV]
  byValue := fun k v h => by rw [bn_shape h]; cases k <;> rfl
  pyHash := fun {A E s k v Q} hv h => by
    rw [bn_shape hv]
    cases k with
    | none => exact (noneKind prog w).pyHash (k := none) rfl h
    | some b => exact PpSet.pyHash_bool h
  eqBool := fun {A E s a b u v Q} hu hv h => by
    rw [bn_shape hu, bn_shape hv]
    cases a with
    | none =>
      cases b with
      | none => exact SeqAt.EqAt.same _ _ _ _ _ (by simpa using h)
      | some c => exact SeqAt.EqAt.none_bool c _ _ _ _ (by simpa using h)
    | some c =>
      cases b with
      | none => exact SeqAt.EqAt.bool_none c _ _ _ _ (by simpa using h)
      | some d => exact SeqAt.EqAt.bool_bool c d _ _ _ _ (by rw [PpSet.beq_dec]; simpa using h)
  «strs» := fun k x t v h => by cases k <;> exact absurd h Bool.false_ne_true

/-- what a local name holds alone: a list; a dict by None, ints and texts; by True, False, None; by tuples of None, ints, texts -/
inductive OO where
  | lst (xs : List PV)
  | dct (kvs : List (Option Key × PV))
  | dcb (kvs : List (Option Bool × PV))
  | dcT (kvs : List (List (Option Key) × PV))
/-- what may be held by several: a dice (two ints), an instance -/
inductive MO where
  | dice
  | ins (C : Addr) (fs : List (Str × PV))
inductive SV where
  | val (p : PV)
  | own (o : OO)
abbrev PEnv := List (Option SV)
abbrev Mem := Addr → Option MO

def dictO (P : Program) (w : World) (a : Addr) (vs : List (Option Key × Value)) : HO := .ext fun h => h.DictOf (noneKind P w) a vs
def dictB (P : Program) (w : World) (a : Addr) (vs : List (Option Bool × Value)) : HO := .ext fun h => h.DictOf (bnKind P w) a vs
/-- a dict by tuples, its entries as they stand -/
def dictT (P : Program) (w : World) (a : Addr) (xs : List (List (Option Key) × Addr × Value)) : HO := .ext fun h =>
  ∃ o es ep, h.get? a = some o ∧ o.ExactDict ∧ o.data = .dict es ep ∧ es.toList = xs.map (entryOfKey (tupleKind (noneKind P w))) ∧ (xs.map (·.1)).Nodup
def DPair {κ : Type} (K : PySem.W.Frag) (F : Hp) : List (κ × PV) → List (κ × Value) → Prop := Paired fun p q => p.1 = q.1 ∧ ∃ v, RelV v q.2 ∧ Rep K F v p.2
def nkV : Option Key → V
  | none => .non
  | some k => kV k
def DPairT (K : PySem.W.Frag) (F : Hp) : List (List (Option Key) × PV) → List (List (Option Key) × Addr × Value) → Prop := Paired fun p q => p.1 = q.1 ∧ SqT K F q.2.1 (p.1.map nkV) ∧ ∃ v, RelV v q.2.2 ∧ Rep K F v p.2
def RepO (P : Program) (w : World) (K : PySem.W.Frag) (F H : Hp) (a : Addr) : OO → Prop
  | .lst xs => ∃ vs, H a = some (.lst vs) ∧ RepAll K F vs xs
  | .dct kvs => ∃ vs, H a = some (dictO P w a vs) ∧ (a == sysModules) = false ∧ kvs.length ≤ 1000000 ∧ DPair K F kvs vs
  | .dcb kvs => ∃ vs, H a = some (dictB P w a vs) ∧ (a == sysModules) = false ∧ kvs.length ≤ 1000000 ∧ DPair K F kvs vs
  | .dcT kvs => ∃ xs, H a = some (dictT P w a xs) ∧ (a == sysModules) = false ∧ kvs.length ≤ 1000000 ∧ DPairT K F kvs xs
def RepF (K : PySem.W.Frag) (F : Hp) : List (Str × V) → List (Str × PV) → Prop
  | [], [] => True
  | x :: xs, y :: ys => x.1 = y.1 ∧ Rep K F x.2 y.2 ∧ RepF K F xs ys
  | _, _ => False
def RepC (K : PySem.W.Frag) (F H : Hp) (a : Addr) : MO → Prop
  | .dice => ∃ i j : Int, H a = some (.lst [.int i, .int j])
  | .ins C fs => ∃ dx fv, H a = some (.ins C dx fv) ∧ H dx = some (.own a) ∧ F dx = none ∧ RepF K F fv fs

/-- the base of a frame: what stood at its entry, and the tables of code objects -/
structure Bs where
  P : Program
  F : Hp
  H : Hp
  m : Mem
  T : List (Addr × Str)
abbrev noTbl (o : HO) : Prop := ∀ ps, o ≠ .tbl ps
/-- from one state to a later one -/
structure Ext (F H : Hp) (m : Mem) (F' H' : Hp) (m' : Mem) : Prop where
  fz : Same F F'
  kp : ∀ a o, H a = some o → noTbl o → m a = none → H' a = some o
  ff : ∀ a u, H a = some u → noTbl u → F a = none → F' a = none
  mf : ∀ a u, H a = some u → noTbl u → m a = none → m' a = none
  st : ∀ a u, H a = some u → noTbl u → ∃ u', H' a = some u' ∧ noTbl u'
/-- nothing but a table -/
abbrev NoB (H : Hp) (a : Addr) : Prop := ∀ u, H a = some u → ¬ noTbl u
theorem Ext.refl (F H : Hp) (m : Mem) : Ext F H m F H m := ⟨Same.refl F, fun _ _ h _ _ => h, fun _ _ _ _ h => h, fun _ _ _ _ h => h, fun _ u h n => ⟨u, h, n⟩⟩
theorem Ext.trans {F H F1 H1 F2 H2 : Hp} {m m1 m2 : Mem} (a : Ext F H m F1 H1 m1) (b : Ext F1 H1 m1 F2 H2 m2) : Ext F H m F2 H2 m2 :=
  ⟨a.fz.trans b.fz, fun x o h n e => b.kp x o (a.kp x o h n e) n (a.mf x o h n e), fun x u h n e => let ⟨u', h', n'⟩ := a.st x u h n; b.ff x u' h' n' (a.ff x u h n e), fun x u h n e => let ⟨u', h', n'⟩ := a.st x u h n; b.mf x u' h' n' (a.mf x u h n e),
    fun x u h n => let ⟨u', h', n'⟩ := a.st x u h n; b.st x u' h' n'⟩
theorem Ext.free {F H F1 H1 : Hp} {m m1 : Mem} (a : Ext F H m F1 H1 m1) {x : Addr} (h : H1 x = none) : NoB H x := fun u e n => by
  obtain ⟨u', h', _⟩ := a.st x u e n
  rw [h] at h'; cases h'

/-- the state, as pure things -/
structure PSt (w : World) (K : PySem.W.Frag) (B : Bs) (F : Hp) (σ : L2.St) (H : Hp) (ρ : PEnv) (m : Mem) : Prop where
  len : ρ.length = σ.length
  sub : Same F H
  nt : ∀ a o, F a = some o → noTbl o
  val : ∀ (i : Nat) (p : PV), ρ[i]? = some (some (.val p)) → ∃ v, σ[i]? = some (some v) ∧ Rep K F v p
  own : ∀ (i : Nat) (o : OO), ρ[i]? = some (some (.own o)) → ∃ a, σ[i]? = some (some (.ref a)) ∧ F a = none ∧ m a = none ∧ NoB B.H a ∧ RepO B.P w K F H a o
  apart : ∀ (i j : Nat) (o o' : OO) (a : Addr), i ≠ j → ρ[i]? = some (some (.own o)) → ρ[j]? = some (some (.own o')) → σ[i]? = some (some (.ref a)) → σ[j]? ≠ some (some (.ref a))
  mem : ∀ a c, m a = some c → F a = none ∧ RepC K F H a c
  ext : Ext B.F B.H B.m F H m
  tab : LamX.Tabs B.T H

theorem DPair.mono {κ : Type} {K : PySem.W.Frag} {F F' : Hp} (e : Same F F') {xs : List (κ × PV)} {ys : List (κ × Value)} (r : DPair K F xs ys) : DPair K F' xs ys := Paired.mapP r fun p q ⟨h1, v, h2, h3⟩ => ⟨h1, v, h2, h3.mono e⟩
theorem DPairT.mono {K : PySem.W.Frag} {F F' : Hp} (e : Same F F') {xs ys} (r : DPairT K F xs ys) : DPairT K F' xs ys := Paired.mapP r fun p q ⟨h1, h0, v, h2, h3⟩ => ⟨h1, same_t e h0, v, h2, h3.mono e⟩
theorem RepO.at {P : Program} {w : World} {K : PySem.W.Frag} {F H : Hp} {a : Addr} {o : OO} (x : RepO P w K F H a o) : ∃ u, H a = some u ∧ noTbl u ∧ ∀ b, u ≠ .own b := by
  cases o with
  | lst xs => obtain ⟨vs, h1, r⟩ := x; exact ⟨_, h1, (fun ps z => nomatch z), fun b z => nomatch z⟩
  | dct kvs => obtain ⟨vs, h1, r⟩ := x; exact ⟨_, h1, (fun ps z => by unfold dictO at z; cases z), fun b z => by unfold dictO at z; cases z⟩
  | dcb kvs => obtain ⟨vs, h1, r⟩ := x; exact ⟨_, h1, (fun ps z => by unfold dictB at z; cases z), fun b z => by unfold dictB at z; cases z⟩
  | dcT kvs => obtain ⟨vs, h1, r⟩ := x; exact ⟨_, h1, (fun ps z => by unfold dictT at z; cases z), fun b z => by unfold dictT at z; cases z⟩
theorem RepO.keep {P : Program} {w : World} {K : PySem.W.Frag} {F F' H H' : Hp} {a : Addr} {o : OO} (x : RepO P w K F H a o) (e : Same F F') (h : ∀ u, H a = some u → noTbl u → H' a = some u) : RepO P w K F' H' a o := by
  obtain ⟨u, hu, nt, _⟩ := x.at
  have hu' := h u hu nt
  cases o with
  | lst xs => obtain ⟨vs, h1, r⟩ := x; rw [hu] at h1; cases h1; exact ⟨vs, hu', r.mono e⟩
  | dct kvs => obtain ⟨vs, h1, h2, h3, r⟩ := x; rw [hu] at h1; cases h1; exact ⟨vs, hu', h2, h3, r.mono e⟩
  | dcb kvs => obtain ⟨vs, h1, h2, h3, r⟩ := x; rw [hu] at h1; cases h1; exact ⟨vs, hu', h2, h3, r.mono e⟩
  | dcT kvs => obtain ⟨vs, h1, h2, h3, r⟩ := x; rw [hu] at h1; cases h1; exact ⟨vs, hu', h2, h3, r.mono e⟩
theorem RepF.mono {K : PySem.W.Frag} {F F' : Hp} (e : Same F F') : ∀ {xs : List (Str × V)} {ys : List (Str × PV)}, RepF K F xs ys → RepF K F' xs ys
  | [], [], _ => trivial
  | _ :: _, _ :: _, ⟨h1, h2, h3⟩ => ⟨h1, h2.mono e, RepF.mono e h3⟩
  | [], _ :: _, h => h
  | _ :: _, [], h => h

/-! ### the judgements -/
abbrev KV' := PV → Mem → Prop
abbrev KX := Addr → Mem → Prop
abbrev DE := PEnv → Mem → KV' → KX → Prop
abbrev DT := PEnv → Mem → (Bool → Mem → Prop) → KX → Prop
abbrev DA := PEnv → Mem → (List PV → Mem → Prop) → KX → Prop
abbrev PX := PEnv → Addr → Mem → Prop
structure PEnds where
  nx : PEnv → Mem → Prop
  rt : KV'
  ex : PX
  bk : PEnv → Mem → Prop := fun _ _ => False
  ct : PEnv → Mem → Prop := fun _ _ => False
abbrev DS := PEnv → Mem → PEnds → Prop

/-- the wish of an exception, told by R -/
def WR (X : Cx) (B : Bs) (R : PX) : WX := fun cls d σ H => ∃ F ρ m C, cls = .ref C ∧ d = none ∧ PSt X.w X.K B F σ H ρ m ∧ R ρ C m

def EPP (X : Cx) (B : Bs) (pins : List (Addr × Obj)) (σ : L2.St) (ρ : PEnv) (F H : Hp) (m : Mem) (Q : KV') (u : Value) (s' : Shared) : Prop :=
  ∃ v p F' H' m', Inv X pins σ H' s' ∧ PSt X.w X.K B F' σ H' ρ m' ∧ Ext F H m F' H' m' ∧ RelV v u ∧ Rep X.K F' v p ∧ Q p m'
structure JE (X : Cx) (B : Bs) (e : Expr) (t : DE) : Prop where
  run : ∀ (R : PX), L2N.Takes X (WR X B R) → ∀ (pins : List (Addr × Obj)) (s : Shared) (σ : L2.St) (F H : Hp) (ρ : PEnv) (m : Mem) (Q : KV'), Inv X pins σ H s → PSt X.w X.K B F σ H ρ m → t ρ m Q (R ρ) →
    wpAny (model X.prog X.w) X.A (eval e X.env) (EPP X B pins σ ρ F H m Q) X.xe s
structure JT (X : Cx) (B : Bs) (e : Expr) (t : DT) : Prop where
  run : ∀ (R : PX), L2N.Takes X (WR X B R) → ∀ (pins : List (Addr × Obj)) (s : Shared) (σ : L2.St) (F H : Hp) (ρ : PEnv) (m : Mem) (Q : Bool → Mem → Prop), Inv X pins σ H s → PSt X.w X.K B F σ H ρ m → t ρ m Q (R ρ) →
    wpAny (model X.prog X.w) X.A (isTrue e X.env (eval e X.env)) (fun b s' => ∃ F' H' m', Inv X pins σ H' s' ∧ PSt X.w X.K B F' σ H' ρ m' ∧ Ext F H m F' H' m' ∧ Q b m') X.xe s

/-- as a reading of the hand layer -/
def tE (X : Cx) (B : Bs) (R : PX) (t : DE) : TE := fun σ H Q => ∃ F ρ m Qp, PSt X.w X.K B F σ H ρ m ∧ t ρ m Qp (R ρ) ∧
  ∀ v p F' H' m', PSt X.w X.K B F' σ H' ρ m' → Ext F H m F' H' m' → Rep X.K F' v p → Qp p m' → Q v H'
def tT (X : Cx) (B : Bs) (R : PX) (t : DT) : TT := fun σ H Q => ∃ F ρ m Qp, PSt X.w X.K B F σ H ρ m ∧ t ρ m Qp (R ρ) ∧
  ∀ b F' H' m', PSt X.w X.K B F' σ H' ρ m' → Ext F H m F' H' m' → Qp b m' → Q b H'
section
variable {X : Cx} {B : Bs} {e : Expr}
theorem JE.pe {t : DE} (h : JE X B e t) {R : PX} (tk : L2N.Takes X (WR X B R)) : PE X e (tE X B R t) := by
  refine ⟨fun pins s σ H Q I ⟨F, ρ, m, Qp, st, ht, k⟩ => ?_⟩
  exact thn (h.run R tk pins s σ F H ρ m Qp I st ht) fun u s' ⟨v, p, F', H', m', I', st', ex, r, rp, q⟩ => ⟨v, H', I', r, k v p F' H' m' st' ex rp q⟩
theorem JT.pt {t : DT} (h : JT X B e t) {R : PX} (tk : L2N.Takes X (WR X B R)) : PT X e (tT X B R t) := by
  refine ⟨fun pins s σ H Q I ⟨F, ρ, m, Qp, st, ht, k⟩ => ?_⟩
  exact thn (h.run R tk pins s σ F H ρ m Qp I st ht) fun b s' ⟨F', H', m', I', st', ex, q⟩ => ⟨H', I', k b F' H' m' st' ex q⟩
/-- from a hand layer's rule -/
theorem JE.of {t : DE} (h : ∀ R, L2N.Takes X (WR X B R) → ∃ te, PE X e te ∧ ∀ F σ H ρ m Q, PSt X.w X.K B F σ H ρ m → t ρ m Q (R ρ) →
    te σ H fun v H' => ∃ p F' m', PSt X.w X.K B F' σ H' ρ m' ∧ Ext F H m F' H' m' ∧ Rep X.K F' v p ∧ Q p m') : JE X B e t := by
  refine ⟨fun R tk pins s σ F H ρ m Q I st ht => ?_⟩
  obtain ⟨te, hp, hk⟩ := h R tk
  exact thn (hp.run pins s σ H _ I (hk F σ H ρ m Q st ht)) fun u s' ⟨v, H', I', r, p, F', m', st', ex, rp, q⟩ => ⟨v, p, F', H', m', I', st', ex, r, rp, q⟩
theorem JT.of {t : DT} (h : ∀ R, L2N.Takes X (WR X B R) → ∃ te, PT X e te ∧ ∀ F σ H ρ m Q, PSt X.w X.K B F σ H ρ m → t ρ m Q (R ρ) →
    te σ H fun b H' => ∃ F' m', PSt X.w X.K B F' σ H' ρ m' ∧ Ext F H m F' H' m' ∧ Q b m') : JT X B e t := by
  refine ⟨fun R tk pins s σ F H ρ m Q I st ht => ?_⟩
  obtain ⟨te, hp, hk⟩ := h R tk
  exact thn (hp.run pins s σ H _ I (hk F σ H ρ m Q st ht)) fun b s' ⟨H', I', F', m', st', ex, q⟩ => ⟨F', H', m', I', st', ex, q⟩
end
end PL


namespace PL
open PySem PySem.Spec PyProof.Rows L2

/-! ### slots -/
@[simp] def at' : PEnv → Nat → Option SV
  | [], _ => none
  | x :: _, 0 => x
  | _ :: r, n + 1 => at' r n
@[simp] def put : PEnv → Nat → Option SV → PEnv
  | [], _, _ => []
  | _ :: r, 0, v => v :: r
  | x :: r, n + 1, v => x :: put r n v
theorem at_get : ∀ {ρ : PEnv} {i : Nat} {v : SV}, at' ρ i = some v → ρ[i]? = some (some v)
  | [], _, _, h => nomatch h
  | x :: r, 0, v, h => by simp only [at'] at h; simp [h]
  | x :: r, n + 1, v, h => by simpa using at_get (ρ := r) (i := n) (v := v) h
theorem get_at : ∀ {ρ : PEnv} {i : Nat} {v : SV}, ρ[i]? = some (some v) → at' ρ i = some v
  | [], _, _, h => by simp at h
  | x :: r, 0, v, h => by simpa [at'] using h
  | x :: r, n + 1, v, h => by simpa [at'] using get_at (ρ := r) (i := n) (v := v) (by simpa using h)
theorem put_set : ∀ (ρ : PEnv) (i : Nat) (v : Option SV), put ρ i v = ρ.set i v
  | [], _, _ => rfl
  | _ :: _, 0, _ => rfl
  | _ :: r, n + 1, v => by simp [put, put_set r n v]
theorem put_len (ρ : PEnv) (i : Nat) (v : Option SV) : (put ρ i v).length = ρ.length := by rw [put_set, List.length_set]

section
variable {w : World} {K : PySem.W.Frag} {B : Bs} {F H : Hp} {σ : L2.St} {ρ : PEnv} {m : Mem}
theorem Ext.new {p : Addr} {o : HO} (hs : Same F H) (h : H p = none) : Ext F H m (upd F p o) (upd H p o) m := by
  have hF : F p = none := hs.free h
  exact ⟨fun a u e => by rw [upd_ne (ne_of_none e hF)]; exact e, fun a u e _ _ => by rw [upd_ne (ne_of_none e h)]; exact e, fun a u hu _ e => by rw [upd_ne (ne_of_none hu h)]; exact e, fun _ _ _ _ e => e, fun a u hu n => ⟨u, by rw [upd_ne (ne_of_none hu h)]; exact hu, n⟩⟩
/-- a tracked object that is not frozen -/
theorem Ext.newH {p : Addr} {o : HO} (hs : Same F H) (h : H p = none) : Ext F H m F (upd H p o) m := by
  exact ⟨Same.refl F, fun a u e _ _ => by rw [upd_ne (ne_of_none e h)]; exact e, fun _ _ _ _ e => e, fun _ _ _ _ e => e, fun a u hu n => ⟨u, by rw [upd_ne (ne_of_none hu h)]; exact hu, n⟩⟩
theorem RepC.keep {F' H' : Hp} {a : Addr} {c : MO} (x : RepC K F H a c) (e : Same F F') (h : ∀ b u, H b = some u → noTbl u → H' b = some u) (hf : ∀ b y, F b = none → H b = some (.own y) → F' b = none) : RepC K F' H' a c := by
  cases c with
  | dice => obtain ⟨i, j, e1⟩ := x; exact ⟨i, j, h _ _ e1 (fun ps z => nomatch z)⟩
  | ins C fs =>
    obtain ⟨dx, fv, e1, e0, e2, e3⟩ := x
    exact ⟨dx, fv, h _ _ e1 (fun ps z => nomatch z), h _ _ e0 (fun ps z => nomatch z), hf _ _ e2 e0, e3.mono e⟩
/-- a step that leaves the frame's own things alone -/
theorem PSt.step {F' H' : Hp} {m' : Mem} (st : PSt w K B F σ H ρ m) (sub : Same F' H') (nt : ∀ a o, F' a = some o → noTbl o) (ex : Ext F H m F' H' m') (mem : ∀ a c, m' a = some c → F' a = none ∧ RepC K F' H' a c) (tab : LamX.Tabs B.T H') : PSt w K B F' σ H' ρ m' := by
  refine ⟨st.len, sub, nt, fun i p h => ?_, fun i o h => ?_, st.apart, mem, st.ext.trans ex, tab⟩
  · obtain ⟨v, h1, h2⟩ := st.val i p h
    exact ⟨v, h1, h2.mono ex.fz⟩
  · obtain ⟨a, h1, h2, h3, h4, h5⟩ := st.own i o h
    obtain ⟨u, hu, n, _⟩ := RepO.at h5
    exact ⟨a, h1, ex.ff a u hu n h2, ex.mf a u hu n h3, h4, h5.keep ex.fz fun u hu n => ex.kp a u hu n h3⟩
theorem mem_new {p : Addr} {o : HO} (st : PSt w K B F σ H ρ m) (h : H p = none) : ∀ a c, m a = some c → (upd F p o) a = none ∧ RepC K (upd F p o) (upd H p o) a c := fun a c e => by
  obtain ⟨h1, h2⟩ := st.mem a c e
  have hF : F p = none := st.sub.free h
  have ne : a ≠ p := by
    rintro rfl
    cases c with
    | dice => obtain ⟨i, j, e1⟩ := h2; rw [h] at e1; cases e1
    | ins C fs => obtain ⟨dx, fv, e1, _⟩ := h2; rw [h] at e1; cases e1
  refine ⟨by rw [upd_ne ne]; exact h1, h2.keep (fun b u e => by rw [upd_ne (ne_of_none e hF)]; exact e) (fun b u hu _ => by rw [upd_ne (ne_of_none hu h)]; exact hu) (fun b y hb ho => ?_)⟩
  rw [upd_ne (ne_of_none ho h)]; exact hb
end
section
variable {X : Cx} {B : Bs} {F H : Hp} {σ : L2.St} {ρ : PEnv} {m : Mem}
/-- a new frozen object -/
theorem PSt.new {w : World} {K : PySem.W.Frag} {p : Addr} {o : HO} (st : PSt w K B F σ H ρ m) (h : H p = none) (nt : noTbl o) :
    PSt w K B (upd F p o) σ (upd H p o) ρ m ∧ Ext F H m (upd F p o) (upd H p o) m := by
  have ex : Ext F H m (upd F p o) (upd H p o) m := Ext.new st.sub h
  refine ⟨st.step ?_ ?_ ex (mem_new st h) (st.tab.ext fun a u e => by rw [upd_ne (ne_of_none e h)]; exact e), ex⟩
  · intro a u e
    by_cases q : a = p
    · subst q; rw [upd_same] at e; rw [upd_same]; exact e
    · rw [upd_ne q] at e; rw [upd_ne q]; exact st.sub a u e
  · intro a u e
    by_cases q : a = p
    · subst q; rw [upd_same] at e; cases e; exact nt
    · rw [upd_ne q] at e; exact st.nt a u e

/-! ### names, constants -/
@[simp] def wVar (i : Nat) : DE := fun ρ m Q _ => match at' ρ i with
  | some (.val p) => Q p m
  | _ => False
@[simp] def wC (p : PV) : DE := fun _ m Q _ => Q p m
theorem je_var {x : Str} {pos : Pos} (i : Nat) (hN : X.N[i]? = some x := by rfl) (hv : Vis X.env.scope x := by first | exact Or.inl rfl | exact Or.inr (Or.inl rfl) | exact Or.inr (Or.inr rfl)) (hd : (x == ("__debug__" : Str)) = false := by decide)
    (hcd : (x == ("__classdict__" : Str)) = false := by decide) : JE X B (.Name x pos) (wVar i) := .of fun R tk => ⟨_, pe_var (i := i) hN hv hd hcd, fun F σ H ρ m Q st h => by
  unfold wVar at h
  split at h
  · rename_i p e
    obtain ⟨v, h1, h2⟩ := st.val i p (at_get e)
    exact ⟨v, h1, p, F, m, st, Ext.refl _ _ _, h2, h⟩
  · exact h.elim⟩
theorem je_int {i : Int} {j pos} : JE X B (.Constant (.int i) j pos) (wC (.int i)) := .of fun R tk => ⟨_, pe_int, fun F σ H ρ m Q st h => ⟨_, F, m, st, Ext.refl _ _ _, .int i, h⟩⟩
theorem je_bl {b : Bool} {j pos} : JE X B (.Constant (.bool b) j pos) (wC (.bl b)) := .of fun R tk => ⟨_, pe_bl, fun F σ H ρ m Q st h => ⟨_, F, m, st, Ext.refl _ _ _, .bl b, h⟩⟩
theorem je_non {j pos} : JE X B (.Constant .none j pos) (wC .non) := .of fun R tk => ⟨_, pe_non, fun F σ H ρ m Q st h => ⟨_, F, m, st, Ext.refl _ _ _, .non, h⟩⟩
theorem je_str {x : Str} {j pos} : JE X B (.Constant (.str x) j pos) (wC (.str x)) := .of fun R tk => ⟨_, pe_str, fun F σ H ρ m Q st h => ⟨_, F, m, st, Ext.refl _ _ _, .str x, h⟩⟩
/-- a module's constant -/
theorem je_glob {x : Str} {v : V} {u : Value} {p : PV} {pos : Pos} (hm : X.mg x = some u) (r : RelV v u) (rp : ∀ F, Rep X.K F v p) (hg : Gl X x := by rfl) (hd : (x == ("__debug__" : Str)) = false := by decide) : JE X B (.Name x pos) (wC p) :=
  .of fun R tk => ⟨_, pe_glob hg hm r hd, fun F σ H ρ m Q st h => ⟨_, F, m, st, Ext.refl _ _ _, rp F, h⟩⟩
/-- a built-in's name as a value -/
theorem je_blt {x : Str} {v : V} {u : Value} {pos : Pos} (hm : X.mg x = none) (hv : bootBuiltins x = some u := by decide +kernel) (r : RelV v u := by rfl) (hg : Gl X x := by rfl) (hn : x ≠ "__name__" := by decide) (hd : (x == ("__debug__" : Str)) = false := by decide) : JE X B (.Name x pos) (wC (.raw v)) :=
  .of fun R tk => ⟨_, pe_bltn hg hm hv r hn hd, fun F σ H ρ m Q st h => ⟨_, F, m, st, Ext.refl _ _ _, .raw v, h⟩⟩

/-! ### operations on values -/
abbrev G1 := PV → (PV → Prop) → Prop
abbrev G2 := PV → PV → (PV → Prop) → Prop
def EPG (X : Cx) (B : Bs) (pins : List (Addr × Obj)) (σ : L2.St) (ρ : PEnv) (F H : Hp) (m : Mem) (Q : PV → Prop) (u : Value) (s' : Shared) : Prop :=
  ∃ v p F' H', Inv X pins σ H' s' ∧ PSt X.w X.K B F' σ H' ρ m ∧ Ext F H m F' H' m ∧ RelV v u ∧ Rep X.K F' v p ∧ Q p
def Op2 (X : Cx) (f : Value → Value → Sem Value) (g : G2) : Prop :=
  ∀ (B : Bs) (pins : List (Addr × Obj)) (s : Shared) (σ : L2.St) (F H : Hp) (ρ : PEnv) (m : Mem) (x y : V) (v u : Value) (p q : PV) (Q : PV → Prop), Inv X pins σ H s → PSt X.w X.K B F σ H ρ m → RelV x v → RelV y u → Rep X.K F x p → Rep X.K F y q → g p q Q →
    wpAny (model X.prog X.w) X.A (f v u) (EPG X B pins σ ρ F H m Q) X.xe s
theorem Op2.of {f : Value → Value → Sem Value} {r : R2} {g : G2} (h : OpR X f r)
    (k : ∀ (B : Bs) (F H : Hp) (σ : L2.St) (ρ : PEnv) (m : Mem) (x y : V) (p q : PV) (Q : PV → Prop), PSt X.w X.K B F σ H ρ m → Rep X.K F x p → Rep X.K F y q → g p q Q →
      r x y H fun v H' => ∃ p F', PSt X.w X.K B F' σ H' ρ m ∧ Ext F H m F' H' m ∧ Rep X.K F' v p ∧ Q p) : Op2 X f g := by
  intro B pins s σ F H ρ m x y v u p q Q I st rx ry rp rq hg
  exact thn (h pins s σ H x y v u _ I rx ry (k B F H σ ρ m x y p q Q st rp rq hg)) fun u s' ⟨v, H', I', r, p, F', st', ex, rp, q⟩ => ⟨v, p, F', H', I', st', ex, r, rp, q⟩
@[simp] def wOp (g : G2) (a b : DE) : DE := fun ρ m Q R => a ρ m (fun x m1 => b ρ m1 (fun y m2 => g x y fun z => Q z m2) R) R
variable {a b c : Expr} {ta tb tc : DE} {pos : Pos}
/-- two expressions in a row -/
theorem bin2 (ha : JE X B a ta) (hb : JE X B b tb) {R : PX} (tk : L2N.Takes X (WR X B R)) {pins : List (Addr × Obj)} {s : Shared} {G : PV → PV → Mem → Prop} (I : Inv X pins σ H s) (st : PSt X.w X.K B F σ H ρ m)
    (h : ta ρ m (fun x m1 => tb ρ m1 (fun y m2 => G x y m2) (R ρ)) (R ρ)) {α : Type} {Q : α → Shared → Prop} {f : Value → Value → Sem α}
    (hf : ∀ v u s2 x y p q F2 H2 m2, Inv X pins σ H2 s2 → PSt X.w X.K B F2 σ H2 ρ m2 → Ext F H m F2 H2 m2 → RelV x v → RelV y u → Rep X.K F2 x p → Rep X.K F2 y q → G p q m2 → wpAny (model X.prog X.w) X.A (f v u) Q X.xe s2) :
    wpAny (model X.prog X.w) X.A (eval a X.env) (fun v s₁ => wpAny (model X.prog X.w) X.A (eval b X.env) (fun u s₂ => wpAny (model X.prog X.w) X.A (f v u) Q X.xe s₂) X.xe s₁) X.xe s := by
  refine thn (ha.run R tk pins s σ F H ρ m _ I st h) fun v s1 ⟨x, p, F1, H1, m1, I1, st1, ex1, r1, rp1, q1⟩ => ?_
  refine thn (hb.run R tk pins s1 σ F1 H1 ρ m1 _ I1 st1 q1) fun u s2 ⟨y, q, F2, H2, m2, I2, st2, ex2, r2, rp2, q2⟩ => ?_
  exact hf v u s2 x y p q F2 H2 m2 I2 st2 (ex1.trans ex2) r1 r2 (rp1.mono ex2.fz) rp2 q2
theorem epg {pins : List (Addr × Obj)} {F0 H0 : Hp} {m0 : Mem} {Q : KV'} {u : Value} {s' : Shared} (ex : Ext F0 H0 m0 F H m) (h : EPG X B pins σ ρ F H m (fun z => Q z m) u s') : EPP X B pins σ ρ F0 H0 m0 Q u s' := by
  obtain ⟨v, p, F', H', I', st', ex', r, rp, q⟩ := h
  exact ⟨v, p, F', H', m, I', st', ex.trans ex', r, rp, q⟩
theorem je_op {op : Operator} {g : G2} (ho : Op2 X (binaryOp op) g) (ha : JE X B a ta) (hb : JE X B b tb) : JE X B (.BinOp a op b pos) (wOp g ta tb) := by
  refine ⟨fun R tk pins s σ F H ρ m Q I st h => ?_⟩
  exact wpAny_BinOp (bin2 ha hb tk I st h fun v u s2 x y p q F2 H2 m2 I2 st2 ex rx ry rp rq g2 => thn (ho B pins s2 σ F2 H2 ρ m2 x y v u p q _ I2 st2 rx ry rp rq g2) fun u s' h => epg ex h)
theorem je_cmp {op : CmpOp} {g : G2} (ho : Op2 X (compareOp op) g) (ha : JE X B a ta) (hb : JE X B b tb) (hm : behindInMarks op b = false := by first | exact nomark _ | rfl) : JE X B (.Compare a [op] [b] pos) (wOp g ta tb) := by
  refine ⟨fun R tk pins s σ F H ρ m Q I st h => ?_⟩
  exact wpAny_Compare1 (bin2 ha hb tk I st h fun v u s2 x y p q F2 H2 m2 I2 st2 ex rx ry rp rq g2 => thn (ho B pins s2 σ F2 H2 ρ m2 x y v u p q _ I2 st2 rx ry rp rq g2) fun u s' h => epg ex h) hm
/-- as a test -/
@[simp] def bTst (Q : Bool → Prop) : PV → Prop
  | .bl b => Q b
  | _ => False
@[simp] def wTst (t : DE) : DT := fun ρ m Q R => t ρ m (fun z m1 => bTst (fun b => Q b m1) z) R
theorem bTst_bl {Q : Bool → Prop} {z : PV} (h : bTst Q z) : ∃ b, z = .bl b ∧ Q b := by
  cases z <;> first | exact ⟨_, rfl, h⟩ | exact h.elim
theorem jt_cmp {op : CmpOp} {g : G2} (ho : Op2 X (compareOp op) g) (ha : JE X B a ta) (hb : JE X B b tb) (hm : behindInMarks op b = false := by first | exact nomark _ | rfl) : JT X B (.Compare a [op] [b] pos) (wTst (wOp g ta tb)) := by
  refine ⟨fun R tk pins s σ F H ρ m Q I st h => ?_⟩
  refine wpAny_isTrue_Compare1 (thn (ha.run R tk pins s σ F H ρ m _ I st h) fun v s1 ⟨x, p, F1, H1, m1, I1, st1, ex1, r1, rp1, q1⟩ => ?_) hm
  refine thn (hb.run R tk pins s1 σ F1 H1 ρ m1 _ I1 st1 q1) fun u s2 ⟨y, q, F2, H2, m2, I2, st2, ex2, r2, rp2, q2⟩ => ?_
  refine thn (ho B pins s2 σ F2 H2 ρ m2 x y v u p q _ I2 st2 r1 r2 (rp1.mono ex2.fz) rp2 q2) fun c s3 ⟨z, pz, F3, H3, I3, st3, ex3, r3, rp3, q3⟩ => ?_
  obtain ⟨d, e, q⟩ := bTst_bl q3
  subst e
  cases rp3
  cases r3
  exact wpAny_truthy_bool ⟨F3, H3, m2, I3, st3, (ex1.trans ex2).trans ex3, q⟩
/-- an expression whose value is a bool, as a test -/
theorem jt_val {e : Expr} {t : DE} (h : JE X B e t) (he : ∀ whole, isTrue e X.env whole = (do let v ← whole; standAt e.pos; holding [v] (truthy v)) := by intro _; rfl) : JT X B e (wTst t) := by
  refine ⟨fun R tk pins s σ F H ρ m Q I st hw => ?_⟩
  refine isTrue_plain (thn (h.run R tk pins s σ F H ρ m _ I st hw) fun v s1 ⟨x, p, F1, H1, m1, I1, st1, ex1, r1, rp1, q1⟩ => ?_) (he _)
  obtain ⟨d, e, q⟩ := bTst_bl q1
  subst e
  cases rp1
  cases r1
  exact wpAny_truthy_bool ⟨F1, H1, m1, I1, st1, ex1, q⟩
end
end PL


namespace PL
open PySem PySem.Spec PyProof.Rows L2

section
variable {X : Cx} {B : Bs} {a b c : Expr} {rest : List Expr} {ta tb tc : DE} {tA tB' : DT} {pos : Pos}
/-! ### and, or, not, if else -/
/-- a test whatever its 'whole' is -/
structure JW (X : Cx) (B : Bs) (e : Expr) (t : DT) : Prop where
  run : ∀ (R : PX), L2N.Takes X (WR X B R) → ∀ (whole : Sem Value) (pins : List (Addr × Obj)) (s : Shared) (σ : L2.St) (F H : Hp) (ρ : PEnv) (m : Mem) (Q : Bool → Mem → Prop), Inv X pins σ H s → PSt X.w X.K B F σ H ρ m → t ρ m Q (R ρ) →
    wpAny (model X.prog X.w) X.A (isTrue e X.env whole) (fun b s' => ∃ F' H' m', Inv X pins σ H' s' ∧ PSt X.w X.K B F' σ H' ρ m' ∧ Ext F H m F' H' m' ∧ Q b m') X.xe s
theorem JW.jt {e : Expr} {t : DT} (h : JW X B e t) : JT X B e t := ⟨fun R tk => h.run R tk _⟩
@[simp] def wAnd (t u : DT) : DT := fun ρ m Q R => t ρ m (fun c m1 => match c with | true => u ρ m1 Q R | false => Q false m1) R
@[simp] def wOr (t u : DT) : DT := fun ρ m Q R => t ρ m (fun c m1 => match c with | true => Q true m1 | false => u ρ m1 Q R) R
@[simp] def wNot (t : DT) : DT := fun ρ m Q R => t ρ m (fun c m1 => Q (!c) m1) R
theorem jw_and1 (ha : JT X B a tA) : JW X B (.BoolOp .And [a] pos) tA := by
  refine ⟨fun R tk wh pins s σ F H ρ m Q I st h => ?_⟩
  refine isTrue_and (thn (ha.run R tk pins s σ F H ρ m Q I st h) fun c s1 e => ?_)
  cases c with
  | true => exact isTrue_and_nil e
  | false => exact e
theorem jw_or1 (ha : JT X B a tA) : JW X B (.BoolOp .Or [a] pos) tA := by
  refine ⟨fun R tk wh pins s σ F H ρ m Q I st h => ?_⟩
  refine isTrue_or (thn (ha.run R tk pins s σ F H ρ m Q I st h) fun c s1 e => ?_)
  cases c with
  | false => exact isTrue_or_nil e
  | true => exact e
theorem jw_and (ha : JT X B a tA) (hb : JW X B (.BoolOp .And (b :: rest) pos) tB') : JW X B (.BoolOp .And (a :: b :: rest) pos) (wAnd tA tB') := by
  refine ⟨fun R tk wh pins s σ F H ρ m Q I st h => ?_⟩
  refine isTrue_and (thn (ha.run R tk pins s σ F H ρ m _ I st h) fun c s1 ⟨F1, H1, m1, I1, st1, ex1, q1⟩ => ?_)
  cases c with
  | true => exact thn (hb.run R tk wh pins s1 σ F1 H1 ρ m1 Q I1 st1 q1) fun b s2 ⟨F2, H2, m2, I2, st2, ex2, q2⟩ => ⟨F2, H2, m2, I2, st2, ex1.trans ex2, q2⟩
  | false => exact ⟨F1, H1, m1, I1, st1, ex1, q1⟩
theorem jw_or (ha : JT X B a tA) (hb : JW X B (.BoolOp .Or (b :: rest) pos) tB') : JW X B (.BoolOp .Or (a :: b :: rest) pos) (wOr tA tB') := by
  refine ⟨fun R tk wh pins s σ F H ρ m Q I st h => ?_⟩
  refine isTrue_or (thn (ha.run R tk pins s σ F H ρ m _ I st h) fun c s1 ⟨F1, H1, m1, I1, st1, ex1, q1⟩ => ?_)
  cases c with
  | true => exact ⟨F1, H1, m1, I1, st1, ex1, q1⟩
  | false => exact thn (hb.run R tk wh pins s1 σ F1 H1 ρ m1 Q I1 st1 q1) fun b s2 ⟨F2, H2, m2, I2, st2, ex2, q2⟩ => ⟨F2, H2, m2, I2, st2, ex1.trans ex2, q2⟩
theorem jt_not (ha : JT X B a tA) : JT X B (.UnaryOp .Not a pos) (wNot tA) := by
  refine ⟨fun R tk pins s σ F H ρ m Q I st h => ?_⟩
  exact isTrue_not (thn (ha.run R tk pins s σ F H ρ m (fun c m1 => Q (!c) m1) I st h) fun c s1 q => q)
/-- .. as values; all but the last are bools -/
@[simp] def wAndV (ta tb : DE) : DE := fun ρ m Q R => ta ρ m (fun x m1 => bTst (fun c => match c with | true => tb ρ m1 Q R | false => Q (.bl false) m1) x) R
@[simp] def wOrV (ta tb : DE) : DE := fun ρ m Q R => ta ρ m (fun x m1 => bTst (fun c => match c with | true => Q (.bl true) m1 | false => tb ρ m1 Q R) x) R
@[simp] def wNotV (ta : DE) : DE := fun ρ m Q R => ta ρ m (fun x m1 => bTst (fun c => Q (.bl (!c)) m1) x) R
theorem je_one {op} {t : DE} (h : JE X B a t) : JE X B (.BoolOp op [a] pos) t := ⟨fun R tk pins s σ F H ρ m Q I st hw => BoolOp_one (h.run R tk pins s σ F H ρ m Q I st hw)⟩
theorem je_and (ha : JE X B a ta) (hb : JE X B (.BoolOp .And (b :: rest) pos) tb) : JE X B (.BoolOp .And (a :: b :: rest) pos) (wAndV ta tb) := by
  refine ⟨fun R tk pins s σ F H ρ m Q I st h => ?_⟩
  refine BoolOp_and (thn (ha.run R tk pins s σ F H ρ m _ I st h) fun v s1 ⟨x, p, F1, H1, m1, I1, st1, ex1, r1, rp1, q1⟩ => ?_)
  obtain ⟨c, e, q1⟩ := bTst_bl q1
  subst e
  cases rp1
  cases r1
  refine wpAny_truthy_bool ?_
  cases c with
  | true => exact thn (hb.run R tk pins s1 σ F1 H1 ρ m1 Q I1 st1 q1) fun u s2 ⟨x, p, F2, H2, m2, I2, st2, ex2, r2, rp2, q2⟩ => ⟨x, p, F2, H2, m2, I2, st2, ex1.trans ex2, r2, rp2, q2⟩
  | false => exact ⟨.bl false, _, F1, H1, m1, I1, st1, ex1, rfl, .bl false, q1⟩
theorem je_or (ha : JE X B a ta) (hb : JE X B (.BoolOp .Or (b :: rest) pos) tb) : JE X B (.BoolOp .Or (a :: b :: rest) pos) (wOrV ta tb) := by
  refine ⟨fun R tk pins s σ F H ρ m Q I st h => ?_⟩
  refine BoolOp_or (thn (ha.run R tk pins s σ F H ρ m _ I st h) fun v s1 ⟨x, p, F1, H1, m1, I1, st1, ex1, r1, rp1, q1⟩ => ?_)
  obtain ⟨c, e, q1⟩ := bTst_bl q1
  subst e
  cases rp1
  cases r1
  refine wpAny_truthy_bool ?_
  cases c with
  | false => exact thn (hb.run R tk pins s1 σ F1 H1 ρ m1 Q I1 st1 q1) fun u s2 ⟨x, p, F2, H2, m2, I2, st2, ex2, r2, rp2, q2⟩ => ⟨x, p, F2, H2, m2, I2, st2, ex1.trans ex2, r2, rp2, q2⟩
  | true => exact ⟨.bl true, _, F1, H1, m1, I1, st1, ex1, rfl, .bl true, q1⟩
theorem je_not (ha : JE X B a ta) : JE X B (.UnaryOp .Not a pos) (wNotV ta) := by
  refine ⟨fun R tk pins s σ F H ρ m Q I st h => ?_⟩
  refine UnaryOp_ (thn (ha.run R tk pins s σ F H ρ m _ I st h) fun v s1 ⟨x, p, F1, H1, m1, I1, st1, ex1, r1, rp1, q1⟩ => ?_)
  obtain ⟨c, e, q1⟩ := bTst_bl q1
  subst e
  cases rp1
  cases r1
  exact not_of (wpAny_truthy_bool ⟨.bl (!c), _, F1, H1, m1, I1, st1, ex1, rfl, .bl (!c), q1⟩)
@[simp] def wIf (t : DT) (ta tb : DE) : DE := fun ρ m Q R => t ρ m (fun c m1 => match c with | true => ta ρ m1 Q R | false => tb ρ m1 Q R) R
theorem je_if (hc : JT X B c tA) (ha : JE X B a ta) (hb : JE X B b tb) : JE X B (.IfExp c a b pos) (wIf tA ta tb) := by
  refine ⟨fun R tk pins s σ F H ρ m Q I st h => ?_⟩
  refine wpAny_IfExp (thn (hc.run R tk pins s σ F H ρ m _ I st h) fun d s1 ⟨F1, H1, m1, I1, st1, ex1, q1⟩ => ?_)
  cases d with
  | true => exact thn (ha.run R tk pins s1 σ F1 H1 ρ m1 Q I1 st1 q1) fun u s2 ⟨x, p, F2, H2, m2, I2, st2, ex2, r2, rp2, q2⟩ => ⟨x, p, F2, H2, m2, I2, st2, ex1.trans ex2, r2, rp2, q2⟩
  | false => exact thn (hb.run R tk pins s1 σ F1 H1 ρ m1 Q I1 st1 q1) fun u s2 ⟨x, p, F2, H2, m2, I2, st2, ex2, r2, rp2, q2⟩ => ⟨x, p, F2, H2, m2, I2, st2, ex1.trans ex2, r2, rp2, q2⟩
/-- a op1 b op2 c -/
@[simp] def wChain (g g' : G2) (ta tb tc : DE) : DE := fun ρ m Q R => ta ρ m (fun x m1 => tb ρ m1 (fun y m2 => g x y (bTst fun k => match k with
  | true => tc ρ m2 (fun z m3 => g' y z fun u => Q u m3) R
  | false => Q (.bl false) m2)) R) R
theorem je_chain {op op' : CmpOp} {g g' : G2} (ho : Op2 X (compareOp op) g) (ho' : Op2 X (compareOp op') g') (ha : JE X B a ta) (hb : JE X B b tb) (hc : JE X B c tc)
    (hm : lastMarks [op, op'] [b, c] = false := by with_unfolding_all rfl) : JE X B (.Compare a [op, op'] [b, c] pos) (wChain g g' ta tb tc) := by
  refine ⟨fun R tk pins s σ F H ρ m Q I st h => ?_⟩
  refine Compare_chain (thn (ha.run R tk pins s σ F H ρ m _ I st h) fun v s1 ⟨x, p, F1, H1, m1, I1, st1, ex1, r1, rp1, q1⟩ => chain_link (thn (hb.run R tk pins s1 σ F1 H1 ρ m1 _ I1 st1 q1) fun u s2 ⟨y, py, F2, H2, m2, I2, st2, ex2, r2, rp2, q2⟩ =>
    thn (ho B pins s2 σ F2 H2 ρ m2 x y v u p py _ I2 st2 r1 r2 (rp1.mono ex2.fz) rp2 q2) fun d s3 ⟨z, pz, F3, H3, I3, st3, ex3, r3, rp3, q3⟩ => ?_)) hm
  obtain ⟨k, e, q3⟩ := bTst_bl q3
  subst e
  cases rp3
  cases r3
  refine wpAny_truthy_bool ?_
  have ex13 := (ex1.trans ex2).trans ex3
  cases k with
  | false => exact ite_ff ⟨.bl false, _, F3, H3, m2, I3, st3, ex13, rfl, .bl false, q3⟩
  | true => exact ite_tt (chain_last (thn (hc.run R tk pins s3 σ F3 H3 ρ m2 _ I3 st3 q3) fun w' s4 ⟨z', pz', F4, H4, m4, I4, st4, ex4, r4, rp4, q4⟩ =>
      thn (ho' B pins s4 σ F4 H4 ρ m4 y z' u w' py pz' _ I4 st4 r2 r4 (rp2.mono (ex3.fz.trans ex4.fz)) rp4 q4) fun _ _ h => epg (ex13.trans ex4) h))

/-! ### argument lists, displays -/
structure JA (X : Cx) (B : Bs) (es : List Expr) (t : DA) : Prop where
  run : ∀ (R : PX), L2N.Takes X (WR X B R) → ∀ (pos : Pos) (pins : List (Addr × Obj)) (s : Shared) (σ : L2.St) (F H : Hp) (ρ : PEnv) (m : Mem) (Q : List PV → Mem → Prop), Inv X pins σ H s → PSt X.w X.K B F σ H ρ m → t ρ m Q (R ρ) →
    wpAny (model X.prog X.w) X.A (spliced (backTo pos (starEach es X.env))) (fun us s' => ∃ vs ps F' H' m', Inv X pins σ H' s' ∧ PSt X.w X.K B F' σ H' ρ m' ∧ Ext F H m F' H' m' ∧ Vals vs us ∧ RepAll X.K F' vs ps ∧ ps.length = es.length ∧ Q ps m') X.xe s
@[simp] def wNil : DA := fun _ m Q _ => Q [] m
@[simp] def wCons (ta : DE) (tr : DA) : DA := fun ρ m Q R => ta ρ m (fun x m1 => tr ρ m1 (fun xs m2 => Q (x :: xs) m2) R) R
theorem ja_nil : JA X B [] wNil := ⟨fun _ _ _ _ _ _ F H _ m Q I st h => Calls.spliced_nil ⟨[], [], F, H, m, I, st, Ext.refl _ _ _, .nil, .nil, rfl, h⟩⟩
theorem ja_cons {e : Expr} {es : List Expr} {te : DE} {t : DA} (ha : JE X B e te) (hr : JA X B es t) (hs : starEach (e :: es) X.env = (false, eval e X.env) :: starEach es X.env := by rfl) : JA X B (e :: es) (wCons te t) := by
  refine ⟨fun R tk pos pins s σ F H ρ m Q I st h => ?_⟩
  rw [hs]
  show wpAny _ _ (spliced ((false, eval e X.env) :: backTo pos (starEach es X.env))) _ _ s
  refine Calls.spliced_cons (thn (ha.run R tk pins s σ F H ρ m _ I st h) fun u s1 ⟨x, p, F1, H1, m1, I1, st1, ex1, r1, rp1, q1⟩ => ?_)
  exact thn (hr.run R tk pos pins s1 σ F1 H1 ρ m1 _ I1 st1 q1) fun us s2 ⟨xs, ps, F2, H2, m2, I2, st2, ex2, r2, rp2, hl2, q2⟩ => ⟨x :: xs, p :: ps, F2, H2, m2, I2, st2, ex1.trans ex2, .cons r1 r2, .cons (rp1.mono ex2.fz) rp2, congrArg Nat.succ hl2, q2⟩
@[simp] def wTup (t : DA) : DE := fun ρ m Q R => t ρ m (fun ps m1 => ps.length ≤ 1000 ∧ Q (.tup ps) m1) R
@[simp] def wLst (t : DA) : DE := fun ρ m Q R => t ρ m (fun ps m1 => ps.length ≤ 1000 ∧ Q (.lst ps) m1) R
theorem line1000 {n : Nat} (h : n ≤ 1000) : n ≤ sizeLine := Nat.le_trans h (by decide)
theorem je_tup {es : List Expr} {t : DA} {x1} (h : JA X B es t) : JE X B (.Tuple es x1 pos) (wTup t) := by
  refine ⟨fun R tk pins s σ F H ρ m Q I st hq => ?_⟩
  refine wpAny_Tuple_spliced (thn (h.run R tk pos pins s σ F H ρ m _ I st hq) fun us s1 ⟨xs, ps, F1, H1, m1, I1, st1, ex1, r, rp, _, hz, q⟩ => ⟨by rw [← r.length, rp.length]; exact line1000 hz, ?_⟩)
  have hf : H1 s1.heap.objs.size = none := I1.hok.fresh (Nat.le_refl _)
  obtain ⟨st2, ex2⟩ := st1.new (o := .tup xs) hf (fun ps z => nomatch z)
  refine ⟨.ref s1.heap.objs.size, .tup ps, _, _, m1, I1.laid (t' := s1.toks) (o := .tup xs) (fun b u e => Heap.get?_push_of_some _ e) (Nat.le_refl _) ?_, st2, ex1.trans ex2, rfl, .tup (SqT.of upd_same) (rp.mono ex2.fz), q⟩
  exact ⟨by rw [rp.length]; exact line1000 hz, us, r, ⟨_, Heap.get?_push_size _ rfl, rfl, _, rfl⟩⟩
theorem je_lst {es : List Expr} {t : DA} (h : JA X B es t) : JE X B (.List es pos) (wLst t) := by
  refine ⟨fun R tk pins s σ F H ρ m Q I st hq => ?_⟩
  refine wpAny_List_spliced (thn (h.run R tk pos pins s σ F H ρ m _ I st hq) fun us s1 ⟨xs, ps, F1, H1, m1, I1, st1, ex1, r, rp, _, hz, q⟩ => ⟨by rw [← r.length, rp.length]; exact line1000 hz, ?_⟩)
  have hf : H1 s1.heap.objs.size = none := I1.hok.fresh (Nat.le_refl _)
  obtain ⟨st2, ex2⟩ := st1.new (o := .lst xs) hf (fun ps z => nomatch z)
  refine ⟨.ref s1.heap.objs.size, .lst ps, _, _, m1, I1.laid (t' := s1.toks) (o := .lst xs) (fun b u e => Heap.get?_push_of_some _ e) (Nat.le_refl _) ?_, st2, ex1.trans ex2, rfl, .lst upd_same (rp.mono ex2.fz), q⟩
  exact ⟨by rw [rp.length]; exact line1000 hz, us, 0, r, Heap.get?_push_size _ rfl⟩

/-! ### built-in calls by values -/
abbrev GC := List PV → (PV → Prop) → Prop
def OpC (X : Cx) (f : Value) (g : GC) : Prop :=
  ∀ (B : Bs) (pins : List (Addr × Obj)) (s : Shared) (σ : L2.St) (F H : Hp) (ρ : PEnv) (m : Mem) (xs : List V) (us : List Value) (ps : List PV) (Q : PV → Prop), Inv X pins σ H s → PSt X.w X.K B F σ H ρ m → Vals xs us → RepAll X.K F xs ps → g ps Q →
    wpAny (model X.prog X.w) X.A (call f us) (EPG X B pins σ ρ F H m Q) X.xe s
theorem OpC.of {f : Value} {r : List V → Hp → VK → Prop} {g : GC} (h : CallR X f r)
    (k : ∀ (B : Bs) (F H : Hp) (σ : L2.St) (ρ : PEnv) (m : Mem) (xs : List V) (ps : List PV) (Q : PV → Prop), PSt X.w X.K B F σ H ρ m → RepAll X.K F xs ps → g ps Q →
      r xs H fun v H' => ∃ p F', PSt X.w X.K B F' σ H' ρ m ∧ Ext F H m F' H' m ∧ Rep X.K F' v p ∧ Q p) : OpC X f g := by
  intro B pins s σ F H ρ m xs us ps Q I st rx rp hg
  exact thn (h pins s σ H xs us _ I rx (k B F H σ ρ m xs ps Q st rp hg)) fun u s' ⟨v, H', I', r, p, F', st', ex, rp, q⟩ => ⟨v, p, F', H', I', st', ex, r, rp, q⟩
@[simp] def wCB (g : GC) (t : DA) : DE := fun ρ m Q R => t ρ m (fun ps m1 => g ps fun z => Q z m1) R
theorem je_callB {id : String} {x : Str} {p : Pos} {e : Expr} {es : List Expr} {g : GC} {t : DA} (hc : OpC X (.builtin id) g) (hm : X.mg x = none) (ha : JA X B (e :: es) t) (hv : bootBuiltins x = some (.builtin id) := by decide +kernel) (hg : Gl X x := by rfl)
    (hn : x ≠ "__name__" := by decide) (hdb : (x == ("__debug__" : Str)) = false := by decide) (he : starEach (e :: es) X.env = (false, eval e X.env) :: starEach es X.env := by rfl) (hpl : (backTo pos (starEach es X.env)).any (·.1) = false := by rfl) :
    JE X B (.Call (.Name x p) (e :: es) [] pos) (wCB g t) := by
  refine ⟨fun R tk pins s σ F H ρ m Q I st h => ?_⟩
  refine wpAny_Call_Name_kw (ld_blt I hg hm hv ?_ hn hdb)
  exact PyProof.Rows.callWith_builtin1 (thn (ha.run R tk pos pins s σ F H ρ m _ I st h) fun us s1 ⟨vs, ps, F1, H1, m1, I1, st1, ex1, r1, rp1, _, q1⟩ =>
    thn (hc B pins s1 σ F1 H1 ρ m1 vs us ps _ I1 st1 r1 rp1 q1) fun _ _ h => epg ex1 h) he hpl
theorem je_callTy {T : String} {x : Str} {p : Pos} {e : Expr} {es : List Expr} {g : GC} {t : DA} (hc : OpC X (.type T) g) (hm : X.mg x = none) (ha : JA X B (e :: es) t) (hv : bootBuiltins x = some (.type T) := by decide +kernel) (hg : Gl X x := by rfl)
    (hn : x ≠ "__name__" := by decide) (hdb : (x == ("__debug__" : Str)) = false := by decide) (he : starEach (e :: es) X.env = (false, eval e X.env) :: starEach es X.env := by rfl) (hpl : (backTo pos (starEach es X.env)).any (·.1) = false := by rfl) :
    JE X B (.Call (.Name x p) (e :: es) [] pos) (wCB g t) := by
  refine ⟨fun R tk pins s σ F H ρ m Q I st h => ?_⟩
  refine wpAny_Call_Name_kw (ld_blt I hg hm hv ?_ hn hdb)
  exact PyProof.Rows.callWith_type1 (thn (ha.run R tk pos pins s σ F H ρ m _ I st h) fun us s1 ⟨vs, ps, F1, H1, m1, I1, st1, ex1, r1, rp1, _, q1⟩ =>
    thn (hc B pins s1 σ F1 H1 ρ m1 vs us ps _ I1 st1 r1 rp1 q1) fun _ _ h => epg ex1 h) he hpl

/-! ### defs: what they promise -/
abbrev SpP := List PV → Mem → KV' → KX → Prop
/-- the promise as the hand layer's: T the tables -/
def spOf (w : World) (K : PySem.W.Frag) (T : List (Addr × Str)) (n : Nat) (S : SpP) : Sp := fun vs H Q E => ∃ F m ps Qp Rp, vs.length = n ∧ Same F H ∧ (∀ a o, F a = some o → noTbl o) ∧ (∀ a c, m a = some c → F a = none ∧ RepC K F H a c) ∧ LamX.Tabs T H ∧ RepAll K F vs ps ∧ S ps m Qp Rp ∧
  (∀ v p F' H' m', Same F' H' → (∀ a o, F' a = some o → noTbl o) → (∀ a c, m' a = some c → F' a = none ∧ RepC K F' H' a c) → LamX.Tabs T H' → Ext F H m F' H' m' → Rep K F' v p → Qp p m' → Q v H') ∧
  (∀ C F' H' m', Same F' H' → (∀ a o, F' a = some o → noTbl o) → (∀ a c, m' a = some c → F' a = none ∧ RepC K F' H' a c) → LamX.Tabs T H' → Ext F H m F' H' m' → Rp C m' → E (.ref C) none H')
/-- a def of the module, under its name, that keeps the pure promise S -/
theorem passAtN {W : WX} (tk : L2N.Takes X W) (σ : L2.St) : PassesAt (L2N.CX X.prog X.w) X σ (fun cls d H => W cls d σ H) := fun _ _ _ _ _ I c => tk _ _ (L2N.XE.of_call I (fun _ _ _ h => h) c)
structure CalM (P : Program) (w : World) (K : PySem.W.Frag) (mg : Str → Option Value) (base : Heap) (T : List (Addr × Str)) (k : Nat) (x : Str) (n : Nat) (S : SpP) : Prop where
  ex : ∃ (f : Addr) (fd : FuncData) (ps : List Str), FnOk P w K mg base (L2N.CX P w) k f fd ps (spOf w K T n S) ∧ mg x = some (.ref f) ∧ PySem.W.keepIn K (.ref f) = true ∧ Binds K fd ps []
@[simp] def wCall (S : SpP) (t : DA) : DE := fun ρ m Q R => t ρ m (fun ps m1 => S ps m1 Q R) R
theorem je_call {x : Str} {p : Pos} {e : Expr} {es : List Expr} {n k : Nat} {S : SpP} {t : DA} (c : CalM X.prog X.w X.K X.mg X.base B.T k x n S) (hr : Room k X.A) (ha : JA X B (e :: es) t) (hn : (e :: es).length = n := by rfl) (hg : Gl X x := by rfl) (hdb : (x == ("__debug__" : Str)) = false := by decide)
    (he : starEach (e :: es) X.env = (false, eval e X.env) :: starEach es X.env := by rfl) (hpl : (backTo pos (starEach es X.env)).any (·.1) = false := by rfl) :
    JE X B (.Call (.Name x p) (e :: es) [] pos) (wCall S t) := by
  obtain ⟨f, fd, ps, Fn, hm, hk, hb⟩ := c.ex
  refine ⟨fun R tk pins s σ F H ρ m Q I st h => ?_⟩
  refine wpAny_Call_Name_kw (ld_glob I hg hm ?_ hdb)
  refine PySem.W.callWith_K (h₀ := X.base) I.ok.mod.kin hk (thn (ha.run R tk pos pins s σ F H ρ m _ I st h) fun us s1 ⟨vs, ps', F1, H1, m1, I1, st1, ex1, r1, rp1, hl, q1⟩ => ⟨I1.kIn, ?_⟩) he hpl
  refine thn (run_fnSD (dvs := []) (ds := []) (E := fun σ cls d H => WR X B R cls d σ H)
    (Q := fun v H' => ∃ p F' m', PSt X.w X.K B F' σ H' ρ m' ∧ Ext F H m F' H' m' ∧ Rep X.K F' v p ∧ Q p m') Fn hr hb .nil (passAtN tk σ) I1 r1 ?_) fun u s' ⟨v, H', I', r, p, F', m', st', ex', rp, q⟩ => ⟨v, p, F', H', m', I', st', ex', r, rp, q⟩
  rw [List.append_nil]
  refine ⟨F1, m1, ps', Q, R ρ, by rw [rp1.length, hl, hn], st1.sub, st1.nt, st1.mem, st1.tab, rp1, q1, fun v p F' H' m' hs nt hm' ht ex rp q => ?_, fun C F' H' m' hs nt hm' ht ex q => ?_⟩
  · exact ⟨p, F', m', st1.step hs nt ex hm' ht, ex1.trans ex, rp, q⟩
  · exact ⟨F', ρ, m', C, rfl, rfl, st1.step hs nt ex hm' ht, q⟩
end
end PL


namespace PL
open PySem PySem.Spec PyProof.Rows L2

/-! ### values as data -/
mutual
def toD : PV → PyData
  | .non => .none
  | .bl b => .bool b
  | .int i => .int i
  | .str x => .str x
  | .tup xs => .tuple (toDs xs)
  | .lst xs => .list (toDs xs)
  | .scr ns => .list (ns.map .int)
  | .raw _ => .none
def toDs : List PV → List PyData
  | [] => []
  | x :: xs => toD x :: toDs xs
end
mutual
/-- a value that may be compared -/
def okD : PV → Bool
  | .non | .bl _ | .int _ => true
  | .str x => PyData.strOk x
  | .tup xs | .lst xs => okDs xs
  | .scr _ => true
  | .raw _ => false
def okDs : List PV → Bool
  | [] => true
  | x :: xs => okD x && okDs xs
end
theorem canLay_ints : ∀ ns : List Int, PyData.canLayAll0 (ns.map .int) = true
  | [] => by simp [PyData.canLayAll0]
  | n :: ns => by simp [PyData.canLayAll0, PyData.canLay0, canLay_ints ns]
mutual
theorem ok_lay : ∀ {p : PV}, okD p = true → (toD p).canLay0 = true
  | .non, _ => by simp [toD, PyData.canLay0]
  | .bl _, _ => by simp [toD, PyData.canLay0]
  | .int _, _ => by simp [toD, PyData.canLay0]
  | .str x, h => by simpa [toD, PyData.canLay0, okD] using h
  | .tup xs, h => by simpa [toD, PyData.canLay0] using ok_lays (by simpa [okD] using h)
  | .lst xs, h => by simpa [toD, PyData.canLay0] using ok_lays (by simpa [okD] using h)
  | .scr ns, _ => by simp only [toD, PyData.canLay0]; exact canLay_ints ns
  | .raw _, h => by simp [okD] at h
theorem ok_lays : ∀ {ps : List PV}, okDs ps = true → PyData.canLayAll0 (toDs ps) = true
  | [], _ => by simp [toDs, PyData.canLayAll0]
  | p :: ps, h => by
    simp only [okDs, Bool.and_eq_true] at h
    simp [toDs, PyData.canLayAll0, ok_lay h.1, ok_lays h.2]
end

/-- how deep -/
def dep (p : PV) : Nat := (toD p).depth
def peq (p q : PV) : Bool := PyData.eqv (toD p) (toD q)
theorem dpAll_ints {K : PySem.W.Frag} {H : Hp} : ∀ ns : List Int, DpAll K H (ns.map V.int) (ns.map PyData.int)
  | [] => .nil
  | n :: ns => .cons (.int n) (dpAll_ints ns)
mutual
theorem Rep.dp {K : PySem.W.Frag} {F H : Hp} (e : Same F H) : ∀ {v : V} {p : PV}, Rep K F v p → okD p = true → Dp K H v (toD p)
  | _, _, .non, _ => by simp only [toD]; exact .non
  | _, _, .bl b, _ => by simp only [toD]; exact .bl b
  | _, _, .int i, _ => by simp only [toD]; exact .int i
  | _, _, .str x, _ => by simp only [toD]; exact .str x
  | _, _, .tup h r, o => by simp only [toD]; exact .tup (same_t e h) (RepAll.dp e r (by simpa [okD] using o))
  | _, _, .lst h r, o => by simp only [toD]; exact .lst (SqL.of (e _ _ h)) (RepAll.dp e r (by simpa [okD] using o))
  | _, _, .scr h, _ => by simp only [toD]; exact .lst (e.seq h) (dpAll_ints _)
  | _, _, .raw v, o => by simp [okD] at o
theorem RepAll.dp {K : PySem.W.Frag} {F H : Hp} (e : Same F H) : ∀ {vs : List V} {ps : List PV}, RepAll K F vs ps → okDs ps = true → DpAll K H vs (toDs ps)
  | _, _, .nil, _ => by simp only [toDs]; exact .nil
  | _, _, .cons r t, o => by
    simp only [okDs, Bool.and_eq_true] at o
    simp only [toDs]
    exact .cons (Rep.dp e r o.1) (RepAll.dp e t o.2)
end

section
variable {X : Cx} {B : Bs} {pins : List (Addr × Obj)} {F H : Hp} {σ : L2.St} {ρ : PEnv} {m : Mem} {s' : Shared}
theorem epg_of {Q : PV → Prop} {u : Value} (h : EP X pins σ (fun v H' => ∃ p F', PSt X.w X.K B F' σ H' ρ m ∧ Ext F H m F' H' m ∧ Rep X.K F' v p ∧ Q p) u s') : EPG X B pins σ ρ F H m Q u s' := by
  obtain ⟨v, H', I', r, p, F', st', ex, rp, q⟩ := h
  exact ⟨v, p, F', H', I', st', ex, r, rp, q⟩
theorem epg_now {Q : PV → Prop} {v : V} {p : PV} {u : Value} (I : Inv X pins σ H s') (st : PSt X.w X.K B F σ H ρ m) (r : RelV v u) (rp : Rep X.K F v p) (q : Q p) : EPG X B pins σ ρ F H m Q u s' := ⟨v, p, F, H, I, st, Ext.refl _ _ _, r, rp, q⟩

theorem epg_bl {Q : PV → Prop} {b c : Bool} (I : Inv X pins σ H s') (st : PSt X.w X.K B F σ H ρ m) (q : Q (.bl b)) (e : b = c) : EPG X B pins σ ρ F H m Q (.bool c) s' := by
  subst e
  exact epg_now (v := .bl b) I st rfl (.bl _) q
@[simp] def isNon : PV → Bool
  | .non => true
  | _ => false
/-! ### equality -/
@[simp] def gEq : G2 := fun p q Q => okD p = true ∧ okD q = true ∧ min (dep p) (dep q) ≤ 150 ∧ Q (.bl (peq p q))
@[simp] def gNe : G2 := fun p q Q => okD p = true ∧ okD q = true ∧ min (dep p) (dep q) ≤ 150 ∧ Q (.bl (!peq p q))
/-- room for the comparisons -/
def Rm (X : Cx) : Prop := X.A.units + 180 < cLine
theorem rm_of {A : Around} {k : Nat} (hr : Room k A) : A.units + 180 < cLine := by have := hr.un; omega
theorem o_eq (hu : Rm X) : Op2 X (compareOp .Eq) gEq := by
  intro B pins s σ F H ρ m x y v u p q Q I st rx ry rp rq hg
  obtain ⟨h1, h2, h3, hq⟩ := hg
  obtain ⟨as, r1⟩ := Dp.reads I _ x v (rp.dp st.sub h1) rx
  obtain ⟨bs, r2⟩ := Dp.reads I _ y u (rq.dp st.sub h2) ry
  exact SeqAt.compareEq_reads r1 r2 (ok_lay h1) (ok_lay h2) (by unfold Rm at hu; unfold dep at h3; omega) (epg_bl I st hq rfl)
theorem o_ne (hu : Rm X) : Op2 X (compareOp .NotEq) gNe := by
  intro B pins s σ F H ρ m x y v u p q Q I st rx ry rp rq hg
  obtain ⟨h1, h2, h3, hq⟩ := hg
  obtain ⟨as, r1⟩ := Dp.reads I _ x v (rp.dp st.sub h1) rx
  obtain ⟨bs, r2⟩ := Dp.reads I _ y u (rq.dp st.sub h2) ry
  exact SeqAt.compareNe_reads r1 r2 (ok_lay h1) (ok_lay h2) (by unfold Rm at hu; unfold dep at h3; omega) (epg_bl I st hq rfl)
/-! ### in a list, a tuple -/
@[simp] def gIn (neg : Bool) : G2 := fun p q Q => match q with
  | .lst ys | .tup ys => okD p = true ∧ okDs ys = true ∧ min (PyData.depthAll (toDs ys)) (dep p) ≤ 150 ∧ Q (.bl (xor neg (ys.any fun y => peq y p)))
  | _ => False
theorem any_toDs (d : PyData) : ∀ ys : List PV, (toDs ys).any (fun y => PyData.eqv y d) = ys.any (fun y => PyData.eqv (toD y) d)
  | [] => by simp [toDs]
  | y :: ys => by simp [toDs, any_toDs d ys]
theorem o_in (hu : Rm X) : Op2 X (compareOp .In) (gIn false) := by
  intro B pins s σ F H ρ m x y v u p q Q I st rx ry rp rq hg
  unfold gIn at hg
  split at hg
  · rename_i ys
    obtain ⟨h1, h2, h3, hq⟩ := hg
    have h2' : okD (.lst ys) = true := by simpa [okD] using h2
    obtain ⟨as, r1⟩ := Dp.reads I _ x v (rp.dp st.sub h1) rx
    obtain ⟨bs, r2⟩ := Dp.reads I _ y u (rq.dp st.sub h2') ry
    simp only [toD] at r2
    refine SeqAt.in_list_reads r2 r1 (ok_lays h2) (ok_lay h1) (by unfold Rm at hu; unfold dep at h3; omega) (epg_bl I st hq ?_)
    rw [any_toDs]; simp [peq]
  · rename_i ys
    obtain ⟨h1, h2, h3, hq⟩ := hg
    have h2' : okD (.tup ys) = true := by simpa [okD] using h2
    obtain ⟨as, r1⟩ := Dp.reads I _ x v (rp.dp st.sub h1) rx
    obtain ⟨bs, r2⟩ := Dp.reads I _ y u (rq.dp st.sub h2') ry
    simp only [toD] at r2
    refine SeqAt.in_tuple_reads r2 r1 (ok_lays h2) (ok_lay h1) (by unfold Rm at hu; unfold dep at h3; omega) (epg_bl I st hq ?_)
    rw [any_toDs]; simp [peq]
  · exact hg.elim
theorem o_notin (hu : Rm X) : Op2 X (compareOp .NotIn) (gIn true) := by
  intro B pins s σ F H ρ m x y v u p q Q I st rx ry rp rq hg
  unfold gIn at hg
  split at hg
  · rename_i ys
    obtain ⟨h1, h2, h3, hq⟩ := hg
    have h2' : okD (.lst ys) = true := by simpa [okD] using h2
    obtain ⟨as, r1⟩ := Dp.reads I _ x v (rp.dp st.sub h1) rx
    obtain ⟨bs, r2⟩ := Dp.reads I _ y u (rq.dp st.sub h2') ry
    simp only [toD] at r2
    refine SeqAt.notIn_list_reads r2 r1 (ok_lays h2) (ok_lay h1) (by unfold Rm at hu; unfold dep at h3; omega) (epg_bl I st hq ?_)
    rw [any_toDs]; simp [peq]
  · rename_i ys
    obtain ⟨h1, h2, h3, hq⟩ := hg
    have h2' : okD (.tup ys) = true := by simpa [okD] using h2
    obtain ⟨as, r1⟩ := Dp.reads I _ x v (rp.dp st.sub h1) rx
    obtain ⟨bs, r2⟩ := Dp.reads I _ y u (rq.dp st.sub h2') ry
    simp only [toD] at r2
    refine SeqAt.notIn_tuple_reads r2 r1 (ok_lays h2) (ok_lay h1) (by unfold Rm at hu; unfold dep at h3; omega) (epg_bl I st hq ?_)
    rw [any_toDs]; simp [peq]
  · exact hg.elim
/-! ### is None, is True, is False -/
@[simp] def gIs (neg : Bool) : G2 := fun p q Q => match q with
  | .non => Q (.bl (xor neg (isNon p)))
  | .bl b => (match p with
    | .non => Q (.bl neg)
    | .bl c => Q (.bl (xor neg (c == b)))
    | _ => False)
  | _ => False
theorem rep_non {K : PySem.W.Frag} {F : Hp} {x : V} {p : PV} (rp : Rep K F x p) (h : ∀ v, p ≠ .raw v) : decide (x = .non) = (isNon p) := by
  cases rp <;> first | rfl | exact absurd rfl (h _)
@[simp] def noRaw : PV → Prop
  | .raw _ => False
  | _ => True
theorem o_is : Op2 X (compareOp .Is) (fun p q Q => noRaw p ∧ gIs false p q Q) := by
  intro B pins s σ F H ρ m x y v u p q Q I st rx ry rp rq ⟨hr, hg⟩
  unfold gIs at hg
  split at hg
  · cases rq
    refine thn (op_isN pins s σ H x _ v u (fun w H' => ∃ p F', PSt X.w X.K B F' σ H' ρ m ∧ Ext F H m F' H' m ∧ Rep X.K F' w p ∧ Q p) I rx ry ⟨rfl, _, F, st, Ext.refl _ _ _, .bl _, ?_⟩) fun _ _ h => epg_of h
    rw [rep_non rp (fun w e => by subst e; exact hr)]
    simpa using hg
  · cases rq
    cases ry
    split at hg
    · cases rp; cases rx
      exact wpAny_is_plain rfl (epg_bl I st hg rfl)
    · rename_i b _ c
      cases rp; cases rx
      refine wpAny_is_plain rfl (epg_bl I st hg ?_)
      cases c <;> cases b <;> rfl
    · exact hg.elim
  · exact hg.elim
theorem o_isnot : Op2 X (compareOp .IsNot) (fun p q Q => noRaw p ∧ gIs true p q Q) := by
  intro B pins s σ F H ρ m x y v u p q Q I st rx ry rp rq ⟨hr, hg⟩
  unfold gIs at hg
  split at hg
  · cases rq
    refine thn (op_notN pins s σ H x _ v u (fun w H' => ∃ p F', PSt X.w X.K B F' σ H' ρ m ∧ Ext F H m F' H' m ∧ Rep X.K F' w p ∧ Q p) I rx ry ⟨rfl, _, F, st, Ext.refl _ _ _, .bl _, ?_⟩) fun _ _ h => epg_of h
    rw [rep_non rp (fun w e => by subst e; exact hr)]
    simpa using hg
  · cases rq
    cases ry
    split at hg
    · cases rp; cases rx
      exact wpAny_isNot_plain rfl (epg_bl I st hg rfl)
    · rename_i b _ c
      cases rp; cases rx
      refine wpAny_isNot_plain rfl (epg_bl I st hg ?_)
      cases c <;> cases b <;> rfl
    · exact hg.elim
  · exact hg.elim
/-! ### order of ints -/
@[simp] def gCmpI (f : Int → Int → Bool) : G2 := fun p q Q => match p, q with
  | .int i, .int j => Q (.bl (f i j))
  | _, _ => False
theorem o_cmpI {op : CmpOp} {f : Int → Int → Bool} (h : OpR X (compareOp op) (rI0 fun i j => .bl (f i j))) : Op2 X (compareOp op) (gCmpI f) := by
  intro B pins s σ F H ρ m x y v u p q Q I st rx ry rp rq hg
  unfold gCmpI at hg
  split at hg
  · rename_i i j
    cases rp; cases rq
    exact thn (h pins s σ H _ _ v u (fun w H' => ∃ p F', PSt X.w X.K B F' σ H' ρ m ∧ Ext F H m F' H' m ∧ Rep X.K F' w p ∧ Q p) I rx ry ⟨i, j, rfl, rfl, _, F, st, Ext.refl _ _ _, .bl _, hg⟩) fun _ _ h => epg_of h
  · exact hg.elim
theorem o_lt : Op2 X (compareOp .Lt) (gCmpI fun i j => decide (i < j)) := o_cmpI op_lt
theorem o_le : Op2 X (compareOp .LtE) (gCmpI fun i j => decide (i ≤ j)) := o_cmpI op_le
theorem o_gt : Op2 X (compareOp .Gt) (gCmpI fun i j => decide (j < i)) := o_cmpI op_gt
theorem o_ge : Op2 X (compareOp .GtE) (gCmpI fun i j => decide (j ≤ i)) := o_cmpI op_ge
end
end PL


namespace PL
open PySem PySem.Spec PyProof.Rows L2

section
variable {X : Cx} {B : Bs} {pins : List (Addr × Obj)} {F H : Hp} {σ : L2.St} {ρ : PEnv} {m : Mem} {s' : Shared}
abbrev EPQ (X : Cx) (B : Bs) (σ : L2.St) (ρ : PEnv) (F H : Hp) (m : Mem) (Q : PV → Prop) : VK := fun v H' => ∃ p F', PSt X.w X.K B F' σ H' ρ m ∧ Ext F H m F' H' m ∧ Rep X.K F' v p ∧ Q p
theorem epq_now {Q : PV → Prop} {v : V} {p : PV} (st : PSt X.w X.K B F σ H ρ m) (rp : Rep X.K F v p) (q : Q p) : EPQ X B σ ρ F H m Q v H := ⟨p, F, st, Ext.refl _ _ _, rp, q⟩
theorem epq_tup {Q : PV → Prop} {xs : List V} {ps : List PV} (st : PSt X.w X.K B F σ H ρ m) (rp : RepAll X.K F xs ps) (q : Q (.tup ps)) : ∀ p, H p = none → EPQ X B σ ρ F H m Q (.ref p) (upd H p (.tup xs)) := fun p hp => by
  obtain ⟨st2, ex2⟩ := st.new (o := .tup xs) hp (fun ps z => nomatch z)
  exact ⟨.tup ps, _, st2, ex2, .tup (SqT.of upd_same) (rp.mono ex2.fz), q⟩
theorem epq_lst {Q : PV → Prop} {xs : List V} {ps : List PV} (st : PSt X.w X.K B F σ H ρ m) (rp : RepAll X.K F xs ps) (q : Q (.lst ps)) : ∀ p, H p = none → EPQ X B σ ρ F H m Q (.ref p) (upd H p (.lst xs)) := fun p hp => by
  obtain ⟨st2, ex2⟩ := st.new (o := .lst xs) hp (fun ps z => nomatch z)
  exact ⟨.lst ps, _, st2, ex2, .lst upd_same (rp.mono ex2.fz), q⟩
theorem line6 {n : Nat} (h : n ≤ 1000000) : n ≤ sizeLine := Nat.le_trans h (by decide)

/-! ### + - * // % ** -/
@[simp] def gAdd : G2 := fun p q Q => match p, q with
  | .int i, .int j => Q (.int (i + j))
  | .str x, .str y => x.length + y.length ≤ 1000000 ∧ Q (.str (x ++ y))
  | .tup a, .tup b => a.length + b.length ≤ 1000000 ∧ Q (.tup (a ++ b))
  | .lst a, .lst b => a.length + b.length ≤ 1000000 ∧ Q (.lst (a ++ b))
  | _, _ => False
theorem o_add : Op2 X (binaryOp .Add) gAdd := by
  intro B pins s σ F H ρ m x y v u p q Q I st rx ry rp rq hg
  unfold gAdd at hg
  split at hg
  · rename_i i j
    cases rp; cases rq
    exact thn (op_add pins s σ H _ _ v u (EPQ X B σ ρ F H m Q) I rx ry ⟨i, j, rfl, rfl, epq_now st (.int _) hg⟩) fun _ _ h => epg_of h
  · rename_i i j
    cases rp; cases rq
    exact thn (op_add_str pins s σ H _ _ v u (EPQ X B σ ρ F H m Q) I rx ry ⟨i, j, rfl, rfl, line6 hg.1, epq_now st (.str _) hg.2⟩) fun _ _ h => epg_of h
  · rename_i a b
    obtain ⟨hz, hq⟩ := hg
    cases rp with
    | tup h1 r1 =>
      cases rq with
      | tup h2 r2 =>
        refine thn (op_catA pins s σ H _ _ v u (EPQ X B σ ρ F H m Q) I rx ry ⟨_, _, _, _, rfl, rfl, same_t st.sub h1, same_t st.sub h2, by rw [r1.length, r2.length]; exact line6 hz, fun e => ?_, fun _ e => ?_, fun _ _ => epq_tup st (r1.append r2) hq⟩) fun _ _ h => epg_of h
        · subst e; cases r1; exact epq_now st (.tup h2 r2) hq
        · subst e; cases r2; exact epq_now st (.tup h1 r1) (by simpa using hq)
  · rename_i a b
    obtain ⟨hz, hq⟩ := hg
    cases rp with
    | lst h1 r1 =>
      cases rq with
      | lst h2 r2 =>
        exact thn (op_cat pins s σ H _ _ v u (EPQ X B σ ρ F H m Q) I rx ry ⟨_, _, _, _, rfl, rfl, st.sub _ _ h1, st.sub _ _ h2, by rw [r1.length, r2.length]; exact line6 hz, epq_lst st (r1.append r2) hq⟩) fun _ _ h => epg_of h
  · exact hg.elim
@[simp] def gSub : G2 := fun p q Q => match p, q with
  | .int i, .int j => Q (.int (i - j))
  | _, _ => False
theorem o_sub : Op2 X (binaryOp .Sub) gSub := by
  intro B pins s σ F H ρ m x y v u p q Q I st rx ry rp rq hg
  unfold gSub at hg
  split at hg
  · rename_i i j
    cases rp; cases rq
    exact thn (op_sub pins s σ H _ _ v u (EPQ X B σ ρ F H m Q) I rx ry ⟨i, j, rfl, rfl, epq_now st (.int _) hg⟩) fun _ _ h => epg_of h
  · exact hg.elim
theorem op_mulI : OpR X (binaryOp .Mult) (rI IntMulOk fun i j => .int (i * j)) := opI fun _ _ _ _ _ _ _ hc q => mul_int q hc
theorem tuple_mul1 (l : Addr) (items : Array Value) (n : Nat) (dd : Option Addr) (sl : Array (Option Value)) (u : Tok) :
    Meets (Builtin.«tuple.__mul__» ⟨[.ref l, .int 1 u], []⟩) (fun _ R s => s.heap.get? l = some { cls := .type "tuple", dict := dd, data := .seq items n, slots := sl } ∧ R (.ok (.ret (Value.ref l))) s) :=
  .of_wp fun prog w A R s h => by
    obtain ⟨hp, g, d, tk, os⟩ := s
    obtain ⟨hl, h⟩ := h
    have f1 := AutoSeq1.idx_int
    wp_walk using wpAny_loadPart' hl
    exact ⟨_, rfl, h⟩
theorem op_rep1 : OpR X (binaryOp .Mult) (fun x y H Q => ∃ l xs, x = .ref l ∧ y = .int 1 ∧ SqT X.K H l xs ∧ Q (.ref l) H) := by
  intro pins s σ H x y v u Q I rx ry h
  obtain ⟨l, xs, rfl, rfl, hT, q⟩ := h
  cases rx
  obtain ⟨t, rfl⟩ := ry
  obtain ⟨its, r, ⟨⟨cls, dd, data, sl⟩, ho, hc, n, hd⟩, hs⟩ := I.tuple hT
  simp only at hc hd
  subst hc hd
  exact wpAny_binaryOp_repeat_ref (T := "tuple") (U := "int") (by decide) ⟨_, ho, rfl⟩ (fun s' => typeIs_int s' 1 t) noFill_tuple_mul F.fills_int_mul F.slot_int_rmul repeat_tuple F.slot_int_index.lookup
    (call_meets F.slot_int_rmul (typeIs_int s 1 t) F.entry_int_rmul (F.args_int_rmul_2 _ _) (int_rmul_tuple 1 t l its.toArray n dd sl)
      ⟨ho, rfl, ⟨_, ho, rfl⟩, call_meets F.slot_tuple_mul ⟨_, ho, rfl⟩ F.entry_tuple_mul (F.args_tuple_mul_2 _ _) (tuple_mul1 l its.toArray n dd sl t) ⟨ho, .ref l, H, I.tok _, rfl, q⟩⟩)
theorem rep_app {xs : List V} {ps : List PV} {K : PySem.W.Frag} (r : RepAll K F xs ps) : ∀ k : Nat, RepAll K F (List.replicate k xs).flatten (List.replicate k ps).flatten
  | 0 => .nil
  | k + 1 => by
    rw [List.replicate_succ, List.replicate_succ, List.flatten_cons, List.flatten_cons]
    exact r.append (rep_app r k)
@[simp] def gMul : G2 := fun p q Q => match p, q with
  | .int i, .int j => IntMulOk i j ∧ Q (.int (i * j))
  | .lst a, .int k => -1000 ≤ k ∧ k ≤ 1000 ∧ a.length ≤ 1000 ∧ Q (.lst (List.replicate k.toNat a).flatten)
  | .tup a, .int k => 1 ≤ k ∧ k ≤ 1000 ∧ a.length ≤ 1000 ∧ a ≠ [] ∧ Q (.tup (List.replicate k.toNat a).flatten)
  | _, _ => False
theorem o_mul : Op2 X (binaryOp .Mult) gMul := by
  intro B pins s σ F H ρ m x y v u p q Q I st rx ry rp rq hg
  unfold gMul at hg
  split at hg
  · rename_i i j
    cases rp; cases rq
    exact thn (op_mulI pins s σ H _ _ v u (EPQ X B σ ρ F H m Q) I rx ry ⟨i, j, rfl, rfl, hg.1, epq_now st (.int _) hg.2⟩) fun _ _ h => epg_of h
  · rename_i a k
    obtain ⟨h0, h1, h2, hq⟩ := hg
    cases rp with
    | lst e r =>
      cases rq
      refine thn (op_rep pins s σ H _ _ v u (EPQ X B σ ρ F H m Q) I rx ry ⟨_, k, _, rfl, rfl, st.sub _ _ e, by omega, by omega, ?_, epq_lst st (rep_app r _) hq⟩) fun _ _ h => epg_of h
      rw [r.length]
      exact line6 (Nat.le_trans (Nat.mul_le_mul h2 (show k.toNat ≤ 1000 by omega)) (by decide))
  · rename_i a k
    obtain ⟨h0, h1, h2, h3, hq⟩ := hg
    cases rp with
    | tup e r =>
      cases rq
      by_cases k1 : k = 1
      · subst k1
        have e1 : (List.replicate (1 : Int).toNat a).flatten = a := by simp
        rw [e1] at hq
        exact thn (op_rep1 pins s σ H _ _ v u (EPQ X B σ ρ F H m Q) I rx ry ⟨_, _, rfl, rfl, same_t st.sub e, epq_now st (.tup e r) hq⟩) fun _ _ h => epg_of h
      refine thn (op_repT pins s σ H _ _ v u (EPQ X B σ ρ F H m Q) I rx ry ⟨_, k, _, rfl, rfl, same_t st.sub e, ?_, by omega, h1, by rw [r.length]; exact h2, epq_tup st (rep_app r _) hq⟩) fun _ _ h => epg_of h
      rintro rfl
      cases r
      exact h3 rfl
  · exact hg.elim
@[simp] def gMod : G2 := fun p q Q => match p, q with
  | .int i, .int j => 0 < j ∧ Q (.int (i % j))
  | _, _ => False
theorem o_mod : Op2 X (binaryOp .Mod) gMod := by
  intro B pins s σ F H ρ m x y v u p q Q I st rx ry rp rq hg
  unfold gMod at hg
  split at hg
  · rename_i i j
    cases rp; cases rq
    exact thn (op_mod pins s σ H _ _ v u (EPQ X B σ ρ F H m Q) I rx ry ⟨i, j, rfl, rfl, hg.1, epq_now st (.int _) hg.2⟩) fun _ _ h => epg_of h
  · exact hg.elim
@[simp] def gDiv : G2 := fun p q Q => match p, q with
  | .int i, .int j => CDivW i j ∧ Q (.int (i / j))
  | _, _ => False
theorem o_div : Op2 X (binaryOp .FloorDiv) gDiv := by
  intro B pins s σ F H ρ m x y v u p q Q I st rx ry rp rq hg
  unfold gDiv at hg
  split at hg
  · rename_i i j
    cases rp; cases rq
    exact thn (op_fdivW pins s σ H _ _ v u (EPQ X B σ ρ F H m Q) I rx ry ⟨i, j, rfl, rfl, hg.1, epq_now st (.int _) hg.2⟩) fun _ _ h => epg_of h
  · exact hg.elim
@[simp] def gPow : G2 := fun p q Q => match p, q with
  | .int i, .int j => CPow i j ∧ Q (.int (i ^ j.toNat))
  | _, _ => False
theorem o_pow : Op2 X (binaryOp .Pow) gPow := by
  intro B pins s σ F H ρ m x y v u p q Q I st rx ry rp rq hg
  unfold gPow at hg
  split at hg
  · rename_i i j
    cases rp; cases rq
    exact thn (op_pow pins s σ H _ _ v u (EPQ X B σ ρ F H m Q) I rx ry ⟨i, j, rfl, rfl, hg.1, epq_now st (.int _) hg.2⟩) fun _ _ h => epg_of h
  · exact hg.elim
/-- -e -/
@[simp] def wNeg (t : DE) : DE := fun ρ m Q R => t ρ m (fun p m1 => match p with | .int i => Q (.int (-i)) m1 | _ => False) R
theorem je_neg {a : Expr} {ta : DE} {pos : Pos} (ha : JE X B a ta) : JE X B (.UnaryOp .USub a pos) (wNeg ta) := by
  refine ⟨fun R tk pins s σ F H ρ m Q I st h => ?_⟩
  refine UnaryOp_ (thn (ha.run R tk pins s σ F H ρ m _ I st h) fun v s1 ⟨x, p, F1, H1, m1, I1, st1, ex1, r1, rp1, q1⟩ => ?_)
  simp only at q1
  split at q1
  · rename_i i
    cases rp1
    exact thn (un_neg pins s1 σ H1 _ v (EPQ X B σ ρ F1 H1 m1 (fun z => Q z m1)) I1 r1 ⟨i, rfl, epq_now st1 (.int _) q1⟩) fun _ _ h => epg ex1 (epg_of h)
  · exact q1.elim

/-! ### a[b], a[b:c] -/
@[simp] def gIx : G2 := fun p q Q => match p, q with
  | .tup a, .int i => ∃ v, atI a i = some v ∧ Q v
  | .lst a, .int i => ∃ v, atI a i = some v ∧ Q v
  | .scr ns, .int i => ∃ v, atI ns i = some v ∧ Q (.int v)
  | .str z, .int i => z.length ≤ 1000000 ∧ ∃ c, atI z.cps.toList i = some c ∧ Q (.str ⟨#[c]⟩)
  | _, _ => False
theorem atI_rep {K : PySem.W.Frag} {xs : List V} {ps : List PV} {i : Int} {p : PV} (r : RepAll K F xs ps) (h : atI ps i = some p) : ∃ v, atI xs i = some v ∧ Rep K F v p := by
  unfold atI at h ⊢
  rw [r.length]
  cases e : ixN ps.length i with
  | none => rw [e] at h; cases h
  | some j =>
    rw [e] at h
    exact r.get h
theorem je_ix {a b : Expr} {ta tb : DE} {pos : Pos} (ha : JE X B a ta) (hb : JE X B b tb) (hs : PlainIx b := by exact fun _ _ => rfl) : JE X B (.Subscript a b pos) (wOp gIx ta tb) := by
  refine ⟨fun R tk pins s σ F H ρ m Q I st h => ?_⟩
  refine Subscript_ (bin2 ha hb tk I st h fun v u s2 x y p q F2 H2 m2 I2 st2 ex rx ry rp rq g2 => ?_)
  unfold gIx at g2
  split at g2
  · rename_i i
    obtain ⟨z, hz, hq⟩ := g2
    cases rq
    cases rp with
    | tup e r =>
      obtain ⟨w, hw, rw'⟩ := atI_rep r hz
      exact thn (ix_tup a b pins s2 σ H2 _ _ v u (EPQ X B σ ρ F2 H2 m2 (fun z => Q z m2)) I2 rx ry ⟨_, _, i, w, rfl, rfl, same_t st2.sub e, hw, epq_now st2 rw' hq⟩ (hs _ _)) fun _ _ h => epg ex (epg_of h)
  · rename_i i
    obtain ⟨z, hz, hq⟩ := g2
    cases rq
    cases rp with
    | lst e r =>
      obtain ⟨w, hw, rw'⟩ := atI_rep r hz
      exact thn (ix_list a b pins s2 σ H2 _ _ v u (EPQ X B σ ρ F2 H2 m2 (fun z => Q z m2)) I2 rx ry ⟨_, _, i, w, rfl, rfl, SqL.of (st2.sub _ _ e), hw, epq_now st2 rw' hq⟩ (hs _ _)) fun _ _ h => epg ex (epg_of h)
  · rename_i i
    obtain ⟨z, hz, hq⟩ := g2
    cases rq
    cases rp with
    | scr e =>
      refine thn (ix_list a b pins s2 σ H2 _ _ v u (EPQ X B σ ρ F2 H2 m2 (fun z => Q z m2)) I2 rx ry ⟨_, _, i, .int z, rfl, rfl, st2.sub.seq e, ?_, epq_now st2 (.int _) hq⟩ (hs _ _)) fun _ _ h => epg ex (epg_of h)
      unfold atI at hz ⊢
      rw [List.length_map]
      revert hz
      generalize ixN _ i = o
      cases o with
      | none => intro hz; cases hz
      | some j => intro hz; simpa using hz
  · rename_i i
    obtain ⟨hl, c, hz, hq⟩ := g2
    cases rq
    cases rp
    exact thn (ix_str a b pins s2 σ H2 _ _ v u (EPQ X B σ ρ F2 H2 m2 (fun z => Q z m2)) I2 rx ry ⟨_, i, c, rfl, rfl, line6 hl, hz, epq_now st2 (.str _) hq⟩ (hs _ _)) fun _ _ h => epg ex (epg_of h)
  · exact g2.elim
/-- a slice's part -/
structure JO (X : Cx) (B : Bs) (e : Option Expr) (t : PEnv → Mem → (Option Int → Mem → Prop) → KX → Prop) : Prop where
  run : ∀ (R : PX), L2N.Takes X (WR X B R) → ∀ (pins : List (Addr × Obj)) (s : Shared) (σ : L2.St) (F H : Hp) (ρ : PEnv) (m : Mem) (Q : Option Int → Mem → Prop), Inv X pins σ H s → PSt X.w X.K B F σ H ρ m → t ρ m Q (R ρ) →
    wpAny (model X.prog X.w) X.A (evalPart e X.env) (fun u s' => ∃ o F' H' m', Inv X pins σ H' s' ∧ PSt X.w X.K B F' σ H' ρ m' ∧ Ext F H m F' H' m' ∧ IsPart u o ∧ Q o m') X.xe s
@[simp] def wNoPart : PEnv → Mem → (Option Int → Mem → Prop) → KX → Prop := fun _ m Q _ => Q none m
@[simp] def wPart (t : DE) : PEnv → Mem → (Option Int → Mem → Prop) → KX → Prop := fun ρ m Q R => t ρ m (fun p m1 => match p with | .int i => Q (some i) m1 | _ => False) R
theorem jo_none : JO X B none wNoPart := by
  refine ⟨fun R tk pins s σ F H ρ m Q I st h => ?_⟩
  rw [evalPart_none]
  exact wpAny_pure ⟨none, F, H, m, I, st, Ext.refl _ _ _, .none, h⟩
theorem jo_some {e : Expr} {t : DE} (he : JE X B e t) : JO X B (some e) (wPart t) := by
  refine ⟨fun R tk pins s σ F H ρ m Q I st h => ?_⟩
  rw [evalPart_some]
  refine thn (he.run R tk pins s σ F H ρ m _ I st h) fun u s1 ⟨x, p, F1, H1, m1, I1, st1, ex1, r1, rp1, q1⟩ => ?_
  simp only at q1
  split at q1
  · rename_i i
    cases rp1
    obtain ⟨t, rfl⟩ := r1
    exact ⟨some i, F1, H1, m1, I1, st1, ex1, .int i t, q1⟩
  · exact q1.elim
def cutP {α : Type} (xs : List α) (lo hi : Option Int) : List α := (xs.drop (HT.sIx xs.length 0 lo)).take (HT.sIx xs.length xs.length hi - HT.sIx xs.length 0 lo)
@[simp] def gSl (p : PV) (lo hi : Option Int) (Q : PV → Prop) : Prop := match p with
  | .tup a => Q (.tup (cutP a lo hi))
  | .lst a => Q (.lst (cutP a lo hi))
  | .str z => z.length ≤ 1000000 ∧ Q (.str (cutS z lo hi))
  | _ => False
@[simp] def wSl (t : DE) (tl th : PEnv → Mem → (Option Int → Mem → Prop) → KX → Prop) : DE := fun ρ m Q R => t ρ m (fun p m1 => tl ρ m1 (fun lo m2 => th ρ m2 (fun hi m3 => gSl p lo hi fun z => Q z m3) R) R) R
theorem sIx_le' (n d : Nat) (hd : d ≤ n) (o : Option Int) : HT.sIx n d o ≤ n := HT.sIx_le _ _ hd _
theorem cut_whole {α : Type} (xs : List α) (lo hi : Option Int) (h : HT.sIx xs.length 0 lo = 0 ∧ HT.sIx xs.length xs.length hi = xs.length) : cutP xs lo hi = xs := by
  unfold cutP
  rw [h.1, h.2]
  simp
theorem je_sl {e : Expr} {lo hi : Option Expr} {te : DE} {tl th} {p2 pos : Pos} (he : JE X B e te) (hl : JO X B lo tl) (hu : JO X B hi th) : JE X B (.Subscript e (.Slice lo hi none p2) pos) (wSl te tl th) := by
  refine ⟨fun R tk pins s σ F H ρ m Q I st h => ?_⟩
  refine Subscript_ (thn (he.run R tk pins s σ F H ρ m _ I st h) fun v s1 ⟨x, p, F1, H1, m1, I1, st1, ex1, r1, rp1, q1⟩ => ?_)
  refine wpAny_Slice (thn (hl.run R tk pins s1 σ F1 H1 ρ m1 _ I1 st1 q1) fun vl s2 ⟨l, F2, H2, m2, I2, st2, ex2, pl, q2⟩ => thn (hu.run R tk pins s2 σ F2 H2 ρ m2 _ I2 st2 q2) fun vu s3 ⟨u, F3, H3, m3, I3, st3, ex3, pu, q3⟩ => ?_)
  rw [evalPart_none]
  refine wpAny_pure ?_
  have I4 : Inv X pins σ H3 { s3 with heap := s3.heap.push { cls := .type "slice", data := .fields #[vl, vu, .none] } } := I3.kept (t' := s3.toks) fun b ob q => Heap.get?_push_of_some _ q
  have ex13 := (ex1.trans ex2).trans ex3
  have rp3 := rp1.mono (ex2.fz.trans ex3.fz)
  have go : ∀ {T : String} {id : String}, (typeLookup (.type T) "__getitem__" = pure (some (.builtin id)) ∧ ({ s3 with heap := s3.heap.push { cls := .type "slice", data := .fields #[vl, vu, .none] } } : Shared).TypeIs v T ∧
      wpAny (model X.prog X.w) X.A (getItem v (.ref s3.heap.objs.size)) (EP X pins σ (EPQ X B σ ρ F3 H3 m3 (fun z => Q z m3))) X.xe { s3 with heap := s3.heap.push { cls := .type "slice", data := .fields #[vl, vu, .none] } }) →
      wpAny (model X.prog X.w) X.A (subscriptTail e (.Slice lo hi none p2) v (.ref s3.heap.objs.size)) (EPP X B pins σ ρ F H m Q) X.xe { s3 with heap := s3.heap.push { cls := .type "slice", data := .fields #[vl, vu, .none] } } := fun {T id} ⟨hT, ht, hg⟩ =>
    thn (tail_any (ops := [.ref s3.heap.objs.size, v]) ht hT hg (by with_unfolding_all rfl)) fun _ _ h => epg ex13 (epg_of h)
  unfold gSl at q3
  split at q3
  · rename_i pps _ _
    cases rp3 with
    | @tup pa pxs _ e1 r =>
      have c1 : HT.sIx pxs.length 0 l = 0 ∧ HT.sIx pxs.length pxs.length u = pxs.length → EPQ X B σ ρ F3 H3 m3 (fun z => Q z m3) (.ref pa) H3 := fun hw => by
        rw [r.length] at hw
        rw [cut_whole _ _ _ hw] at q3
        exact epq_now st3 (.tup e1 r) q3
      have c3 : RepAll X.K F3 (cutV pxs l u) (cutP pps l u) := by
        unfold cutV cutP
        rw [r.length]
        exact (r.drop _).take _
      have c2 := epq_tup st3 (Q := fun z => Q z m3) c3 q3
      obtain ⟨T, id, hh⟩ := sl_tupA pins _ σ H3 _ v vl vu l u s3.heap.objs.size (EPQ X B σ ρ F3 H3 m3 (fun z => Q z m3)) I4 r1 (Heap.IsSliceOf.new ..) pl pu ⟨_, _, rfl, same_t st3.sub e1, c1, fun _ => c2⟩
      exact go hh
  · rename_i pps _ _
    cases rp3 with
    | @lst pa pxs _ e1 r =>
      have c3 : RepAll X.K F3 (cutV pxs l u) (cutP pps l u) := by
        unfold cutV cutP
        rw [r.length]
        exact (r.drop _).take _
      have c2 := epq_lst st3 (Q := fun z => Q z m3) c3 q3
      obtain ⟨T, id, hh⟩ := sl_list pins _ σ H3 _ v vl vu l u s3.heap.objs.size (EPQ X B σ ρ F3 H3 m3 (fun z => Q z m3)) I4 r1 (Heap.IsSliceOf.new ..) pl pu ⟨_, _, rfl, SqL.of (st3.sub _ _ e1), c2⟩
      exact go hh
  · cases rp3
    obtain ⟨T, id, hh⟩ := sl_str pins _ σ H3 _ v vl vu l u s3.heap.objs.size (EPQ X B σ ρ F3 H3 m3 (fun z => Q z m3)) I4 r1 (Heap.IsSliceOf.new ..) pl pu ⟨_, rfl, line6 q3.1, epq_now st3 (.str _) q3.2⟩
    exact go hh
  · exact q3.elim
end
end PL


namespace PL
open PySem PySem.Spec PyProof.Rows L2

/-! ### isinstance of a built-in type -/
def tyName : PV → Option String
  | .non => some "NoneType" | .bl _ => some "bool" | .int _ => some "int" | .str _ => some "str" | .tup _ => some "tuple" | .lst _ => some "list" | .scr _ => some "list" | .raw _ => none
@[simp] def isInt : PV → Bool
  | .int _ | .bl _ => true
  | _ => false
@[simp] def isBool : PV → Bool
  | .bl _ => true
  | _ => false
@[simp] def isStr : PV → Bool
  | .str _ => true
  | _ => false
@[simp] def isTup : PV → Bool
  | .tup _ => true
  | _ => false
@[simp] def isLst : PV → Bool
  | .lst _ | .scr _ => true
  | _ => false
def IsT (T : String) (f : PV → Bool) : Prop := ∀ p t, tyName p = some t → kitB t T = some (f p)
theorem isT_int : IsT "int" isInt := by intro p t h; cases p <;> cases h <;> first | exact (show kitB _ _ = some true by decide +kernel) | exact (show kitB _ _ = some false by decide +kernel)
theorem isT_bool : IsT "bool" isBool := by intro p t h; cases p <;> cases h <;> first | exact (show kitB _ _ = some true by decide +kernel) | exact (show kitB _ _ = some false by decide +kernel)
theorem isT_str : IsT "str" isStr := by intro p t h; cases p <;> cases h <;> first | exact (show kitB _ _ = some true by decide +kernel) | exact (show kitB _ _ = some false by decide +kernel)
theorem isT_tup : IsT "tuple" isTup := by intro p t h; cases p <;> cases h <;> first | exact (show kitB _ _ = some true by decide +kernel) | exact (show kitB _ _ = some false by decide +kernel)
theorem isT_lst : IsT "list" isLst := by intro p t h; cases p <;> cases h <;> first | exact (show kitB _ _ = some true by decide +kernel) | exact (show kitB _ _ = some false by decide +kernel)
theorem rep_ty {K : PySem.W.Frag} {F H : Hp} {x : V} {p : PV} {t : String} (e : Same F H) (r : Rep K F x p) (h : tyName p = some t) : TyX K H x (.type t) := by
  cases r with
  | non => cases h; exact .base .non
  | bl b => cases h; exact .base (.bl b)
  | int i => cases h; exact .base (.int i)
  | str x => cases h; exact .base (.str x)
  | tup q _ =>
    cases h
    rcases q with (q | ⟨o, q⟩) | ⟨o, _, _, q, c, _⟩
    · exact .base (.tup (e _ _ q))
    · exact .fTuple (e _ _ q)
    · exact .kTuple q c
  | lst q _ => cases h; exact .base (.lst (e _ _ q))
  | scr q =>
    cases h
    rcases q with (q | ⟨o, q⟩) | ⟨o, _, _, q, c, _⟩
    · exact .base (.lst (e _ _ q))
    · exact .base (.frz (e _ _ q))
    · exact .kList q c
  | raw v => cases h
section
variable {X : Cx} {B : Bs} {pos : Pos}
/-- f of a value that is no raw one -/
@[simp] def unRaw (f : PV → Prop) : PV → Prop
  | .raw _ => False
  | p => f p
theorem unRaw_of {f : PV → Prop} {p : PV} (h : unRaw f p) : ∃ t, tyName p = some t ∧ f p := by
  cases p <;> first | exact ⟨_, rfl, h⟩ | exact h.elim
@[simp] def wIsi (f : PV → Bool) (t : DE) : DE := fun ρ m Q R => t ρ m (fun p m1 => unRaw (fun p => Q (.bl (f p)) m1) p) R
theorem je_isi {T : String} {f : PV → Bool} {a : Expr} {y : Str} {p p2 : Pos} {ta : DE} (hT : IsT T f) (hm : X.mg "isinstance" = none) (hy : X.mg y = none) (ha : JE X B a ta) (hvy : bootBuiltins y = some (.type T) := by decide +kernel) (hg : Gl X "isinstance" := by rfl) (hgy : Gl X y := by rfl)
    (hny : y ≠ "__name__" := by decide) (hdy : (y == ("__debug__" : Str)) = false := by decide)
    (he : starEach [a, .Name y p2] X.env = (false, eval a X.env) :: starEach [.Name y p2] X.env := by rfl) :
    JE X B (.Call (.Name "isinstance" p) [a, .Name y p2] [] pos) (wIsi f ta) := by
  refine ⟨fun R tk pins s σ F H ρ m Q I st h => ?_⟩
  refine wpAny_Call_Name_kw (ld_blt (u := .builtin "isinstance") I hg hm (by decide +kernel) ?_ (by decide) (by decide))
  refine PyProof.Rows.callWith_builtin1 ?_ he (by rfl)
  rw [he]
  show wpAny _ _ (spliced ((false, eval a X.env) :: backTo pos (starEach [.Name y p2] X.env))) _ _ s
  refine Calls.spliced_cons (thn (ha.run R tk pins s σ F H ρ m _ I st h) fun u s1 ⟨x, pv, F1, H1, m1, I1, st1, ex1, r1, rp1, q1⟩ => ?_)
  show wpAny _ _ (spliced ((false, eval (.Name y p2) X.env) :: backTo pos (starEach [] X.env))) _ _ s1
  refine Calls.spliced_cons (ld_blt I1 hgy hy hvy ?_ hny hdy)
  refine Calls.spliced_nil ?_
  obtain ⟨t, ht, q⟩ := unRaw_of q1
  exact thn (call_isi pins s1 σ H1 [x, .ty T] [u, .type T] (EPQ X B σ ρ F1 H1 m1 (fun z => Q z m1)) I1 (.cons r1 (.cons rfl .nil)) ⟨x, .ty T, .type t, .type T, f pv, rfl, .ty T, rep_ty st1.sub rp1 ht, kit_ty (hT pv t ht), epq_now st1 (.bl _) q⟩) fun _ _ h => epg ex1 (epg_of h)

/-! ### len, list, tuple, int, max, min, all, any, sum -/
@[simp] def gLen : GC := fun ps Q => match ps with
  | [.lst xs] => Q (.int xs.length)
  | [.tup xs] => Q (.int xs.length)
  | [.scr ns] => Q (.int ns.length)
  | [.str z] => z.length ≤ 1000000 ∧ Q (.int z.length)
  | _ => False
theorem rep1 {K : PySem.W.Frag} {F : Hp} {vs : List V} {p : PV} (r : RepAll K F vs [p]) : ∃ v, vs = [v] ∧ Rep K F v p := by
  cases r with
  | cons r t => cases t; exact ⟨_, rfl, r⟩
theorem rep2 {K : PySem.W.Frag} {F : Hp} {vs : List V} {p q : PV} (r : RepAll K F vs [p, q]) : ∃ v u, vs = [v, u] ∧ Rep K F v p ∧ Rep K F u q := by
  cases r with
  | cons r t =>
    cases t with
    | cons r2 t => cases t; exact ⟨_, _, rfl, r, r2⟩
theorem c_len : OpC X (.builtin "len") gLen := by
  intro B pins s σ F H ρ m xs us ps Q I st rv rp hg
  unfold gLen at hg
  split at hg
  · obtain ⟨v, rfl, r⟩ := rep1 rp
    cases r with
    | lst e r => exact thn (call_len pins s σ H _ us (EPQ X B σ ρ F H m Q) I rv ⟨_, _, rfl, .inl ⟨_, SqL.of (st.sub _ _ e), rfl⟩, epq_now st (.int _) (by rw [r.length]; exact hg)⟩) fun _ _ h => epg_of h
  · obtain ⟨v, rfl, r⟩ := rep1 rp
    cases r with
    | tup e r => exact thn (call_len pins s σ H _ us (EPQ X B σ ρ F H m Q) I rv ⟨_, _, rfl, .inr ⟨_, same_t st.sub e, rfl⟩, epq_now st (.int _) (by rw [r.length]; exact hg)⟩) fun _ _ h => epg_of h
  · obtain ⟨v, rfl, r⟩ := rep1 rp
    cases r with
    | scr e => exact thn (call_len pins s σ H _ us (EPQ X B σ ρ F H m Q) I rv ⟨_, _, rfl, .inl ⟨_, st.sub.seq e, rfl⟩, epq_now st (.int _) (by rw [List.length_map]; exact hg)⟩) fun _ _ h => epg_of h
  · obtain ⟨v, rfl, r⟩ := rep1 rp
    cases r
    exact thn (call_len pins s σ H _ us (EPQ X B σ ρ F H m Q) I rv ⟨_, _, rfl, ⟨line6 hg.1, rfl⟩, epq_now st (.int _) hg.2⟩) fun _ _ h => epg_of h
  · exact hg.elim
@[simp] def gList : GC := fun ps Q => match ps with
  | [.lst xs] => Q (.lst xs)
  | [.tup xs] => Q (.lst xs)
  | _ => False
theorem c_list : OpC X (.type "list") gList := by
  intro B pins s σ F H ρ m xs us ps Q I st rv rp hg
  unfold gList at hg
  split at hg
  · obtain ⟨v, rfl, r⟩ := rep1 rp
    cases r with
    | lst e r => exact thn (call_list_of pins s σ H _ us (EPQ X B σ ρ F H m Q) I rv ⟨_, _, rfl, .inl (SqL.of (st.sub _ _ e)), epq_lst st r hg⟩) fun _ _ h => epg_of h
  · obtain ⟨v, rfl, r⟩ := rep1 rp
    cases r with
    | tup e r => exact thn (call_list_of pins s σ H _ us (EPQ X B σ ρ F H m Q) I rv ⟨_, _, rfl, .inr (same_t st.sub e), epq_lst st r hg⟩) fun _ _ h => epg_of h
  · exact hg.elim
@[simp] def gTuple : GC := fun ps Q => match ps with
  | [.lst xs] => Q (.tup xs)
  | [.tup xs] => Q (.tup xs)
  | _ => False
theorem c_tuple : OpC X (.type "tuple") gTuple := by
  intro B pins s σ F H ρ m xs us ps Q I st rv rp hg
  unfold gTuple at hg
  split at hg
  · obtain ⟨v, rfl, r⟩ := rep1 rp
    cases r with
    | lst e r => exact thn (call_tuple_of pins s σ H _ us (EPQ X B σ ρ F H m Q) I rv ⟨_, _, rfl, .inl ⟨SqL.of (st.sub _ _ e), epq_tup st r hg⟩⟩) fun _ _ h => epg_of h
  · obtain ⟨v, rfl, r⟩ := rep1 rp
    cases r with
    | tup e r => exact thn (call_tuple_of pins s σ H _ us (EPQ X B σ ρ F H m Q) I rv ⟨_, _, rfl, .inr ⟨same_t st.sub e, epq_now st (.tup e r) hg⟩⟩) fun _ _ h => epg_of h
  · exact hg.elim
@[simp] def gInt : GC := fun ps Q => match ps with
  | [.int i] => Q (.int i)
  | [.bl b] => Q (.int (if b then 1 else 0))
  | _ => False
theorem c_int : OpC X (.type "int") gInt := by
  intro B pins s σ F H ρ m xs us ps Q I st rv rp hg
  unfold gInt at hg
  split at hg
  · obtain ⟨v, rfl, r⟩ := rep1 rp
    cases r
    exact thn (call_int1 pins s σ H _ us (EPQ X B σ ρ F H m Q) I rv (.inl ⟨_, rfl, epq_now st (.int _) hg⟩)) fun _ _ h => epg_of h
  · obtain ⟨v, rfl, r⟩ := rep1 rp
    cases r
    exact thn (call_int1 pins s σ H _ us (EPQ X B σ ρ F H m Q) I rv (.inr ⟨_, rfl, epq_now st (.int _) hg⟩)) fun _ _ h => epg_of h
  · exact hg.elim
/-- the ints of a list of ints -/
def intsOf : List PV → Option (List Int)
  | [] => some []
  | .int i :: ps => (intsOf ps).map (i :: ·)
  | _ :: _ => none
theorem intsOf_rep {K : PySem.W.Frag} {F : Hp} : ∀ {xs : List V} {ps : List PV} {ns : List Int}, RepAll K F xs ps → intsOf ps = some ns → xs = ns.map V.int
  | _, _, _, .nil, h => by simp [intsOf] at h; subst h; rfl
  | _, _, ns, .cons (p := p) r t, h => by
    cases p <;> simp only [intsOf] at h <;> try cases h
    rename_i i
    cases e : intsOf _ with
    | none => rw [e] at h; cases h
    | some ms =>
      rw [e] at h
      simp at h
      subst h
      cases r
      simp [intsOf_rep t e]
def blsOf : List PV → Option (List Bool)
  | [] => some []
  | .bl i :: ps => (blsOf ps).map (i :: ·)
  | _ :: _ => none
theorem blsOf_rep {K : PySem.W.Frag} {F : Hp} : ∀ {xs : List V} {ps : List PV} {ns : List Bool}, RepAll K F xs ps → blsOf ps = some ns → xs = ns.map V.bl
  | _, _, _, .nil, h => by simp [blsOf] at h; subst h; rfl
  | _, _, ns, .cons (p := p) r t, h => by
    cases p <;> simp only [blsOf] at h <;> try cases h
    rename_i i
    cases e : blsOf _ with
    | none => rw [e] at h; cases h
    | some ms =>
      rw [e] at h
      simp at h
      subst h
      cases r
      simp [blsOf_rep t e]
@[simp] def gMax : GC := fun ps Q => match ps with
  | [.int i, .int j] => Q (.int (if j > i then j else i))
  | [.lst xs] => ∃ ns, intsOf xs = some ns ∧ 0 < ns.length ∧ ∀ k, k ∈ ns → (∀ y, y ∈ ns → y ≤ k) → Q (.int k)
  | _ => False
theorem c_max (hc : X.calm = true) : OpC X (.builtin "max") gMax := by
  intro B pins s σ F H ρ m xs us ps Q I st rv rp hg
  unfold gMax at hg
  split at hg
  · obtain ⟨v, u, rfl, r1, r2⟩ := rep2 rp
    cases r1; cases r2
    exact thn (call_max2 hc pins s σ H _ us (EPQ X B σ ρ F H m Q) I rv ⟨_, _, rfl, epq_now st (.int _) hg⟩) fun _ _ h => epg_of h
  · obtain ⟨v, rfl, r⟩ := rep1 rp
    obtain ⟨ns, hn, hl, hq⟩ := hg
    cases r with
    | lst e r =>
      have e2 := intsOf_rep r hn
      subst e2
      exact thn (cr_max hc pins s σ H _ us (EPQ X B σ ρ F H m Q) I rv ⟨_, ns, rfl, SqL.of (st.sub _ _ e), hl, fun k h1 h2 => epq_now st (.int _) (hq k h1 h2)⟩) fun _ _ h => epg_of h
  · exact hg.elim
@[simp] def gMin : GC := fun ps Q => match ps with
  | [.int i, .int j] => Q (.int (if j < i then j else i))
  | [.lst xs] => ∃ ns, intsOf xs = some ns ∧ 0 < ns.length ∧ ∀ k, k ∈ ns → (∀ y, y ∈ ns → k ≤ y) → Q (.int k)
  | _ => False
theorem c_min (hc : X.calm = true) : OpC X (.builtin "min") gMin := by
  intro B pins s σ F H ρ m xs us ps Q I st rv rp hg
  unfold gMin at hg
  split at hg
  · obtain ⟨v, u, rfl, r1, r2⟩ := rep2 rp
    cases r1; cases r2
    exact thn (call_min2 hc pins s σ H _ us (EPQ X B σ ρ F H m Q) I rv ⟨_, _, rfl, epq_now st (.int _) hg⟩) fun _ _ h => epg_of h
  · obtain ⟨v, rfl, r⟩ := rep1 rp
    obtain ⟨ns, hn, hl, hq⟩ := hg
    cases r with
    | lst e r =>
      have e2 := intsOf_rep r hn
      subst e2
      exact thn (cr_min hc pins s σ H _ us (EPQ X B σ ρ F H m Q) I rv ⟨_, ns, rfl, SqL.of (st.sub _ _ e), hl, fun k h1 h2 => epq_now st (.int _) (hq k h1 h2)⟩) fun _ _ h => epg_of h
  · exact hg.elim
@[simp] def gBls (f : List Bool → Bool) : GC := fun ps Q => match ps with
  | [.lst xs] => ∃ bs, blsOf xs = some bs ∧ Q (.bl (f bs))
  | _ => False
theorem c_all (hc : X.calm = true) : OpC X (.builtin "all") (gBls fun bs => bs.all id) := by
  intro B pins s σ F H ρ m xs us ps Q I st rv rp hg
  unfold gBls at hg
  split at hg
  · obtain ⟨v, rfl, r⟩ := rep1 rp
    obtain ⟨bs, hn, hq⟩ := hg
    cases r with
    | lst e r =>
      have e2 := blsOf_rep r hn
      subst e2
      exact thn (cr_all hc pins s σ H _ us (EPQ X B σ ρ F H m Q) I rv ⟨_, bs, rfl, SqL.of (st.sub _ _ e), epq_now st (.bl _) hq⟩) fun _ _ h => epg_of h
  · exact hg.elim
theorem c_any (hc : X.calm = true) : OpC X (.builtin "any") (gBls fun bs => bs.any id) := by
  intro B pins s σ F H ρ m xs us ps Q I st rv rp hg
  unfold gBls at hg
  split at hg
  · obtain ⟨v, rfl, r⟩ := rep1 rp
    obtain ⟨bs, hn, hq⟩ := hg
    cases r with
    | lst e r =>
      have e2 := blsOf_rep r hn
      subst e2
      exact thn (cr_any hc pins s σ H _ us (EPQ X B σ ρ F H m Q) I rv ⟨_, bs, rfl, SqL.of (st.sub _ _ e), epq_now st (.bl _) hq⟩) fun _ _ h => epg_of h
  · exact hg.elim
@[simp] def gSum : GC := fun ps Q => match ps with
  | [.lst xs] => ∃ ns, intsOf xs = some ns ∧ Q (.int ns.sum)
  | _ => False
theorem c_sum (hc : X.calm = true) : OpC X (.builtin "sum") gSum := by
  intro B pins s σ F H ρ m xs us ps Q I st rv rp hg
  unfold gSum at hg
  split at hg
  · obtain ⟨v, rfl, r⟩ := rep1 rp
    obtain ⟨ns, hn, hq⟩ := hg
    cases r with
    | lst e r =>
      have e2 := intsOf_rep r hn
      subst e2
      exact thn (cr_sum hc pins s σ H _ us (EPQ X B σ ρ F H m Q) I rv ⟨_, ns, rfl, SqL.of (st.sub _ _ e), epq_now st (.int _) hq⟩) fun _ _ h => epg_of h
  · exact hg.elim
end
end PL


namespace PL
open PySem PySem.Spec PyProof.Rows L2

section
variable {X : Cx} {B : Bs} {pins : List (Addr × Obj)} {F H : Hp} {σ : L2.St} {ρ : PEnv} {m : Mem}
/-- the state without the frame's slots -/
structure GSt (w : World) (K : PySem.W.Frag) (B : Bs) (F H : Hp) (m : Mem) : Prop where
  sub : Same F H
  nt : ∀ a o, F a = some o → noTbl o
  mem : ∀ a c, m a = some c → F a = none ∧ RepC K F H a c
  ext : Ext B.F B.H B.m F H m
  tab : LamX.Tabs B.T H
theorem PSt.g {w : World} {K : PySem.W.Frag} (st : PSt w K B F σ H ρ m) : GSt w K B F H m := ⟨st.sub, st.nt, st.mem, st.ext, st.tab⟩
def SPP (X : Cx) (B : Bs) (pins : List (Addr × Obj)) (F : Hp) (D : PEnds) (f : Flow) (s' : Shared) : Prop := match f with
  | .next => ∃ σ' F' H' ρ' m', Inv X pins σ' H' s' ∧ PSt X.w X.K B F' σ' H' ρ' m' ∧ Same F F' ∧ D.nx ρ' m'
  | .brk => ∃ σ' F' H' ρ' m', Inv X pins σ' H' s' ∧ PSt X.w X.K B F' σ' H' ρ' m' ∧ Same F F' ∧ D.bk ρ' m'
  | .cont => ∃ σ' F' H' ρ' m', Inv X pins σ' H' s' ∧ PSt X.w X.K B F' σ' H' ρ' m' ∧ Same F F' ∧ D.ct ρ' m'
  | .ret u => ∃ v p σ' F' H' m', Inv X pins σ' H' s' ∧ GSt X.w X.K B F' H' m' ∧ RelV v u ∧ Rep X.K F' v p ∧ D.rt p m'
structure JS (X : Cx) (B : Bs) (st : Stmt) (t : DS) : Prop where
  run : ∀ (D : PEnds), L2N.Takes X (WR X B D.ex) → ∀ (pins : List (Addr × Obj)) (s : Shared) (σ : L2.St) (F H : Hp) (ρ : PEnv) (m : Mem), Inv X pins σ H s → PSt X.w X.K B F σ H ρ m → t ρ m D →
    wpAny (model X.prog X.w) X.A (exec st X.env) (SPP X B pins F D) X.xe s
structure JB (X : Cx) (B : Bs) (st : List Stmt) (t : DS) : Prop where
  run : ∀ (D : PEnds), L2N.Takes X (WR X B D.ex) → ∀ (pins : List (Addr × Obj)) (s : Shared) (σ : L2.St) (F H : Hp) (ρ : PEnv) (m : Mem), Inv X pins σ H s → PSt X.w X.K B F σ H ρ m → t ρ m D →
    wpAny (model X.prog X.w) X.A (execs st X.env) (SPP X B pins F D) X.xe s
theorem SPP.mono {F0 : Hp} {D : PEnds} {f : Flow} {s' : Shared} (e : Same F0 F) (h : SPP X B pins F D f s') : SPP X B pins F0 D f s' := by
  cases f with
  | next => obtain ⟨σ', F', H', ρ', m', I, st, e2, q⟩ := h; exact ⟨σ', F', H', ρ', m', I, st, e.trans e2, q⟩
  | brk => obtain ⟨σ', F', H', ρ', m', I, st, e2, q⟩ := h; exact ⟨σ', F', H', ρ', m', I, st, e.trans e2, q⟩
  | cont => obtain ⟨σ', F', H', ρ', m', I, st, e2, q⟩ := h; exact ⟨σ', F', H', ρ', m', I, st, e.trans e2, q⟩
  | ret u => exact h

/-! ### blocks -/
@[simp] def wNext : DS := fun ρ m D => D.nx ρ m
@[simp] def wSeq (t u : DS) : DS := fun ρ m D => t ρ m { D with nx := fun ρ' m' => u ρ' m' D }
theorem jb_nil : JB X B [] wNext := ⟨fun D tk pins s σ F H ρ m I st h => wpAny_execs_nil ⟨σ, F, H, ρ, m, I, st, Same.refl F, h⟩⟩
theorem jb_cons {st : Stmt} {rest : List Stmt} {t u : DS} (h1 : JS X B st t) (h2 : JB X B rest u) : JB X B (st :: rest) (wSeq t u) := by
  refine ⟨fun D tk pins s σ F H ρ m I st h => ?_⟩
  refine wpAny_execs_cons (thn (h1.run { D with nx := fun ρ' m' => u ρ' m' D } tk pins s σ F H ρ m I st h) fun f s1 q => ?_)
  cases f with
  | next =>
    obtain ⟨σ', F', H', ρ', m', I', st', e, q⟩ := q
    exact thn (h2.run D tk pins s1 σ' F' H' ρ' m' I' st' q) fun f s2 q2 => q2.mono e
  | ret v => exact q
  | brk => exact q
  | cont => exact q
theorem jb_one {st : Stmt} {t : DS} (h1 : JS X B st t) : JB X B [st] t := by
  refine ⟨fun D tk pins s σ F H ρ m I st h => ?_⟩
  refine wpAny_execs_cons (thn (h1.run D tk pins s σ F H ρ m I st h) fun f s1 q => ?_)
  cases f with
  | next => exact wpAny_execs_nil q
  | ret v => exact q
  | brk => exact q
  | cont => exact q
/-- a ghost step: what is known is told otherwise -/
theorem jb_ghost {sts : List Stmt} {t u : DS} (h2 : JB X B sts u) (h : ∀ (D : PEnds) (pins : List (Addr × Obj)) (s : Shared) (σ : L2.St) (F H : Hp) (ρ : PEnv) (m : Mem), Inv X pins σ H s → PSt X.w X.K B F σ H ρ m → t ρ m D → ∃ F' ρ' m', PSt X.w X.K B F' σ H ρ' m' ∧ Same F F' ∧ u ρ' m' D) : JB X B sts t := by
  refine ⟨fun D tk pins s σ F H ρ m I st hw => ?_⟩
  obtain ⟨F', ρ', m', st', e, hu⟩ := h D pins s σ F H ρ m I st hw
  exact thn (h2.run D tk pins s σ F' H ρ' m' I st' hu) fun f s2 q2 => q2.mono e
@[simp] def wPass : DS := wNext
theorem js_pass {pos : Pos} : JS X B (.Pass pos) wNext := ⟨fun D tk pins s σ F H ρ m I st h => wpAny_Pass ⟨σ, F, H, ρ, m, I, st, Same.refl F, h⟩⟩
@[simp] def wBreak : DS := fun ρ m D => D.bk ρ m
@[simp] def wCont : DS := fun ρ m D => D.ct ρ m
theorem js_break {pos : Pos} : JS X B (.Break pos) wBreak := ⟨fun D tk pins s σ F H ρ m I st h => wpAny_Break ⟨σ, F, H, ρ, m, I, st, Same.refl F, h⟩⟩
theorem js_cont {pos : Pos} : JS X B (.Continue pos) wCont := ⟨fun D tk pins s σ F H ρ m I st h => wpAny_Continue ⟨σ, F, H, ρ, m, I, st, Same.refl F, h⟩⟩
variable {e : Expr} {te : DE} {pos : Pos}
@[simp] def wDrop (te : DE) : DS := fun ρ m D => te ρ m (fun _ m1 => D.nx ρ m1) (D.ex ρ)
theorem js_expr (he : JE X B e te) (hs : swapsWith e none pos.line X.env = pure false := by rfl) : JS X B (.Expr e pos) (wDrop te) := by
  refine ⟨fun D tk pins s σ F H ρ m I st h => ?_⟩
  exact wpAny_Expr_any (thn (he.run D.ex tk pins s σ F H ρ m _ I st h) fun v s1 ⟨x, p, F1, H1, m1, I1, st1, ex1, r1, rp1, q1⟩ => ⟨σ, F1, H1, ρ, m1, I1, st1, ex1.fz, q1⟩) I.quiet hs
@[simp] def wRet (te : DE) : DS := fun ρ m D => te ρ m D.rt (D.ex ρ)
theorem js_ret (he : JE X B e te) : JS X B (.Return (some e) pos) (wRet te) := by
  refine ⟨fun D tk pins s σ F H ρ m I st h => ?_⟩
  exact wpAny_Return_some (thn (he.run D.ex tk pins s σ F H ρ m _ I st h) fun v s1 ⟨x, p, F1, H1, m1, I1, st1, ex1, r1, rp1, q1⟩ => ⟨x, p, σ, F1, H1, m1, I1, st1.g, r1, rp1, q1⟩)
@[simp] def wIfS (c : DT) (t u : DS) : DS := fun ρ m D => c ρ m (fun b m1 => match b with | true => t ρ m1 D | false => u ρ m1 D) (D.ex ρ)
theorem js_if {c : Expr} {a b : List Stmt} {tc : DT} {t u : DS} (hc : JT X B c tc) (ha : JB X B a t) (hb : JB X B b u) : JS X B (.If c a b pos) (wIfS tc t u) := by
  refine ⟨fun D tk pins s σ F H ρ m I st h => ?_⟩
  refine wpAny_If (thn (hc.run D.ex tk pins s σ F H ρ m _ I st h) fun d s1 ⟨F1, H1, m1, I1, st1, ex1, q1⟩ => ?_)
  cases d with
  | true => exact thn (ha.run D tk pins s1 σ F1 H1 ρ m1 I1 st1 q1) fun f s2 q2 => q2.mono ex1.fz
  | false => exact thn (hb.run D tk pins s1 σ F1 H1 ρ m1 I1 st1 q1) fun f s2 q2 => q2.mono ex1.fz

/-! ### assignments -/
theorem set_ne' {α : Type} {l : List α} {i j : Nat} {a b : α} (h : i ≠ j) (e : (l.set i a)[j]? = some b) : l[j]? = some b := by rw [List.getElem?_set_ne h] at e; exact e
/-- a slot gets a value -/
theorem PSt.put {w : World} {K : PySem.W.Frag} {i : Nat} {v : V} {p : PV} (st : PSt w K B F σ H ρ m) (hi : i < σ.length) (rp : Rep K F v p) : PSt w K B F (σ.set i (some v)) H (put ρ i (some (.val p))) m := by
  rw [put_set]
  refine ⟨by rw [List.length_set, List.length_set]; exact st.len, st.sub, st.nt, fun j q h => ?_, fun j o h => ?_, fun j k o o' a hjk h1 h2 h3 => ?_, st.mem, st.ext, st.tab⟩
  · by_cases hj : i = j
    · subst hj
      rw [List.getElem?_set_self (by rw [st.len]; exact hi)] at h
      cases h
      exact ⟨v, by rw [List.getElem?_set_self hi], rp⟩
    · rw [List.getElem?_set_ne hj]
      exact st.val j q (set_ne' hj h)
  · have hj : i ≠ j := by
      rintro rfl
      rw [List.getElem?_set_self (by rw [st.len]; exact hi)] at h
      cases h
    rw [List.getElem?_set_ne hj]
    exact st.own j o (set_ne' hj h)
  · have hj : i ≠ j := by
      rintro rfl
      rw [List.getElem?_set_self (by rw [st.len]; exact hi)] at h1
      cases h1
    have hk : i ≠ k := by
      rintro rfl
      rw [List.getElem?_set_self (by rw [st.len]; exact hi)] at h2
      cases h2
    rw [List.getElem?_set_ne hj] at h3
    rw [List.getElem?_set_ne hk]
    exact st.apart j k o o' a hjk (set_ne' hj h1) (set_ne' hk h2) h3
theorem slot_lt {w : World} {K : PySem.W.Frag} {i : Nat} {x : Str} {s : Shared} (I : Inv X pins σ H s) (hi : X.N[i]? = some x) : i < σ.length := by rw [I.len]; exact (List.getElem?_eq_some_iff.mp hi).1
@[simp] def wSet (i : Nat) (te : DE) : DS := fun ρ m D => te ρ m (fun p m1 => D.nx (put ρ i (some (.val p))) m1) (D.ex ρ)
theorem js_set {x : Str} {pos' : Pos} (i : Nat) (hN : X.N.Nodup) (he : JE X B e te) (hi : X.N[i]? = some x := by rfl) (hx : Loc X.env.scope x := by first | exact Or.inl rfl | exact Or.inr rfl) (hs : swapsWith e (some (.Name x pos')) pos.line X.env = pure false := by rfl) (hf : X.fn x = true ∨ X.env.scope.names.lookup x = some .local := by first | exact .inl rfl | exact .inr rfl | assumption) :
    JS X B (.Assign [.Name x pos'] e pos) (wSet i te) := by
  refine ⟨fun D tk pins s σ F H ρ m I st h => ?_⟩
  refine wpAny_Assign_Name (thn (he.run D.ex tk pins s σ F H ρ m _ I st h) fun v s1 ⟨y, p, F1, H1, m1, I1, st1, ex1, r1, rp1, q1⟩ => ?_) hs
  exact store_ok I1 hN hi hx r1 (fun s2 I2 => ⟨_, F1, H1, _, m1, I2, st1.put (slot_lt (w := X.w) (K := X.K) I1 hi) rp1, ex1.fz, q1⟩) hf
/-! targets -/
abbrev DG := PV → PEnv → (PEnv → Prop) → Prop
abbrev DGs := List PV → PEnv → (PEnv → Prop) → Prop
/-- the slots at vs forgotten make the two alike -/
def Wip (is : List Nat) (σ σ' : L2.St) : Prop := ∀ vs : List Nat, (∀ i ∈ is, i ∈ vs) → wipe σ' vs = wipe σ vs
theorem wipe_set {i : Nat} {v : Option V} : ∀ {vs : List Nat} {σ : L2.St}, i ∈ vs → wipe (σ.set i v) vs = wipe σ vs
  | [], _, h => by simp at h
  | j :: vs, σ, h => by
    by_cases hj : i ∈ vs
    · simp only [wipe]
      rw [wipe_set hj]
    · have e : i = j := by
        rcases List.mem_cons.mp h with e | e
        · exact e
        · exact absurd e hj
      subst e
      simp only [wipe]
      have h2 : ∀ (vs : List Nat) (σ : L2.St), i ∉ vs → wipe (σ.set i v) vs = (wipe σ vs).set i v := by
        intro vs
        induction vs with
        | nil => intro σ _; rfl
        | cons k vs ih =>
          intro σ hk
          simp only [List.mem_cons, not_or] at hk
          simp only [wipe]
          rw [ih _ hk.2, List.set_comm _ _ hk.1]
      rw [h2 vs σ hj, List.set_set]
structure JG (X : Cx) (B : Bs) (target : Expr) (is : List Nat) (t : DG) : Prop where
  run : ∀ (pins : List (Addr × Obj)) (s : Shared) (σ : L2.St) (F H : Hp) (ρ : PEnv) (m : Mem) (v : V) (u : Value) (p : PV) (Q : PEnv → Prop), Inv X pins σ H s → PSt X.w X.K B F σ H ρ m → RelV v u → Rep X.K F v p → t p ρ Q →
    wpAny (model X.prog X.w) X.A (assign target X.env u) (fun _ s' => ∃ σ' ρ', Inv X pins σ' H s' ∧ PSt X.w X.K B F σ' H ρ' m ∧ Wip is σ σ' ∧ Q ρ') X.xe s
structure JGs (X : Cx) (B : Bs) (ts : List Expr) (is : List Nat) (t : DGs) : Prop where
  run : ∀ (pins : List (Addr × Obj)) (s : Shared) (σ : L2.St) (F H : Hp) (ρ : PEnv) (m : Mem) (vs : List V) (us : List Value) (ps : List PV) (Q : PEnv → Prop), Inv X pins σ H s → PSt X.w X.K B F σ H ρ m → Vals vs us → RepAll X.K F vs ps → t ps ρ Q →
    wpAny (model X.prog X.w) X.A (assignInOrder ((assignEach ts X.env).map (·.2)) us) (fun _ s' => ∃ σ' ρ', Inv X pins σ' H s' ∧ PSt X.w X.K B F σ' H ρ' m ∧ Wip is σ σ' ∧ Q ρ') X.xe s
@[simp] def gN (i : Nat) : DG := fun p ρ Q => Q (put ρ i (some (.val p)))
theorem jg_name {x : Str} {pos' : Pos} (i : Nat) (hN : X.N.Nodup) (hi : X.N[i]? = some x := by rfl) (hx : Loc X.env.scope x := by first | exact Or.inl rfl | exact Or.inr rfl) (hf : X.fn x = true ∨ X.env.scope.names.lookup x = some .local := by first | exact .inl rfl | exact .inr rfl | assumption) : JG X B (.Name x pos') [i] (gN i) := by
  refine ⟨fun pins s σ F H ρ m v u p Q I st r rp h => ?_⟩
  exact wpAny_assign_Name (store_ok I hN hi hx r (fun s' I' => ⟨_, _, I', st.put (slot_lt (w := X.w) (K := X.K) I hi) rp, fun vs hv => wipe_set (hv i (by simp)), h⟩) hf)
@[simp] def gsNil : DGs := fun ps ρ Q => match ps with
  | [] => Q ρ
  | _ => False
@[simp] def gsCons (t : DG) (u : DGs) : DGs := fun ps ρ Q => match ps with
  | p :: r => t p ρ fun ρ' => u r ρ' Q
  | [] => False
theorem jgs_nil : JGs X B [] [] gsNil := by
  refine ⟨fun pins s σ F H ρ m vs us ps Q I st r rp h => ?_⟩
  unfold gsNil at h
  split at h
  · cases rp; cases r
    exact assignInOrder_nil ⟨σ, ρ, I, st, fun _ _ => rfl, h⟩
  · exact h.elim
theorem jgs_cons {e : Expr} {es : List Expr} {is js : List Nat} {t : DG} {u : DGs} (h1 : JG X B e is t) (h2 : JGs X B es js u)
    (hs : (assignEach (e :: es) X.env).map (·.2) = assign e X.env :: (assignEach es X.env).map (·.2) := by rfl) : JGs X B (e :: es) (is ++ js) (gsCons t u) := by
  refine ⟨fun pins s σ F H ρ m vs us ps Q I st r rp h => ?_⟩
  unfold gsCons at h
  split at h
  · cases rp with
    | cons rp1 rp2 =>
      cases r with
      | cons r1 r2 =>
        rw [hs]
        refine assignInOrder_cons (thn (h1.run pins s σ F H ρ m _ _ _ _ I st r1 rp1 h) fun _ s1 ⟨σ1, ρ1, I1, st1, w1, q1⟩ => ?_)
        exact thn (h2.run pins s1 σ1 F H ρ1 m _ _ _ Q I1 st1 r2 rp2 q1) fun _ s2 ⟨σ2, ρ2, I2, st2, w2, q2⟩ => ⟨σ2, ρ2, I2, st2, fun vs hv => (w2 vs fun i hi => hv i (List.mem_append_right _ hi)).trans (w1 vs fun i hi => hv i (List.mem_append_left _ hi)), q2⟩
  · exact h.elim
@[simp] def gT (n : Nat) (t : DGs) : DG := fun p ρ Q => match p with
  | .tup ps => ps.length = n ∧ t ps ρ Q
  | _ => False
theorem jg_tup {es : List Expr} {is : List Nat} {k : Nat} {t : DGs} {n : Nat} (hc : X.calm = true) (h : JGs X B es is t)
    (hn : (assignEach es X.env).length = n := by rfl) (hst : (assignEach es X.env).findIdx? (·.1) = none := by rfl) : JG X B (.Tuple es k pos) is (gT n t) := by
  refine ⟨fun pins s σ F H ρ m v u p Q I st r rp hw => ?_⟩
  unfold gT at hw
  split at hw
  · obtain ⟨hl, hw⟩ := hw
    cases rp with
    | tup e rr =>
      cases r
      obtain ⟨its, rv, ht, hz⟩ := I.tuple (same_t st.sub e)
      refine assign_Tuple_tuple (I.ok.hd hc) ht (by simp [hn, ← hl, ← rr.length, rv.length]) hst fun h' hx => ?_
      have I1 : Inv X pins σ H { s with heap := h' } := I.kept (t' := s.toks) fun b o e => hx b o (Nat.ne_of_lt (Heap.lt_size e)) e
      exact h.run pins _ σ F H ρ m _ _ _ Q I1 st (by simpa using rv) rr hw
  · exact hw.elim
/-- target = value -/
@[simp] def wAsg (te : DE) (g : DG) : DS := fun ρ m D => te ρ m (fun p m1 => g p ρ fun ρ' => D.nx ρ' m1) (D.ex ρ)
theorem js_asg {tg : Expr} {is : List Nat} {g : DG} (he : JE X B e te) (hg : JG X B tg is g) (hs : swapsWithSole [tg] e pos.line X.env = pure false := by rfl) (hw : swappedStores [tg] e X.env = pure none := by rfl)
    (h1 : (assignEach [tg] X.env).map (·.2) = [assign tg X.env] := by rfl) : JS X B (.Assign [tg] e pos) (wAsg te g) := by
  refine ⟨fun D tk pins s σ F H ρ m I st h => ?_⟩
  refine wpAny_Assign_stores (thn (he.run D.ex tk pins s σ F H ρ m _ I st h) fun v s1 ⟨x, p, F1, H1, m1, I1, st1, ex1, r1, rp1, q1⟩ => ?_) hs hw
  rw [h1]
  exact thn (hg.run pins s1 σ F1 H1 ρ m1 x v p _ I1 st1 r1 rp1 q1) fun _ s2 ⟨σ2, ρ2, I2, st2, _, q2⟩ => ⟨σ2, F1, H1, ρ2, m1, I2, st2, ex1.fz, q2⟩
/-- a, b = x, y with two plain local names -/
@[simp] def wPar (i j : Nat) (ta : DA) : DS := fun ρ m D => ta ρ m (fun ps m1 => match ps with
  | [p, q] => D.nx (put (put ρ i (some (.val p))) j (some (.val q))) m1
  | _ => False) (D.ex ρ)
theorem js_par {x y : Str} {a b : Expr} {ta : DA} {px py pt : Pos} {kt k2 pt2} (i j : Nat) (hc : X.calm = true) (hN : X.N.Nodup) (ha : JA X B [a, b] ta) (hi : X.N[i]? = some x := by rfl) (hj : X.N[j]? = some y := by rfl) (hij : i ≠ j := by decide)
    (hx : X.env.scope.names.lookup x = some .local := by rfl) (hy : X.env.scope.names.lookup y = some .local := by rfl)
    (hw : swappedStores [.Tuple [.Name x px, .Name y py] kt pt] (.Tuple [a, b] k2 pt2) X.env = pure (some [x, y]) := by rfl)
    (hs : swapsWithSole [.Tuple [.Name x px, .Name y py] kt pt] (.Tuple [a, b] k2 pt2) pos.line X.env = pure false := by rfl) :
    JS X B (.Assign [.Tuple [.Name x px, .Name y py] kt pt] (.Tuple [a, b] k2 pt2) pos) (wPar i j ta) := by
  refine ⟨fun D tk pins s σ F H ρ m I st h => ?_⟩
  rw [exec_Assign_arm]
  refine wpAny_bind (wpAny_standAt ?_)
  rw [hs]
  refine wpAny_bind (wpAny_pure ?_)
  rw [if_neg (by decide)]
  refine wpAny_bind (Tuple_ (thn (ha.run D.ex tk _ pins s σ F H ρ m _ I st h) fun us s1 ⟨vs, ps, F1, H1, m1, I1, st1, ex1, r1, rp1, _, q1⟩ => ?_))
  try simp only at q1
  split at q1
  · obtain ⟨v, w, rfl, rpv, rpw⟩ := rep2 rp1
    obtain ⟨u1, u2, rfl, rv, rw'⟩ : ∃ u1 u2, us = [u1, u2] ∧ RelV v u1 ∧ RelV w u2 := by
      cases r1 with
      | cons p q =>
        cases q with
        | cons p' q' =>
          cases q'
          exact ⟨_, _, rfl, p, p'⟩
    refine wpAny_newObj_type ?_ (by show 2 ≤ sizeLine; decide)
    have I2 : Inv X pins σ H1 { s1 with heap := s1.heap.push { cls := .type "tuple", data := .seq [u1, u2].toArray } } := I1.kept (t' := s1.toks) fun b o e => Heap.get?_push_of_some _ e
    rw [hw]
    refine wpAny_bind (wpAny_pure ?_)
    show wpAny (model X.prog X.w) X.A (do rule "assign.swapped-stores"; let items ← unpackItems (.ref s1.heap.objs.size) 2 none; assignInOrder [fun v => bindName X.env y v, fun v => bindName X.env x v] items.reverse; pure Flow.next) _ _ _
    refine wpAny_bind (wpAny_rule (wpAny_bind (unpackItems_tuple (items := #[u1, u2]) (I.ok.hd hc) (IsTup.new s1.heap _) fun h' hx' => ?_)))
    have I3 := I2.kept (h' := h') (t' := s1.toks) fun b o e => hx' b o (Nat.ne_of_lt (Heap.lt_size e)) e
    show wpAny _ _ (assignInOrder [fun v => bindName X.env y v, fun v => bindName X.env x v] [u2, u1] >>= fun _ => pure Flow.next) _ _ _
    refine wpAny_bind (assignInOrder_cons (wpAny_bindName (store_ok I3 hN hj (.inl hy) rw' (fun s2 I4 => ?_) (.inr hy))))
    refine assignInOrder_cons (wpAny_bindName (store_ok I4 hN hi (.inl hx) rv (fun s3 I5 => assignInOrder_nil (wpAny_pure ?_)) (.inr hx)))
    rw [List.set_comm _ _ (Ne.symm hij)] at I5
    have hli := slot_lt (w := X.w) (K := X.K) I1 hi
    have hlj := slot_lt (w := X.w) (K := X.K) I1 hj
    exact ⟨_, F1, H1, _, m1, I5, (st1.put hli rpv).put (by rw [List.length_set]; exact hlj) rpw, ex1.fz, q1⟩
  · exact q1.elim
/-- x += e, x -= e for ints -/
@[simp] def wAug (i : Nat) (f : Int → Int → Int) (te : DE) : DS := fun ρ m D => match at' ρ i with
  | some (.val (.int a)) => te ρ m (fun p m1 => match p with | .int b => D.nx (put ρ i (some (.val (.int (f a b))))) m1 | _ => False) (D.ex ρ)
  | _ => False
theorem js_aug {x : Str} {pos' : Pos} {op : Operator} {f : Int → Int → Int} (i : Nat) (hN : X.N.Nodup) (ho : PIp X op (ipI f)) (he : JE X B e te) (hi : X.N[i]? = some x := by rfl) (hx : Loc X.env.scope x := by first | exact Or.inl rfl | exact Or.inr rfl) (hf : X.fn x = true ∨ X.env.scope.names.lookup x = some .local := by first | exact .inl rfl | exact .inr rfl | assumption) :
    JS X B (.AugAssign (.Name x pos') op e pos) (wAug i f te) := by
  refine ⟨fun D tk pins s σ F H ρ m I st h => ?_⟩
  unfold wAug at h
  split at h
  · rename_i a ea
    obtain ⟨v0, e1, rp0⟩ := st.val i _ (at_get ea)
    cases rp0
    have pa := ps_aug (te := fun σ' H' Q => σ' = σ ∧ H' = H ∧ ∀ v F1 H1 m1, PSt X.w X.K B F1 σ H1 ρ m1 → Ext F H m F1 H1 m1 → (∃ b, v = .int b ∧ D.nx (put ρ i (some (.val (.int (f a b))))) m1) → Q v H1) (pos := pos) (pos' := pos') (i := i) (x := x) (e := e) hN hi hx ⟨fun pins s σ' H' Q I' ⟨e1, e2, k⟩ => by
      subst e1 e2
      refine thn (he.run D.ex tk pins s σ' F H' ρ m _ I' st h) fun u s1 ⟨y, p, F1, H1, m1, I1, st1, ex1, r1, rp1, q1⟩ => ⟨y, H1, I1, r1, k y F1 H1 m1 st1 ex1 ?_⟩
      try simp only at q1
      split at q1
      · cases rp1; exact ⟨_, rfl, q1⟩
      · exact q1.elim⟩ ho hf
    refine thn (pa.run pins s σ H { nx := fun σ' H' => ∃ F' ρ' m', PSt X.w X.K B F' σ' H' ρ' m' ∧ Same F F' ∧ D.nx ρ' m', rt := fun _ _ => False } I ⟨.int a, e1, rfl, rfl, fun v F1 H1 m1 st1 ex1 ⟨b, ev, q⟩ => ?_⟩) fun fl s1 q => ?_
    · subst ev
      exact ⟨a, b, rfl, rfl, F1, _, m1, st1.put (slot_lt (w := X.w) (K := X.K) I hi) (.int _), ex1.fz, q⟩
    · cases fl with
      | next => obtain ⟨σ', H', I', F', ρ', m', st', e, q⟩ := q; exact ⟨σ', F', H', ρ', m', I', st', e, q⟩
      | ret u => obtain ⟨_, _, _, _, _, q⟩ := q; exact q.elim
      | brk => obtain ⟨_, _, _, q⟩ := q; exact q.elim
      | cont => obtain ⟨_, _, _, q⟩ := q; exact q.elim
  · exact h.elim
end
end PL


namespace PL
open PySem PySem.Spec PyProof.Rows L2

/-! ### readings of the hand layer -/
section
variable {X : Cx} {B : Bs}
def tS (X : Cx) (B : Bs) (Ex : PX) (t : DS) : TS := fun Dh σ H => ∃ F ρ m, ∃ D : PEnds, D.ex = Ex ∧ PSt X.w X.K B F σ H ρ m ∧ t ρ m D ∧
  (∀ σ' F' H' ρ' m', PSt X.w X.K B F' σ' H' ρ' m' → Same F F' → D.nx ρ' m' → Dh.nx σ' H') ∧
  (∀ v p F' H' m', GSt X.w X.K B F' H' m' → Rep X.K F' v p → D.rt p m' → Dh.rt v H') ∧
  (∀ σ' F' H' ρ' m', PSt X.w X.K B F' σ' H' ρ' m' → Same F F' → D.bk ρ' m' → Dh.bk σ' H') ∧
  (∀ σ' F' H' ρ' m', PSt X.w X.K B F' σ' H' ρ' m' → Same F F' → D.ct ρ' m' → Dh.ct σ' H')
theorem SPP.sp {pins : List (Addr × Obj)} {F : Hp} {D : PEnds} {Dh : Ends} {f : Flow} {s' : Shared} (h : SPP X B pins F D f s')
    (h1 : ∀ σ' F' H' ρ' m', PSt X.w X.K B F' σ' H' ρ' m' → Same F F' → D.nx ρ' m' → Dh.nx σ' H')
    (h2 : ∀ v p F' H' m', GSt X.w X.K B F' H' m' → Rep X.K F' v p → D.rt p m' → Dh.rt v H')
    (h3 : ∀ σ' F' H' ρ' m', PSt X.w X.K B F' σ' H' ρ' m' → Same F F' → D.bk ρ' m' → Dh.bk σ' H')
    (h4 : ∀ σ' F' H' ρ' m', PSt X.w X.K B F' σ' H' ρ' m' → Same F F' → D.ct ρ' m' → Dh.ct σ' H') : SP X pins Dh f s' := by
  cases f with
  | next => obtain ⟨σ', F', H', ρ', m', I, st, e, q⟩ := h; exact ⟨σ', H', I, h1 _ _ _ _ _ st e q⟩
  | brk => obtain ⟨σ', F', H', ρ', m', I, st, e, q⟩ := h; exact ⟨σ', H', I, h3 _ _ _ _ _ st e q⟩
  | cont => obtain ⟨σ', F', H', ρ', m', I, st, e, q⟩ := h; exact ⟨σ', H', I, h4 _ _ _ _ _ st e q⟩
  | ret u => obtain ⟨v, p, σ', F', H', m', I, g, r, rp, q⟩ := h; exact ⟨v, σ', H', I, r, h2 _ _ _ _ _ g rp q⟩
theorem JB.pss {st : List Stmt} {t : DS} (h : JB X B st t) {Ex : PX} (tk : L2N.Takes X (WR X B Ex)) : PSs X st (tS X B Ex t) := by
  refine ⟨fun pins s σ H Dh I ⟨F, ρ, m, D, e, st, ht, h1, h2, h3, h4⟩ => ?_⟩
  subst e
  exact thn (h.run D tk pins s σ F H ρ m I st ht) fun f s' q => q.sp h1 h2 h3 h4
def tG (X : Cx) (B : Bs) (is : List Nat) (t : DG) : TG := fun v σ H Q => ∃ F ρ m p Qp, PSt X.w X.K B F σ H ρ m ∧ Rep X.K F v p ∧ t p ρ Qp ∧ ∀ σ' ρ', PSt X.w X.K B F σ' H ρ' m → Wip is σ σ' → Qp ρ' → Q σ' H
theorem JG.pg {tg : Expr} {is : List Nat} {t : DG} (h : JG X B tg is t) : PG X tg (tG X B is t) := by
  refine ⟨fun pins s σ H v u Q I r ⟨F, ρ, m, p, Qp, st, rp, ht, k⟩ => ?_⟩
  exact thn (h.run pins s σ F H ρ m v u p Qp I st r rp ht) fun _ s' ⟨σ', ρ', I', st', w, q⟩ => ⟨σ', H, I', k σ' ρ' st' w q⟩
def tA (X : Cx) (B : Bs) (R : PX) (n : Nat) (t : DA) : TA := fun σ H Q => ∃ F ρ m Qp, PSt X.w X.K B F σ H ρ m ∧ t ρ m Qp (R ρ) ∧
  ∀ vs ps F' H' m', PSt X.w X.K B F' σ H' ρ m' → Ext F H m F' H' m' → RepAll X.K F' vs ps → ps.length = n → Qp ps m' → Q vs H'
theorem JA.pa {es : List Expr} {t : DA} (h : JA X B es t) {R : PX} (tk : L2N.Takes X (WR X B R)) : PA X es (tA X B R es.length t) := by
  refine ⟨fun pos pins s σ H Q I ⟨F, ρ, m, Qp, st, ht, k⟩ => ?_⟩
  exact thn (h.run R tk pos pins s σ F H ρ m Qp I st ht) fun us s' ⟨vs, ps, F', H', m', I', st', ex, r, rp, hl, q⟩ => ⟨vs, H', I', r, k vs ps F' H' m' st' ex rp hl q⟩

/-! ### what is walked -/
/-- a walk yields the values ps, one a turn, while what is frozen stands -/
structure Wk (X : Cx) (B : Bs) (J : It) (F1 : Hp) (ps : List PV) : Prop where
  go : ∀ i F H, Same F1 F → Same F H → i < ps.length → J.go i H
  yld : ∀ i F H x H' (σ : L2.St) ρ m, Same F1 F → PSt X.w X.K B F σ H ρ m → J.yld i H x H' → i < ps.length → ∃ F' p, PSt X.w X.K B F' σ H' ρ m ∧ Ext F H m F' H' m ∧ ps[i]? = some p ∧ Rep X.K F' x p
  stop : ∀ i F H, Same F1 F → Same F H → ps.length ≤ i → J.stop i H
abbrev DI := PEnv → Mem → (List PV → Mem → Prop) → KX → Prop
structure JI (X : Cx) (B : Bs) (tg iter : Expr) (t : DI) : Prop where
  pi : ∀ (R : PX), L2N.Takes X (WR X B R) → ∃ wi, PI X tg iter wi ∧ ∀ F σ H ρ m Q (RR : It → Hp → Prop), PSt X.w X.K B F σ H ρ m → t ρ m Q (R ρ) →
    (∀ J F1 H1 m1 ps, PSt X.w X.K B F1 σ H1 ρ m1 → Ext F H m F1 H1 m1 → Wk X B J F1 ps → ps.length ≤ sizeLine → Q ps m1 → RR J H1) → wi σ H RR
theorem wk_list {a : Addr} {F1 : Hp} {vs : List V} {ps : List PV} (e : F1 a = some (.lst vs)) (r : RepAll X.K F1 vs ps) : Wk X B (Itl X.K a) F1 ps where
  go := fun i F H e1 e2 hi => by
    obtain ⟨v, hv, _⟩ := r.get (i := i) (p := ps[i]) (by simp [hi])
    exact ⟨vs, v, SqL.of (e2 _ _ (e1 _ _ e)), hv⟩
  yld := fun i F H x H' σ ρ m e1 st hy hi => by
    obtain ⟨v, hv, rv⟩ := r.get (i := i) (p := ps[i]) (by simp [hi])
    obtain ⟨eH, h⟩ := hy
    subst eH
    have := h vs (SqL.of (st.sub _ _ (e1 _ _ e)))
    rw [hv] at this
    cases this
    exact ⟨F, ps[i], st, Ext.refl _ _ _, by simp [hi], rv.mono e1⟩
  stop := fun i F H e1 e2 hi => ⟨vs, SqL.of (e2 _ _ (e1 _ _ e)), by rw [r.length]; exact hi⟩
theorem wk_tup {a : Addr} {F1 : Hp} {vs : List V} {ps : List PV} (e : SqT X.K F1 a vs) (r : RepAll X.K F1 vs ps) : Wk X B (Itt X.K a) F1 ps where
  go := fun i F H e1 e2 hi => by
    obtain ⟨v, hv, _⟩ := r.get (i := i) (p := ps[i]) (by simp [hi])
    exact ⟨vs, v, same_t e2 (same_t e1 e), hv⟩
  yld := fun i F H x H' σ ρ m e1 st hy hi => by
    obtain ⟨v, hv, rv⟩ := r.get (i := i) (p := ps[i]) (by simp [hi])
    obtain ⟨eH, h⟩ := hy
    subst eH
    have := h vs (same_t st.sub (same_t e1 e))
    rw [hv] at this
    cases this
    exact ⟨F, ps[i], st, Ext.refl _ _ _, by simp [hi], rv.mono e1⟩
  stop := fun i F H e1 e2 hi => ⟨vs, same_t e2 (same_t e1 e), by rw [r.length]; exact hi⟩
/-- lo, lo + 1, .. as values -/
def rngP (lo : Int) (n : Nat) : List PV := (List.range n).map fun (i : Nat) => .int (lo + (i : Int))
theorem rngP_len (lo : Int) (n : Nat) : (rngP lo n).length = n := by simp [rngP]
theorem rngP_get {lo : Int} {n i : Nat} (h : i < n) : (rngP lo n)[i]? = some (.int (lo + (i : Int))) := by simp [rngP, h]
theorem wk_rng {F1 : Hp} (lo : Int) (n : Nat) : Wk X B (Itr lo n) F1 (rngP lo n) where
  go := fun i F H _ _ hi => by rw [rngP_len] at hi; exact hi
  yld := fun i F H x H' σ ρ m e1 st hy hi => by
    rw [rngP_len] at hi
    obtain ⟨eH, h⟩ := hy
    subst eH h
    exact ⟨F, _, st, Ext.refl _ _ _, rngP_get hi, .int _⟩
  stop := fun i F H _ _ hi => by rw [rngP_len] at hi; exact hi
/-- enumerate's pairs -/
def enumP (ps : List PV) : List PV := (List.range ps.length).map fun (i : Nat) => .tup [.int (i : Int), ps.getD i .non]
theorem enumP_len (ps : List PV) : (enumP ps).length = ps.length := by simp [enumP]
theorem wk_enum {a : Addr} {F1 : Hp} {vs : List V} {ps : List PV} (e : F1 a = some (.lst vs)) (r : RepAll X.K F1 vs ps) : Wk X B (Ite X.K a) F1 (enumP ps) where
  go := fun i F H e1 e2 hi => by
    rw [enumP_len] at hi
    obtain ⟨v, hv, _⟩ := r.get (i := i) (p := ps[i]) (by simp [hi])
    exact ⟨vs, v, SqL.of (e2 _ _ (e1 _ _ e)), hv⟩
  yld := fun i F H x H' σ ρ m e1 st hy hi => by
    rw [enumP_len] at hi
    obtain ⟨v, hv, rv⟩ := r.get (i := i) (p := ps[i]) (by simp [hi])
    obtain ⟨T, x', e1', e2', e3', h⟩ := hy
    subst e1' e3'
    have := h vs (SqL.of (st.sub _ _ (e1 _ _ e)))
    rw [hv] at this
    cases this
    obtain ⟨st2, ex2⟩ := st.new (o := .tup [.int (i : Nat), v]) e2' (fun ps z => nomatch z)
    exact ⟨_, .tup [.int (i : Int), ps[i]], st2, ex2, by simp [enumP, hi], .tup (SqT.of upd_same) (.cons (.int _) (.cons ((rv.mono e1).mono ex2.fz) .nil))⟩
  stop := fun i F H e1 e2 hi => ⟨vs, SqL.of (e2 _ _ (e1 _ _ e)), by rw [r.length]; rw [enumP_len] at hi; exact hi⟩

variable {tg l : Expr} {tl : DE}
@[simp] def wIL (t : DE) : DI := fun ρ m Q R => t ρ m (fun p m1 => match p with | .lst ps => ps.length ≤ 1000000 ∧ Q ps m1 | _ => False) R
theorem ji_list (hl : JE X B l tl) : JI X B tg l (wIL tl) := by
  refine ⟨fun R tk => ⟨_, pi_list (hl.pe tk), fun F σ H ρ m Q RR st h k => ⟨F, ρ, m, _, st, h, fun v p F' H' m' st' ex rp q => ?_⟩⟩⟩
  try simp only at q
  split at q
  · cases rp with
    | lst e r => exact ⟨_, rfl, ⟨_, SqL.of (st'.sub _ _ e)⟩, k _ F' _ m' _ st' ex (wk_list e r) (line6 q.1) q.2⟩
  · exact q.elim
@[simp] def wIT (t : DE) : DI := fun ρ m Q R => t ρ m (fun p m1 => match p with | .tup ps => ps.length ≤ 1000000 ∧ Q ps m1 | _ => False) R
theorem ji_tup (hl : JE X B l tl) : JI X B tg l (wIT tl) := by
  refine ⟨fun R tk => ⟨_, pi_tup (hl.pe tk), fun F σ H ρ m Q RR st h k => ⟨F, ρ, m, _, st, h, fun v p F' H' m' st' ex rp q => ?_⟩⟩⟩
  try simp only at q
  split at q
  · cases rp with
    | tup e r => exact ⟨_, rfl, ⟨_, same_t st'.sub e⟩, k _ F' _ m' _ st' ex (wk_tup e r) (line6 q.1) q.2⟩
  · exact q.elim
@[simp] def wIR1 (t : DA) : DI := fun ρ m Q R => t ρ m (fun ps m1 => match ps with | [.int j] => (-1000000 ≤ j ∧ j ≤ 1000000) ∧ Q (rngP 0 j.toNat) m1 | _ => False) R
theorem ji_rng1 {a : Expr} {ta : DA} {p pos : Pos} (hm : X.mg "range" = none) (ha : JA X B [a] ta) (hg : Gl X "range" := by rfl) (hs : starEach [a] X.env = [(false, eval a X.env)] := by rfl) : JI X B tg (.Call (.Name "range" p) [a] [] pos) (wIR1 ta) := by
  refine ⟨fun R tk => ⟨_, pi_range1 hg hm (ha.pa tk) hs, fun F σ H ρ m Q RR st h k => ⟨F, ρ, m, _, st, h, fun vs ps F' H' m' st' ex rp _ q => ?_⟩⟩⟩
  try simp only at q
  split at q
  · obtain ⟨v, rfl, r⟩ := rep1 rp
    cases r
    exact ⟨_, rfl, by omega, by omega, k _ F' _ m' _ st' ex (wk_rng 0 _) (by rw [rngP_len]; exact line6 (by omega)) q.2⟩
  · exact q.elim
@[simp] def wIR2 (t : DA) : DI := fun ρ m Q R => t ρ m (fun ps m1 => match ps with | [.int i, .int j] => (-1000000000000000 ≤ i ∧ i ≤ 1000000000000000 ∧ -1000000000000000 ≤ j ∧ j ≤ 1000000000000000 ∧ j - i ≤ 1000000) ∧ Q (rngP i (j - i).toNat) m1 | _ => False) R
theorem ji_rng2 {a b : Expr} {ta : DA} {p pos : Pos} (hm : X.mg "range" = none) (ha : JA X B [a, b] ta) (hg : Gl X "range" := by rfl) (hs : starEach [a, b] X.env = [(false, eval a X.env), (false, eval b X.env)] := by rfl) (hs2 : starEach [b] X.env = [(false, eval b X.env)] := by rfl) : JI X B tg (.Call (.Name "range" p) [a, b] [] pos) (wIR2 ta) := by
  refine ⟨fun R tk => ⟨_, pi_range2 hg hm (ha.pa tk) hs hs2, fun F σ H ρ m Q RR st h k => ⟨F, ρ, m, _, st, h, fun vs ps F' H' m' st' ex rp _ q => ?_⟩⟩⟩
  try simp only at q
  split at q
  · obtain ⟨v, u, rfl, r, r2⟩ := rep2 rp
    cases r; cases r2
    exact ⟨_, _, rfl, by omega, k _ F' _ m' _ st' ex (wk_rng _ _) (by rw [rngP_len]; exact line6 (by omega)) q.2⟩
  · exact q.elim
@[simp] def wIE (t : DA) : DI := fun ρ m Q R => t ρ m (fun ps m1 => match ps with | [.lst xs] => xs.length ≤ 1000000 ∧ Q (enumP xs) m1 | _ => False) R
theorem ji_enum {e : Expr} {ta : DA} {p pos tpos : Pos} {elts : List Expr} {kk : Nat} (hm : X.mg "enumerate" = none) (ha : JA X B [e] ta) (hg : Gl X "enumerate" := by rfl) (hs : starEach [e] X.env = [(false, eval e X.env)] := by rfl) :
    JI X B (.Tuple elts kk tpos) (.Call (.Name "enumerate" p) [e] [] pos) (wIE ta) := by
  refine ⟨fun R tk => ⟨_, pi_enum hg hm (ha.pa tk) hs, fun F σ H ρ m Q RR st h k => ⟨F, ρ, m, _, st, h, fun vs ps F' H' m' st' ex rp _ q => ?_⟩⟩⟩
  try simp only at q
  split at q
  · obtain ⟨v, rfl, r⟩ := rep1 rp
    cases r with
    | lst e r => exact ⟨_, _, rfl, SqL.of (st'.sub _ _ e), k _ F' _ m' _ st' ex (wk_enum e r) (by rw [enumP_len]; exact line6 q.1) q.2⟩
  · exact q.elim

/-! ### for -/
def forW (g : DG) (tb : DS) : List PV → PEnv → Mem → PEnds → Prop
  | [], ρ, m, D => D.nx ρ m
  | x :: xs, ρ, m, D => g x ρ fun ρ1 => tb ρ1 m { D with nx := fun ρ' m' => forW g tb xs ρ' m' D, ct := fun ρ' m' => forW g tb xs ρ' m' D, bk := D.nx }
@[simp] def wFor (ti : DI) (g : DG) (tb : DS) : DS := fun ρ m D => ti ρ m (fun ps m1 => forW g tb ps ρ m1 D) (D.ex ρ)
theorem drop_get {α : Type} {l : List α} {i : Nat} {x : α} (h : l[i]? = some x) : l.drop i = x :: l.drop (i + 1) := by
  obtain ⟨hi, e⟩ := List.getElem?_eq_some_iff.mp h
  rw [List.drop_eq_getElem_cons hi, e]
theorem js_for {iter : Expr} {body : List Stmt} {is : List Nat} {ti : DI} {g : DG} {tb : DS} {pos : Pos} (hp : PassesOwn (model X.prog X.w) X.A X.env X.xe) (hc : X.calm = true) (hi : JI X B tg iter ti) (hg : JG X B tg is g) (hb : JB X B body tb)
    (hs : ∀ x, foldedSetIterable iter X.env x = pure x := by intro _; rfl) : JS X B (.For tg iter body [] pos) (wFor ti g tb) := by
  refine ⟨fun D tk pins s σ F H ρ m I st h => ?_⟩
  obtain ⟨wi, hpi, hk⟩ := hi.pi D.ex tk
  have pf := ps_for (pos := pos) hp hc hpi hg.pg (hb.pss tk) hs
  let Dh : Ends := { nx := fun σ' H' => ∃ F' ρ' m', PSt X.w X.K B F' σ' H' ρ' m' ∧ Same F F' ∧ D.nx ρ' m', rt := fun v H' => ∃ p F' m', GSt X.w X.K B F' H' m' ∧ Rep X.K F' v p ∧ D.rt p m', bk := fun σ' H' => ∃ F' ρ' m', PSt X.w X.K B F' σ' H' ρ' m' ∧ Same F F' ∧ D.bk ρ' m', ct := fun σ' H' => ∃ F' ρ' m', PSt X.w X.K B F' σ' H' ρ' m' ∧ Same F F' ∧ D.ct ρ' m' }
  refine thn (pf.run pins s σ H Dh I ?_) fun fl s1 q => ?_
  · refine hk F σ H ρ m _ _ st h fun J F1 H1 m1 ps st1 ex1 wk _ hw => ?_
    refine ⟨fun i n σ H => n = ps.length - i ∧ i ≤ ps.length ∧ ∃ F2 ρ2 m2, PSt X.w X.K B F2 σ H ρ2 m2 ∧ Same F1 F2 ∧ forW g tb (ps.drop i) ρ2 m2 D, ⟨ps.length, by simp, Nat.zero_le _, F1, ρ, m1, st1, Same.refl F1, hw⟩, ?_⟩
    rintro i n σ2 H2 ⟨rfl, hi, F2, ρ2, m2, st2, e2, hf⟩
    by_cases hlt : i < ps.length
    · refine .inr ⟨wk.go i F2 H2 e2 st2.sub hlt, fun σ' H' => ∃ F3 ρ3 m3, PSt X.w X.K B F3 σ' H' ρ3 m3 ∧ Same F1 F3 ∧ forW g tb (ps.drop (i + 1)) ρ3 m3 D, fun σ' H' ⟨F3, ρ3, m3, st3, e3, h3⟩ => ⟨ps.length - (i + 1), by omega, rfl, hlt, F3, ρ3, m3, st3, e3, h3⟩, fun x H' hy => ?_⟩
      obtain ⟨F3, p, st3, ex3, hp, rp⟩ := wk.yld i F2 H2 x H' σ2 ρ2 m2 e2 st2 hy hlt
      rw [drop_get hp] at hf
      refine ⟨F3, ρ2, m2, p, _, st3, rp, hf, fun σ4 ρ4 st4 _ h4 => ?_⟩
      refine ⟨F3, ρ4, m2, { D with nx := fun ρ' m' => forW g tb (ps.drop (i + 1)) ρ' m' D, ct := fun ρ' m' => forW g tb (ps.drop (i + 1)) ρ' m' D, bk := D.nx }, rfl, st4, h4, fun σ' F' H' ρ' m' st' e' q => ⟨F', ρ', m', st', (e2.trans ex3.fz).trans e', q⟩, fun v p F' H' m' g rp q => ⟨p, F', m', g, rp, q⟩, fun σ' F' H' ρ' m' st' e' q => ⟨F', ρ', m', st', ((ex1.fz.trans e2).trans ex3.fz).trans e', q⟩, fun σ' F' H' ρ' m' st' e' q => ⟨F', ρ', m', st', (e2.trans ex3.fz).trans e', q⟩⟩
    · have ei : i = ps.length := by omega
      subst ei
      rw [List.drop_length] at hf
      exact .inl ⟨wk.stop _ F2 H2 e2 st2.sub (Nat.le_refl _), F2, ρ2, m2, st2, ex1.fz.trans e2, hf⟩
  · cases fl with
    | next => obtain ⟨σ', H', I', F', ρ', m', st', e, q⟩ := q; exact ⟨σ', F', H', ρ', m', I', st', e, q⟩
    | ret u => obtain ⟨v, σ', H', I', r, p, F', m', g, rp, q⟩ := q; exact ⟨v, p, σ', F', H', m', I', g, r, rp, q⟩
    | brk => obtain ⟨σ', H', I', F', ρ', m', st', e, q⟩ := q; exact ⟨σ', F', H', ρ', m', I', st', e, q⟩
    | cont => obtain ⟨σ', H', I', F', ρ', m', st', e, q⟩ := q; exact ⟨σ', F', H', ρ', m', I', st', e, q⟩
end
end PL


namespace PL
open PySem PySem.Spec PyProof.Rows L2

/-! ### list comprehensions -/
@[simp] def wipeP (ρ : PEnv) : List Nat → PEnv
  | [] => ρ
  | v :: vs => put (wipeP ρ vs) v none
abbrev xBot : KX := fun _ _ => False
abbrev pBot : PX := fun _ => xBot
def compW (g : DG) (c : DT) (t : DE) (ρw : PEnv) : List PV → List PV → Mem → (List PV → Mem → Prop) → Prop
  | [], acc, m, Q => Q acc m
  | x :: xs, acc, m, Q => g x ρw fun ρ2 => c ρ2 m (fun b m3 => match b with
    | true => t ρ2 m3 (fun y m4 => compW g c t ρw xs (acc ++ [y]) m4 Q) xBot
    | false => compW g c t ρw xs acc m3 Q) xBot
@[simp] def wYes : DT := fun _ m Q _ => Q true m
@[simp] def wLc (ti : DI) (g : DG) (c : DT) (t : DE) (vs : List Nat) : DE := fun ρ m Q R => ti ρ m (fun ps m1 => compW g c t (wipeP ρ vs) ps [] m1 (fun acc m2 => Q (.lst acc) m2)) R
section
variable {X : Cx} {B : Bs} {F H : Hp} {σ : L2.St} {ρ : PEnv} {m : Mem}
theorem takes_bot : L2N.Takes X (WR X B pBot) := fun u s' ⟨a, Bh, sI, pins, σ, H, cls, d, e, I, nb, up, sky, na, os, ag, w⟩ => by
  obtain ⟨_, _, _, _, _, _, _, z⟩ := w
  exact z.elim
/-- a slot is forgotten -/
theorem PSt.clear {w : World} {K : PySem.W.Frag} (i : Nat) (st : PSt w K B F σ H ρ m) : PSt w K B F (σ.set i none) H (PL.put ρ i none) m := by
  rw [put_set]
  have key : ∀ {j : Nat} {v : SV}, (ρ.set i none)[j]? = some (some v) → i ≠ j ∧ ρ[j]? = some (some v) := fun {j v} h => by
    by_cases hj : i = j
    · subst hj
      by_cases hi : i < ρ.length
      · rw [List.getElem?_set_self hi] at h; cases h
      · rw [List.getElem?_eq_none (by rw [List.length_set]; omega)] at h; cases h
    · exact ⟨hj, set_ne' hj h⟩
  refine ⟨by rw [List.length_set, List.length_set]; exact st.len, st.sub, st.nt, fun j q h => ?_, fun j o h => ?_, fun j k o o' a hjk h1 h2 h3 => ?_, st.mem, st.ext, st.tab⟩
  · obtain ⟨hj, h⟩ := key h
    rw [List.getElem?_set_ne hj]
    exact st.val j q h
  · obtain ⟨hj, h⟩ := key h
    rw [List.getElem?_set_ne hj]
    exact st.own j o h
  · obtain ⟨hj, h1⟩ := key h1
    obtain ⟨hk, h2⟩ := key h2
    rw [List.getElem?_set_ne hj] at h3
    rw [List.getElem?_set_ne hk]
    exact st.apart j k o o' a hjk h1 h2 h3
theorem PSt.wipe {w : World} {K : PySem.W.Frag} (st : PSt w K B F σ H ρ m) : ∀ vs : List Nat, PSt w K B F (L2.wipe σ vs) H (wipeP ρ vs) m
  | [] => st
  | v :: vs => (PSt.wipe st vs).clear v
/-- nobody of the frame holds the object at D -/
def Free (B : Bs) (F H : Hp) (σ : L2.St) (ρ : PEnv) (m : Mem) (D : Addr) : Prop := F D = none ∧ m D = none ∧ NoB B.H D ∧ (∃ o, H D = some o ∧ noTbl o) ∧ ∀ (i : Nat) (o : OO), ρ[i]? = some (some (.own o)) → σ[i]? ≠ some (some (.ref D))
theorem tabs_upd {T : List (Addr × Str)} {D : Addr} {o u : HO} (t : LamX.Tabs T H) (h : H D = some u) (n : noTbl u) (nc : ∀ c q, u ≠ LamX.CodeO c q) : LamX.Tabs T (upd H D o) := fun p hp => by
  obtain ⟨ps, h1, h2, h3⟩ := t p hp
  have ne : p.1 ≠ D := fun z => n ps (Option.some.inj (h.symm.trans (z ▸ h1)))
  refine ⟨ps, by rw [upd_ne ne]; exact h1, h2, fun pos cv hc => ?_⟩
  obtain ⟨c, e1, e2⟩ := h3 pos cv hc
  refine ⟨c, e1, ?_⟩
  have ne2 : c ≠ D := by
    rintro rfl
    exact nc c p.2 (Option.some.inj (h.symm.trans e2))
  rw [upd_ne ne2]; exact e2
/-- the object at D, nobody's, is changed -/
theorem PSt.upd {w : World} {K : PySem.W.Frag} {D : Addr} {o u : HO} (st : PSt w K B F σ H ρ m) (f : Free B F H σ ρ m D) (h : H D = some u) (nc : ∀ c q, u ≠ LamX.CodeO c q) (n : noTbl u) (nown : ∀ a, u ≠ .own a) : PSt w K B F σ (L2.upd H D o) ρ m := by
  obtain ⟨f1, f2, f3, _, f5⟩ := f
  have neF : ∀ a u', F a = some u' → a ≠ D := fun a u' e z => by subst z; rw [f1] at e; cases e
  refine ⟨st.len, fun a u' e => by rw [upd_ne (neF a u' e)]; exact st.sub a u' e, st.nt, st.val, fun i o' h' => ?_, st.apart, fun a c e => ?_, ?_, tabs_upd st.tab h n nc⟩
  · obtain ⟨a, h1, h2, h3, h4, h5⟩ := st.own i o' h'
    have ne : a ≠ D := fun z => f5 i o' h' (z ▸ h1)
    exact ⟨a, h1, h2, h3, h4, h5.keep (Same.refl F) fun u' hu _ => by rw [upd_ne ne]; exact hu⟩
  · obtain ⟨h1, h2⟩ := st.mem a c e
    have ne : a ≠ D := fun z => by subst z; rw [f2] at e; cases e
    refine ⟨h1, ?_⟩
    cases c with
    | dice => obtain ⟨i, j, e1⟩ := h2; exact ⟨i, j, by rw [upd_ne ne]; exact e1⟩
    | ins C fs =>
      obtain ⟨dx, fv, e1, e0, e2, e3⟩ := h2
      have ne2 : dx ≠ D := by
        rintro rfl
        exact nown a (Option.some.inj (h.symm.trans e0))
      exact ⟨dx, fv, by rw [upd_ne ne]; exact e1, by rw [upd_ne ne2]; exact e0, e2, e3⟩
  · refine ⟨st.ext.fz, fun a u' e n' e' => ?_, st.ext.ff, st.ext.mf, fun a u' e n' => ?_⟩
    · have ne : a ≠ D := fun z => f3 u' (z ▸ e) n'
      rw [upd_ne ne]; exact st.ext.kp a u' e n' e'
    · have ne : a ≠ D := fun z => f3 u' (z ▸ e) n'
      rw [upd_ne ne]; exact st.ext.st a u' e n'
/-- .. is frozen -/
theorem PSt.freeze {w : World} {K : PySem.W.Frag} {D : Addr} {u : HO} (st : PSt w K B F σ H ρ m) (f : Free B F H σ ρ m D) (h : H D = some u) (n : noTbl u) (nown : ∀ a, u ≠ .own a) : PSt w K B (L2.upd F D u) σ H ρ m := by
  obtain ⟨f1, f2, f3, _, f5⟩ := f
  have e : Same F (L2.upd F D u) := fun a u' e => by rw [upd_ne (ne_of_none e f1)]; exact e
  refine ⟨st.len, fun a u' e => ?_, fun a u' e => ?_, fun i p h' => ?_, fun i o' h' => ?_, st.apart, fun a c e' => ?_, ?_, st.tab⟩
  · by_cases z : a = D
    · subst z; rw [upd_same] at e; cases e; exact h
    · rw [upd_ne z] at e; exact st.sub a u' e
  · by_cases z : a = D
    · subst z; rw [upd_same] at e; cases e; exact n
    · rw [upd_ne z] at e; exact st.nt a u' e
  · obtain ⟨v, h1, h2⟩ := st.val i p h'
    exact ⟨v, h1, h2.mono e⟩
  · obtain ⟨a, h1, h2, h3, h4, h5⟩ := st.own i o' h'
    have ne : a ≠ D := fun z => f5 i o' h' (z ▸ h1)
    exact ⟨a, h1, by rw [upd_ne ne]; exact h2, h3, h4, h5.keep e fun u' hu _ => hu⟩
  · obtain ⟨h1, h2⟩ := st.mem a c e'
    have ne : a ≠ D := fun z => by subst z; rw [f2] at e'; cases e'
    refine ⟨by rw [upd_ne ne]; exact h1, h2.keep e (fun b u' hu _ => hu) fun b y hb ho => ?_⟩
    have ne2 : b ≠ D := by
      rintro rfl
      exact nown y (Option.some.inj (h.symm.trans ho))
    rw [upd_ne ne2]; exact hb
  · exact ⟨st.ext.fz.trans e, st.ext.kp, fun a u' e n' e' => by
      rw [upd_ne (show a ≠ D from fun z => f3 u' (z ▸ e) n')]; exact st.ext.ff a u' e n' e', st.ext.mf, st.ext.st⟩

theorem PSt.newH {w : World} {K : PySem.W.Frag} {D : Addr} {o : HO} (st : PSt w K B F σ H ρ m) (h : H D = none) : PSt w K B F σ (L2.upd H D o) ρ m := by
  refine st.step (fun a u e => by rw [upd_ne (ne_of_none (st.sub a u e) h)]; exact st.sub a u e) st.nt (Ext.newH st.sub h) (fun a c e => ?_) (st.tab.ext fun a u e => by rw [upd_ne (ne_of_none e h)]; exact e)
  obtain ⟨h1, h2⟩ := st.mem a c e
  exact ⟨h1, h2.keep (Same.refl F) (fun b u hu _ => by rw [upd_ne (ne_of_none hu h)]; exact hu) fun b y hb _ => hb⟩
theorem Ext.updN {F' H' : Hp} {m' : Mem} {D : Addr} {o : HO} (ex : Ext F H m F' H' m') (h : NoB H D) : Ext F H m F' (L2.upd H' D o) m' :=
  ⟨ex.fz, fun a u e n e' => by rw [upd_ne (show a ≠ D from fun z => h u (z ▸ e) n)]; exact ex.kp a u e n e', ex.ff, ex.mf, fun a u e n => by rw [upd_ne (show a ≠ D from fun z => h u (z ▸ e) n)]; exact ex.st a u e n⟩
theorem Ext.frzN {F' H' : Hp} {m' : Mem} {D : Addr} {o : HO} (ex : Ext F H m F' H' m') (h : NoB H D) (hF : F' D = none) : Ext F H m (L2.upd F' D o) H' m' :=
  ⟨ex.fz.trans fun a u e => by rw [upd_ne (ne_of_none e hF)]; exact e, ex.kp, fun a u e n e' => by rw [upd_ne (show a ≠ D from fun z => h u (z ▸ e) n)]; exact ex.ff a u e n e', ex.mf, ex.st⟩
theorem wipe_wipe (σ : L2.St) (vs : List Nat) : L2.wipe (L2.wipe σ vs) vs = L2.wipe σ vs := by
  have key : ∀ (ws vs : List Nat) (σ : L2.St), (∀ i ∈ ws, i ∈ vs) → L2.wipe (L2.wipe σ ws) vs = L2.wipe σ vs := by
    intro ws
    induction ws with
    | nil => intro vs σ _; rfl
    | cons i ws ih =>
      intro vs σ h
      show L2.wipe ((L2.wipe σ ws).set i none) vs = _
      rw [wipe_set (h i (by simp)), ih vs σ fun j hj => h j (by simp [hj])]
  exact key vs vs σ fun _ h => h
/-- nothing known of the frame is at a new address -/
theorem PSt.own_ne {w : World} {K : PySem.W.Frag} {D : Addr} (st : PSt w K B F σ H ρ m) (h : H D = none) : ∀ (i : Nat) (o : OO), ρ[i]? = some (some (.own o)) → σ[i]? ≠ some (some (.ref D)) := fun i o e z => by
  obtain ⟨a, h1, _, _, _, h5⟩ := st.own i o e
  rw [z] at h1
  cases h1
  obtain ⟨u, hu, _⟩ := RepO.at h5
  rw [h] at hu
  cases hu
theorem PSt.mem_none {w : World} {K : PySem.W.Frag} {D : Addr} (st : PSt w K B F σ H ρ m) (h : H D = none) : m D = none := by
  cases e : m D with
  | none => rfl
  | some c =>
    obtain ⟨_, h2⟩ := st.mem D c e
    cases c with
    | dice => obtain ⟨i, j, e1⟩ := h2; rw [h] at e1; cases e1
    | ins C fs => obtain ⟨dx, fv, e1, _⟩ := h2; rw [h] at e1; cases e1
/-- a clause's tests -/
structure JTs (X : Cx) (B : Bs) (ifs : List Expr) (t : DT) : Prop where
  pts : ∀ (R : PX), L2N.Takes X (WR X B R) → PTs X ifs (tT X B R t)
theorem jts_nil : JTs X B [] wYes := ⟨fun R tk => ⟨fun pins s σ H Q I ⟨F, ρ, m, Qp, st, ht, k⟩ => wpAny_tests_nil ⟨H, I, k true F H m st (Ext.refl _ _ _) ht⟩⟩⟩
theorem jts_one {c : Expr} {t : DT} (h : JT X B c t) : JTs X B [c] t := ⟨fun R tk => pts_one (h.pt tk)⟩
theorem lst_nt {xs : List V} : noTbl (.lst xs) := fun ps z => nomatch z
theorem lst_nc {xs : List V} : ∀ c q, HO.lst xs ≠ LamX.CodeO c q := fun c q z => by unfold LamX.CodeO at z; cases z
theorem lst_no {xs : List V} : ∀ a, HO.lst xs ≠ .own a := fun a z => nomatch z
theorem lc_read {R : PX} {wi : TI} {vs : List Nat} {is : List Nat} {ti : DI} {g : DG} {tt : DT} {te : DE} {Q : KV'} {Qh : VK}
    (hk : ∀ F σ H ρ m Q (RR : It → Hp → Prop), PSt X.w X.K B F σ H ρ m → ti ρ m Q (R ρ) →
      (∀ J F1 H1 m1 ps, PSt X.w X.K B F1 σ H1 ρ m1 → Ext F H m F1 H1 m1 → Wk X B J F1 ps → ps.length ≤ sizeLine → Q ps m1 → RR J H1) → wi σ H RR)
    (his : ∀ i ∈ is, i ∈ vs) (st : PSt X.w X.K B F σ H ρ m) (h : wLc ti g tt te vs ρ m Q (R ρ))
    (k : ∀ v p F' H' m', PSt X.w X.K B F' σ H' ρ m' → Ext F H m F' H' m' → Rep X.K F' v p → Q p m' → Qh v H') : tLc wi (tG X B is g) (tT X B pBot tt) (tE X B pBot te) vs σ H Qh := by
  refine hk F σ H ρ m _ _ st h fun J F1 H1 m1 ps st1 ex1 wk hlen hw => ?_
  intro D hD
  have hF1 : F1 D = none := st1.sub.free hD
  have hBD : NoB B.H D := st1.ext.free hD
  have hm1 : m1 D = none := st1.mem_none hD
  have hHD : NoB H D := ex1.free hD
  have stw := st1.wipe vs
  have own0 := st1.own_ne hD
  have ownw := stw.own_ne hD
  refine ⟨fun i n Hc => n = ps.length - i ∧ i ≤ ps.length ∧ ∃ F2 m2 acc pacc, Hc D = some (.lst acc) ∧ acc.length ≤ i ∧ PSt X.w X.K B F2 (wipe σ vs) Hc (wipeP ρ vs) m2 ∧ Ext F1 H1 m1 F2 Hc m2 ∧ F2 D = none ∧ m2 D = none ∧ RepAll X.K F2 acc pacc ∧
    compW g tt te (wipeP ρ vs) (ps.drop i) pacc m2 (fun acc m2 => Q (.lst acc) m2), ⟨ps.length, by simp, Nat.zero_le _, F1, m1, [], [], upd_same, Nat.le_refl _, stw.newH hD, Ext.newH st1.sub hD, hF1, hm1, .nil, hw⟩, ?_⟩
  rintro i n Hc ⟨rfl, hi, F2, m2, acc, pacc, hDc, hal, st2, ex2, hF2, hm2, rpa, hcomp⟩
  by_cases hlt : i < ps.length
  · refine .inr ⟨wk.go i F2 Hc ex2.fz st2.sub hlt, fun Hc => i + 1 ≤ ps.length ∧ ∃ F2 m2 acc pacc, Hc D = some (.lst acc) ∧ acc.length ≤ i + 1 ∧ PSt X.w X.K B F2 (wipe σ vs) Hc (wipeP ρ vs) m2 ∧ Ext F1 H1 m1 F2 Hc m2 ∧ F2 D = none ∧ m2 D = none ∧ RepAll X.K F2 acc pacc ∧
      compW g tt te (wipeP ρ vs) (ps.drop (i + 1)) pacc m2 (fun acc m2 => Q (.lst acc) m2), fun H' q => ⟨ps.length - (i + 1), by omega, rfl, q⟩, fun x H' hy => ?_⟩
    obtain ⟨F3, p, st3, ex3, hp, rp⟩ := wk.yld i F2 Hc x H' _ _ m2 ex2.fz st2 hy hlt
    have hD3 := ex3.kp D _ hDc lst_nt hm2
    have hF3 := ex3.ff D _ hDc lst_nt hF2
    rw [drop_get hp] at hcomp
    refine ⟨F3, wipeP ρ vs, m2, p, _, st3, rp, hcomp, fun σ4 ρ4 st4 wip h4 => ⟨(wip vs his).trans (wipe_wipe σ vs), ?_⟩⟩
    refine ⟨F3, ρ4, m2, _, st4, h4, fun b F5 H5 m5 st5 ex5 q5 => ?_⟩
    have hD5 := ex5.kp D _ hD3 lst_nt hm2
    have hF5 := ex5.ff D _ hD3 lst_nt hF3
    have hm5 := ex5.mf D _ hD3 lst_nt hm2
    have st5w := st3.step st5.sub st5.nt ex5 st5.mem st5.tab
    cases b with
    | false => exact ⟨hlt, F5, m5, acc, pacc, hD5, Nat.le_succ_of_le hal, st5w, (ex2.trans ex3).trans ex5, hF5, hm5, rpa.mono (ex3.fz.trans ex5.fz), q5⟩
    | true =>
      refine ⟨F5, ρ4, m5, _, st5, q5, fun v y F6 H6 m6 st6 ex6 rp6 q6 => ?_⟩
      have hD6 := ex6.kp D _ hD5 lst_nt hm5
      have hF6 := ex6.ff D _ hD5 lst_nt hF5
      have hm6 := ex6.mf D _ hD5 lst_nt hm5
      have st6w := st5w.step st6.sub st6.nt ex6 st6.mem st6.tab
      refine ⟨acc, hD6, Nat.lt_of_lt_of_le (Nat.lt_of_le_of_lt hal hlt) hlen, hlt, F6, m6, acc ++ [v], pacc ++ [y], upd_same, by simp; omega, ?_, (((ex2.trans ex3).trans ex5).trans ex6).updN (fun u e => absurd e (by rw [hD]; exact fun z => nomatch z)), hF6, hm6, (rpa.mono ((ex3.fz.trans ex5.fz).trans ex6.fz)).append (.cons rp6 .nil), q6⟩
      exact st6w.upd ⟨hF6, hm6, hBD, ⟨_, hD6, lst_nt⟩, ownw⟩ hD6 lst_nc lst_nt lst_no
  · have ei : i = ps.length := by omega
    subst ei
    rw [List.drop_length] at hcomp
    refine .inl ⟨wk.stop _ F2 Hc ex2.fz st2.sub (Nat.le_refl _), k (.ref D) (.lst pacc) (L2.upd F2 D (.lst acc)) Hc m2 ?_ ((ex1.trans ex2).frzN hHD hF2) (.lst upd_same (rpa.mono fun a u e => by rw [upd_ne (ne_of_none e hF2)]; exact e)) hcomp⟩
    exact (st1.step st2.sub st2.nt ex2 st2.mem st2.tab).freeze ⟨hF2, hm2, hBD, ⟨_, hDc, lst_nt⟩, own0⟩ hDc lst_nt lst_no
theorem je_lc {elt tg iter : Expr} {ifs : List Expr} {scope : Scope} {own : List (Str × Nat)} {pos : Pos} {is : List Nat} {ti : DI} {g : DG} {tt : DT} {te : DE} (hc : X.calm = true) (hN : X.N.Nodup) (hi : JI X B tg iter ti) (ok : BlkOk X.N X.env.scope scope own)
    (hg : ∀ (s : Shared) (H : Hp) (C : Addr) (cl : List (Str × Addr)) (fp : List Addr), JG (X.blk s H scope (compEnvC scope cl C X.env) fp) B tg is g) (ht : ∀ (s : Shared) (H : Hp) (C : Addr) (cl : List (Str × Addr)) (fp : List Addr), JTs (X.blk s H scope (compEnvC scope cl C X.env) fp) B ifs tt)
    (he : ∀ (s : Shared) (H : Hp) (C : Addr) (cl : List (Str × Addr)) (fp : List Addr), JE (X.blk s H scope (compEnvC scope cl C X.env) fp) B elt te) (his : ∀ i ∈ is, i ∈ own.map (·.2) := by decide) (hs : ∀ x, foldedSetIterable iter X.env x = pure x := by intro _; rfl) :
    JE X B (.ListComp elt [⟨tg, iter, ifs, 0⟩] scope pos) (wLc ti g tt te (own.map (·.2))) := by
  refine ⟨fun R tk pins s σ F H ρ m Q I st h => ?_⟩
  obtain ⟨wi, hpi, hk⟩ := hi.pi R tk
  have pl := pe_lc (pos := pos) (g := tG X B is g) (tt := tT X B pBot tt) (te := tE X B pBot te) hc hN hpi ok (fun s H C cl fp => (hg s H C cl fp).pg) (fun s H C cl fp => (ht s H C cl fp).pts pBot takes_bot) (fun s H C cl fp => (he s H C cl fp).pe takes_bot) hs
  refine thn (pl.run pins s σ H (fun v H' => ∃ p F' m', PSt X.w X.K B F' σ H' ρ m' ∧ Ext F H m F' H' m' ∧ Rep X.K F' v p ∧ Q p m') I ?_) fun u s' ⟨v, H', I', r, p, F', m', st', ex, rp, q⟩ => ⟨v, p, F', H', m', I', st', ex, r, rp, q⟩
  exact lc_read (R := R) (Q := Q) hk his st h fun v p F' H' m' st' ex rp q => ⟨p, F', m', st', ex, rp, q⟩
/-- name = [..] on one line, the name a local -/
theorem js_setLc {y : Str} {py : Pos} {elt tg iter : Expr} {ifs : List Expr} {scope : Scope} {own : List (Str × Nat)} {pos spos : Pos} {is : List Nat} {ti : DI} {g : DG} {tt : DT} {te : DE} (i : Nat) (hc : X.calm = true) (hN : X.N.Nodup) (hi : JI X B tg iter ti) (ok : BlkOk X.N X.env.scope scope own)
    (hg : ∀ (s : Shared) (H : Hp) (C : Addr) (cl : List (Str × Addr)) (fp : List Addr), JG (X.blk s H scope (compEnvC scope cl C X.env) fp) B tg is g) (ht : ∀ (s : Shared) (H : Hp) (C : Addr) (cl : List (Str × Addr)) (fp : List Addr), JTs (X.blk s H scope (compEnvC scope cl C X.env) fp) B ifs tt)
    (he : ∀ (s : Shared) (H : Hp) (C : Addr) (cl : List (Str × Addr)) (fp : List Addr), JE (X.blk s H scope (compEnvC scope cl C X.env) fp) B elt te) (his : ∀ i ∈ is, i ∈ own.map (·.2) := by decide) (hy : X.N[i]? = some y := by rfl) (hyl : X.env.scope.names.lookup y = some .local := by rfl)
    (hsw : swapsWith (.ListComp elt [⟨tg, iter, ifs, 0⟩] scope pos) (some (.Name y py)) spos.line X.env = pure true := by exact sw_true rfl rfl rfl (by decide +kernel)) (hs : ∀ x, foldedSetIterable iter X.env x = pure x := by intro _; rfl) :
    JS X B (.Assign [.Name y py] (.ListComp elt [⟨tg, iter, ifs, 0⟩] scope pos) spos) (wSet i (wLc ti g tt te (own.map (·.2)))) := by
  refine ⟨fun D tk pins s σ F H ρ m I st h => ?_⟩
  obtain ⟨wi, hpi, hk⟩ := hi.pi D.ex tk
  have pl := ps_setLc (pos := pos) (g := tG X B is g) (tt := tT X B pBot tt) (te := tE X B pBot te) hc hN hy hyl hsw hpi ok (fun s H C cl fp => (hg s H C cl fp).pg) (fun s H C cl fp => (ht s H C cl fp).pts pBot takes_bot) (fun s H C cl fp => (he s H C cl fp).pe takes_bot) hs
  refine thn (pl.run pins s σ H { nx := fun σ' H' => ∃ F' ρ' m', PSt X.w X.K B F' σ' H' ρ' m' ∧ Same F F' ∧ D.nx ρ' m', rt := fun _ _ => False } I ?_) fun fl s1 q => ?_
  · exact lc_read (R := D.ex) (Q := fun p m1 => D.nx (PL.put ρ i (some (.val p))) m1) hk his st h fun v p F' H' m' st' ex rp q => ⟨F', _, m', st'.put (slot_lt (w := X.w) (K := X.K) I hy) rp, ex.fz, q⟩
  · cases fl with
    | next => obtain ⟨σ', H', I', F', ρ', m', st', e, q⟩ := q; exact ⟨σ', F', H', ρ', m', I', st', e, q⟩
    | ret u => obtain ⟨_, _, _, _, _, q⟩ := q; exact q.elim
    | brk => obtain ⟨_, _, _, q⟩ := q; exact q.elim
    | cont => obtain ⟨_, _, _, q⟩ := q; exact q.elim
end
end PL


namespace PL
open PySem PySem.Spec PyProof.Rows L2

/-! ### a def by its body -/
@[simp] def startP (N : List Str) (ps : List PV) : PEnv := ps.map (fun p => some (.val p)) ++ List.replicate (N.length - ps.length) none
section
variable {P : Program} {w : World} {K : PySem.W.Frag} {mg : Str → Option Value} {base : Heap} {T : List (Addr × Str)}
theorem pst_start {N : List Str} {vs : List V} {ps : List PV} {F H : Hp} {m : Mem} (hs : Same F H) (nt : ∀ a o, F a = some o → noTbl o) (hm : ∀ a c, m a = some c → F a = none ∧ RepC K F H a c) (ht : LamX.Tabs T H) (rp : RepAll K F vs ps) :
    PSt w K ⟨P, F, H, m, T⟩ F (L2.start N vs) H (startP N ps) m := by
  have hl := rp.length
  have key : ∀ {i : Nat} {v : SV}, (startP N ps)[i]? = some (some v) → ∃ p, v = .val p ∧ ps[i]? = some p := fun {i v} h => by
    unfold startP at h
    by_cases hi : i < ps.length
    · rw [List.getElem?_append_left (by simpa using hi), List.getElem?_map] at h
      cases e : ps[i]? with
      | none => rw [e] at h; cases h
      | some p => rw [e] at h; simp at h; exact ⟨p, h.symm, rfl⟩
    · rw [List.getElem?_append_right (by simpa using hi), List.getElem?_replicate] at h
      split at h <;> cases h
  refine ⟨by simp [startP, L2.start, hl], hs, nt, fun i p h => ?_, fun i o h => ?_, fun i j o o' a hij h => ?_, hm, Ext.refl _ _ _, ht⟩
  · obtain ⟨q, e, hq⟩ := key h
    cases e
    obtain ⟨v, hv, r⟩ := rp.get hq
    refine ⟨v, ?_, r⟩
    unfold L2.start
    have hi := (List.getElem?_eq_some_iff.mp hv).1
    rw [List.getElem?_append_left (by simpa using hi), List.getElem?_map, hv]
    rfl
  · obtain ⟨q, e, _⟩ := key h
    cases e
  · obtain ⟨q, e, _⟩ := key h
    cases e
/-- THE RULE for a def, its code object told -/
theorem fn_okC {x qual : Str} {st : Stmt} {f : Addr} {fd : FuncData} {N ps : List Str} {k : Nat} {S : SpP} (F : Fun K x qual st f fd) (Sc : FnScope N ps (defScope st))
    (hbody : ∀ (cdv : Value) (A : Around) (outer : List Env) (s : Shared) (H H0 F0 : Hp) (m0 : Mem) (E : XK), fd.code = cdv → Room k (A.deeper (envOfC qual (defScope st) s.heap.objs.size f cdv)) →
      ∃ t, JB (cxOf (L2N.CX P w) P w K mg base N qual (defScope st) f cdv A outer s H E) ⟨P, F0, H0, m0, T⟩ (defBody st) t ∧ ∀ qs m Q R, S qs m Q R → qs.length = ps.length → t (startP N qs) m { nx := fun _ m' => Q .non m', rt := Q, ex := fun _ => R }) :
    FnOk P w K mg base (L2N.CX P w) (k + 1) f fd ps (spOf w K T ps.length S) := by
  obtain ⟨oc, od, kV, doc, pm, an, cdv, ct, osl, rfl, lk, hcd⟩ := F.ex
  refine fn_of lk hcd Sc (fun vs H Q E h => ?_) (fun A outer s H vs Q E hr h => ?_)
  · obtain ⟨_, _, _, _, _, h, _⟩ := h
    exact h
  · obtain ⟨F0, m, qs, Qp, Rp, hl, hs, nt, hm, ht, rp, hS, hQ, hR⟩ := h
    obtain ⟨t, hj, hk⟩ := hbody cdv A outer s H H F0 m E rfl hr
    have hw := hk qs m Qp Rp hS (by rw [← rp.length]; exact hl)
    have tk : L2N.Takes (cxOf (L2N.CX P w) P w K mg base N qual (defScope st) f cdv A outer s H E) (WR (cxOf (L2N.CX P w) P w K mg base N qual (defScope st) f cdv A outer s H E) ⟨P, F0, H, m, T⟩ (fun _ => Rp)) :=
      (L2N.takes_of (E := E) rfl rfl rfl rfl).imp fun c d σ H' ⟨F', ρ', m', C, e1, e2, st', q⟩ => by
        subst e1 e2
        exact hR C F' H' m' st'.sub st'.nt st'.mem st'.tab st'.ext q
    refine ⟨_, hj.pss tk, F0, startP N qs, m, _, rfl, pst_start hs nt hm ht rp, hw, fun σ' F' H' ρ' m' st' _ q => ?_, fun v p F' H' m' g r q => ?_, fun _ _ _ _ _ _ _ q => q.elim, fun _ _ _ _ _ _ _ q => q.elim⟩
    · exact hQ .non .non F' H' m' st'.sub st'.nt st'.mem st'.tab st'.ext .non q
    · exact hQ v p F' H' m' g.sub g.nt g.mem g.tab g.ext r q
/-- THE RULE for a def -/
theorem fn_ok {x qual : Str} {st : Stmt} {f : Addr} {fd : FuncData} {N ps : List Str} {k : Nat} {S : SpP} (F : Fun K x qual st f fd) (Sc : FnScope N ps (defScope st))
    (hbody : ∀ (cdv : Value) (A : Around) (outer : List Env) (s : Shared) (H H0 F0 : Hp) (m0 : Mem) (E : XK), Room k (A.deeper (envOfC qual (defScope st) s.heap.objs.size f cdv)) →
      ∃ t, JB (cxOf (L2N.CX P w) P w K mg base N qual (defScope st) f cdv A outer s H E) ⟨P, F0, H0, m0, T⟩ (defBody st) t ∧ ∀ qs m Q R, S qs m Q R → qs.length = ps.length → t (startP N qs) m { nx := fun _ m' => Q .non m', rt := Q, ex := fun _ => R }) :
    FnOk P w K mg base (L2N.CX P w) (k + 1) f fd ps (spOf w K T ps.length S) := fn_okC F Sc fun cdv A outer s H H0 F0 m0 E _ hr => hbody cdv A outer s H H0 F0 m0 E hr
theorem passes_own {X : Cx} {Kf : Value → Shared → Prop} {E₁ : Value → Shared → Prop} (hx : X.xe = fun e s' => wpAny (model X.prog X.w) X.A (leaving X.env e) (fun _ s'' => Kf e s'') E₁ s' := by rfl) : PassesOwn (model X.prog X.w) X.A X.env X.xe := passes_of hx
theorem CalM.mono {k j : Nat} {x : Str} {n : Nat} {S : SpP} (c : CalM P w K mg base T k x n S) (h : k ≤ j) : CalM P w K mg base T j x n S := by
  obtain ⟨f, fd, ps, Fn, r⟩ := c.ex
  exact ⟨f, fd, ps, Fn.mono h, r⟩
theorem CalM.imp {k : Nat} {x : Str} {n : Nat} {S S' : SpP} (c : CalM P w K mg base T k x n S) (h : ∀ ps m Q R, S' ps m Q R → S ps m Q R) : CalM P w K mg base T k x n S' := by
  obtain ⟨f, fd, ps, Fn, r⟩ := c.ex
  refine ⟨f, fd, ps, Fn.imp fun vs H Q E q => ?_, r⟩
  obtain ⟨F0, m, qs, Qp, Rp, h1, h2, h3, h4, h5, h6, hS, hQ⟩ := q
  exact ⟨F0, m, qs, Qp, Rp, h1, h2, h3, h4, h5, h6, h _ _ _ _ hS, hQ⟩
end

/-! ### raise -/
section
variable {X : Cx} {B : Bs} {pos pos' : Pos}
/-- the class X of the program's own, over ValueError, as raise wants it -/
structure ExcP (K : PySem.W.Frag) (mg : Str → Option Value) (x : Str) (C : Addr) : Prop where
  gl : mg x = some (.ref C)
  ex : PySem.W.excIn K C [.type "ValueError", .type "Exception", .type "BaseException", .type "object"] "ValueError.__new__" = true
  kp : PySem.W.keepIn K (.ref C) = true
  sb : PySem.W.subIn K (.ref C) (.type "BaseException") = some true
  ty : PySem.W.typeIn K (.ref C) = some (.type "type")
@[simp] def wRaise (C : Addr) : DS := fun ρ m D => D.ex ρ C m
theorem js_raise {x msg : Str} {j : Nat} {p p2 : Pos} {C : Addr} (E : ExcP X.K X.mg x C) (hc : X.calm = true) (hg : Gl X x := by rfl) (hdb : (x == ("__debug__" : Str)) = false := by decide) :
    JS X B (.Raise (some (.Call (.Name x p) [.Constant (.str msg) j p2] [] pos)) none pos') (wRaise C) := by
  refine ⟨fun D tk pins s σ F H ρ m I st h => ?_⟩
  have pr := L2N.ps_raise (pos := pos') hc tk (L2N.pmk_own (m := msg) (j := j) (p := p) (p2 := p2) (pos := pos) PySem.F.excBase_ValueError E.ex E.gl E.kp (raises_own E.sb E.ty) hg hdb)
  refine thn (pr.run pins s σ H { nx := fun _ _ => False, rt := fun _ _ => False } I ⟨F, ρ, m, C, rfl, rfl, st, h⟩) fun fl s1 q => ?_
  cases fl with
  | next => obtain ⟨_, _, _, q⟩ := q; exact q.elim
  | ret u => obtain ⟨_, _, _, _, _, q⟩ := q; exact q.elim
  | brk => obtain ⟨_, _, _, q⟩ := q; exact q.elim
  | cont => obtain ⟨_, _, _, q⟩ := q; exact q.elim
end
end PL


namespace PL
open PySem PySem.Spec PyProof.Rows L2

/-! ### what a name holds alone -/
section
variable {X : Cx} {B : Bs} {pins : List (Addr × Obj)} {F H : Hp} {σ : L2.St} {ρ : PEnv} {m : Mem}
theorem PSt.putOwn {w : World} {K : PySem.W.Frag} {i : Nat} {D : Addr} {o : OO} (st : PSt w K B F σ H ρ m) (hi : i < σ.length) (f : Free B F H σ ρ m D) (r : RepO B.P w K F H D o) : PSt w K B F (σ.set i (some (.ref D))) H (PL.put ρ i (some (.own o))) m := by
  rw [put_set]
  obtain ⟨f1, f2, f3, _, f5⟩ := f
  have hiρ : i < ρ.length := by rw [st.len]; exact hi
  refine ⟨by rw [List.length_set, List.length_set]; exact st.len, st.sub, st.nt, fun j q h => ?_, fun j o h => ?_, fun j k o o' a hjk h1 h2 h3 => ?_, st.mem, st.ext, st.tab⟩
  · have hj : i ≠ j := by
      rintro rfl
      rw [List.getElem?_set_self hiρ] at h
      cases h
    rw [List.getElem?_set_ne hj]
    exact st.val j q (set_ne' hj h)
  · by_cases hj : i = j
    · subst hj
      rw [List.getElem?_set_self hiρ] at h
      cases h
      exact ⟨D, by rw [List.getElem?_set_self hi], f1, f2, f3, r⟩
    · rw [List.getElem?_set_ne hj]
      exact st.own j o (set_ne' hj h)
  · by_cases hj : i = j
    · subst hj
      have hk : i ≠ k := hjk
      rw [List.getElem?_set_self hi] at h3
      cases h3
      rw [List.getElem?_set_ne hk]
      exact f5 k o' (set_ne' hk h2)
    · rw [List.getElem?_set_ne hj] at h3
      by_cases hk : i = k
      · subst hk
        rw [List.getElem?_set_self hi]
        intro z
        cases z
        exact f5 j o (set_ne' hj h1) h3
      · rw [List.getElem?_set_ne hk]
        exact st.apart j k o o' a hjk (set_ne' hj h1) (set_ne' hk h2) h3
/-- the object that a name holds alone is changed -/
theorem PSt.setOwn {w : World} {K : PySem.W.Frag} {i : Nat} {D : Addr} {o o' : OO} {u : HO} (st : PSt w K B F σ H ρ m) (ho : ρ[i]? = some (some (.own o))) (hσ : σ[i]? = some (some (.ref D))) (nc : ∀ c q, H c = some (LamX.CodeO c q) → c ≠ D)
    (r : RepO B.P w K F (L2.upd H D u) D o') : PSt w K B F σ (L2.upd H D u) (PL.put ρ i (some (.own o'))) m := by
  rw [put_set]
  have hiρ : i < ρ.length := (List.getElem?_eq_some_iff.mp ho).1
  obtain ⟨a, h1, h2, h3, h4, h5⟩ := st.own i o ho
  rw [hσ] at h1
  cases h1
  obtain ⟨v, hv, vnt, vno⟩ := h5.at
  have neF : ∀ a u', F a = some u' → a ≠ D := fun a u' e z => by subst z; rw [h2] at e; cases e
  have stay : ∀ {a : Addr}, a ≠ D → ∀ u', H a = some u' → L2.upd H D u a = some u' := fun ne u' hu => by rw [upd_ne ne]; exact hu
  refine ⟨by rw [List.length_set]; exact st.len, fun a u' e => stay (neF a u' e) u' (st.sub a u' e), st.nt, fun j q h => ?_, fun j o2 h => ?_, fun j k o2 o3 a hjk g1 g2 g3 => ?_, fun a c e => ?_, ?_, ?_⟩
  · have hj : i ≠ j := by
      rintro rfl
      rw [List.getElem?_set_self hiρ] at h
      cases h
    exact st.val j q (set_ne' hj h)
  · by_cases hj : i = j
    · subst hj
      rw [List.getElem?_set_self hiρ] at h
      cases h
      exact ⟨D, hσ, h2, h3, h4, r⟩
    · have e := set_ne' hj h
      obtain ⟨b, b1, b2, b3, b4, b5⟩ := st.own j o2 e
      have ne : b ≠ D := by
        rintro rfl
        exact st.apart i j o o2 b hj ho e hσ b1
      exact ⟨b, b1, b2, b3, b4, b5.keep (Same.refl F) fun u' hu _ => stay ne u' hu⟩
  · have e1 : ∃ o2', ρ[j]? = some (some (.own o2')) := by
      by_cases hj : i = j
      · subst hj; exact ⟨o, ho⟩
      · exact ⟨o2, set_ne' hj g1⟩
    have e2 : ∃ o3', ρ[k]? = some (some (.own o3')) := by
      by_cases hk : i = k
      · subst hk; exact ⟨o, ho⟩
      · exact ⟨o3, set_ne' hk g2⟩
    obtain ⟨_, e1⟩ := e1
    obtain ⟨_, e2⟩ := e2
    exact st.apart j k _ _ a hjk e1 e2 g3
  · obtain ⟨g1, g2⟩ := st.mem a c e
    have ne : a ≠ D := fun z => by subst z; rw [h3] at e; cases e
    refine ⟨g1, ?_⟩
    cases c with
    | dice => obtain ⟨i, j, e1⟩ := g2; exact ⟨i, j, stay ne _ e1⟩
    | ins C fs =>
      obtain ⟨dx, fv, e1, e0, e2, e3⟩ := g2
      have ne2 : dx ≠ D := by
        rintro rfl
        exact vno a (Option.some.inj (hv.symm.trans e0))
      exact ⟨dx, fv, stay ne _ e1, stay ne2 _ e0, e2, e3⟩
  · refine ⟨st.ext.fz, fun a u' e n' e' => ?_, st.ext.ff, st.ext.mf, fun a u' e n' => ?_⟩
    · have ne : a ≠ D := fun z => h4 u' (z ▸ e) n'
      exact stay ne _ (st.ext.kp a u' e n' e')
    · obtain ⟨u2, e2, n2⟩ := st.ext.st a u' e n'
      have ne : a ≠ D := fun z => h4 u' (z ▸ e) n'
      exact ⟨u2, stay ne _ e2, n2⟩
  · intro p hp
    obtain ⟨ps, q1, q2, q3⟩ := st.tab p hp
    have ne : p.1 ≠ D := fun z => vnt ps (Option.some.inj (hv.symm.trans (z ▸ q1)))
    refine ⟨ps, stay ne _ q1, q2, fun pos cv hc => ?_⟩
    obtain ⟨c, e1, e2⟩ := q3 pos cv hc
    exact ⟨c, e1, stay (nc c _ e2) _ e2⟩
/-- an object of data is no code object -/
theorem nc_of {s : Shared} (I : Inv X pins σ H s) {D : Addr} (h : ∃ o, s.heap.get? D = some o ∧ ∀ vs, o.data ≠ .fields vs) : ∀ c q, H c = some (LamX.CodeO c q) → c ≠ D := fun c q e z => by
  subst z
  obtain ⟨⟨oc, vs, t, h1, h2, h3⟩, _⟩ := I.hok c _ e
  obtain ⟨o, h4, h5⟩ := h
  rw [h1] at h4
  cases h4
  exact h5 vs h2

/-! ### lists of one's own -/
/-- a new list, held by nobody yet -/
structure JN (X : Cx) (B : Bs) (e : Expr) (t : DA) : Prop where
  run : ∀ (R : PX), L2N.Takes X (WR X B R) → ∀ (pins : List (Addr × Obj)) (s : Shared) (σ : L2.St) (F H : Hp) (ρ : PEnv) (m : Mem) (Q : List PV → Mem → Prop), Inv X pins σ H s → PSt X.w X.K B F σ H ρ m → t ρ m Q (R ρ) →
    wpAny (model X.prog X.w) X.A (eval e X.env) (fun u s' => ∃ D vs ps F' H' m', u = .ref D ∧ Inv X pins σ H' s' ∧ PSt X.w X.K B F' σ H' ρ m' ∧ Ext F H m F' H' m' ∧ Free B F' H' σ ρ m' D ∧ H' D = some (.lst vs) ∧ RepAll X.K F' vs ps ∧ Q ps m') X.xe s
variable {e : Expr} {te : DE} {pos : Pos}
@[simp] def wLst' (t : DA) : DA := fun ρ m Q R => t ρ m (fun ps m1 => ps.length ≤ 1000 ∧ Q ps m1) R
theorem jn_lst {es : List Expr} {t : DA} (h : JA X B es t) : JN X B (.List es pos) (wLst' t) := by
  refine ⟨fun R tk pins s σ F H ρ m Q I st hq => ?_⟩
  refine wpAny_List_spliced (thn (h.run R tk pos pins s σ F H ρ m _ I st hq) fun us s1 ⟨xs, ps, F1, H1, m1, I1, st1, ex1, r, rp, _, hz, q⟩ => ⟨by rw [← r.length, rp.length]; exact line1000 hz, ?_⟩)
  have hf : H1 s1.heap.objs.size = none := I1.hok.fresh (Nat.le_refl _)
  refine ⟨s1.heap.objs.size, xs, ps, F1, _, m1, rfl, I1.laid (t' := s1.toks) (o := .lst xs) (fun b u e => Heap.get?_push_of_some _ e) (Nat.le_refl _) ?_, st1.newH hf, ex1.trans (Ext.newH st1.sub hf), ⟨st1.sub.free hf, st1.mem_none hf, st1.ext.free hf, ⟨_, upd_same, lst_nt⟩, st1.own_ne hf⟩, upd_same, rp, q⟩
  exact ⟨by rw [rp.length]; exact line1000 hz, us, 0, r, Heap.get?_push_size _ rfl⟩
@[simp] def wOwnL (i : Nat) (t : DA) : DS := fun ρ m D => t ρ m (fun ps m1 => D.nx (put ρ i (some (.own (.lst ps)))) m1) (D.ex ρ)
theorem js_ownL {x : Str} {pos' : Pos} {t : DA} (i : Nat) (hN : X.N.Nodup) (he : JN X B e t) (hi : X.N[i]? = some x := by rfl) (hx : Loc X.env.scope x := by first | exact Or.inl rfl | exact Or.inr rfl) (hs : swapsWith e (some (.Name x pos')) pos.line X.env = pure false := by rfl) (hf : X.fn x = true ∨ X.env.scope.names.lookup x = some .local := by first | exact .inl rfl | exact .inr rfl | assumption) :
    JS X B (.Assign [.Name x pos'] e pos) (wOwnL i t) := by
  refine ⟨fun D tk pins s σ F H ρ m I st h => ?_⟩
  refine wpAny_Assign_Name (thn (he.run D.ex tk pins s σ F H ρ m _ I st h) fun v s1 ⟨a, vs, ps, F1, H1, m1, ev, I1, st1, ex1, fr, hD, rp, q1⟩ => ?_) hs
  subst ev
  exact store_ok (v := .ref a) I1 hN hi hx rfl (fun s2 I2 => ⟨_, F1, H1, _, m1, I2, st1.putOwn (o := .lst ps) (slot_lt (w := X.w) (K := X.K) I1 hi) fr ⟨vs, hD, rp⟩, ex1.fz, q1⟩) hf
/-- x.append(e) -/
@[simp] def wApp (i : Nat) (te : DE) : DS := fun ρ m D => match at' ρ i with
  | some (.own (.lst xs)) => te ρ m (fun p m1 => xs.length ≤ 1000000 ∧ D.nx (put ρ i (some (.own (.lst (xs ++ [p]))))) m1) (D.ex ρ)
  | _ => False
theorem js_app {x : Str} {px apos cpos : Pos} (i : Nat) (he : JE X B e te) (hi : X.N[i]? = some x := by rfl) (hv : Vis X.env.scope x := by first | exact Or.inl rfl | exact Or.inr (Or.inl rfl) | exact Or.inr (Or.inr rfl))
    (hd : (x == ("__debug__" : Str)) = false := by decide) (hcd : (x == ("__classdict__" : Str)) = false := by decide)
    (hbase : attributeBase (.Name x px) "append" X.env (eval (.Name x px) X.env) = eval (.Name x px) X.env := by rfl)
    (hfew : ((backTo cpos (starEach [e] X.env)).all (fun x => !x.1) && (backToKw cpos (keywordEach [] X.env)).all (fun x => x.1.isSome)
      && decide (([e] : List Expr).length + ([] : List Keyword).length + (if ([] : List Keyword).isEmpty then 0 else 1) < 30)) = true := by rfl)
    (hline : (apos.endLine == cpos.line) = true := by rfl) (hst : starEach [e] X.env = (false, eval e X.env) :: starEach [] X.env := by rfl) (hplain : (backTo cpos (starEach [] X.env)).any (·.1) = false := by rfl)
    (hs : swapsWith (.Call (.Attribute (.Name x px) "append" apos) [e] [] cpos) none pos.line X.env = pure false := by rfl) :
    JS X B (.Expr (.Call (.Attribute (.Name x px) "append" apos) [e] [] cpos) pos) (wApp i te) := by
  refine ⟨fun D tk pins s σ F H ρ m I st h => ?_⟩
  -- the list stands, whatever the argument does
  have pe := pe_bm PySem.F.plainAttrs_list PySem.F.slot_list_append PySem.F.type_list_append mt_append (pe_var (pos := px) (i := i) hi hv hd hcd) (pa_cons (he.pe tk) pa_nil hst) hbase hfew hline hst hplain
  have ps := ps_expr (pos := pos) pe hs
  unfold wApp at h
  split at h
  · rename_i xs ho
    have ho' := at_get ho
    obtain ⟨a, h1, h2, h3, h4, vs, hH, rp⟩ := st.own i _ ho'
    refine thn (ps.run pins s σ H { nx := fun σ' H' => ∃ F' ρ' m', PSt X.w X.K B F' σ' H' ρ' m' ∧ Same F F' ∧ D.nx ρ' m', rt := fun _ _ => False } I ⟨.ref a, h1, .inl ⟨rfl, vs, SqL.of hH⟩, F, ρ, m, _, st, h, fun v p F' H' m' st' ex rp' q => ?_⟩) fun fl s1 q => ?_
    · obtain ⟨hz, q⟩ := q
      obtain ⟨a', g1, g2, g3, g4, vs', gH, grp⟩ := st'.own i _ ho'
      rw [h1] at g1
      cases g1
      refine ⟨a, vs', v, rfl, rfl, gH, by rw [grp.length]; exact Nat.lt_of_le_of_lt hz (by decide), F', _, m', ?_, ex.fz, q⟩
      exact st'.setOwn ho' h1 (fun c q e z => by subst z; rw [gH] at e; unfold LamX.CodeO at e; cases e) ⟨vs' ++ [v], upd_same, grp.append (.cons rp' .nil)⟩
    · cases fl with
      | next => obtain ⟨σ', H', I', F', ρ', m', st', e, q⟩ := q; exact ⟨σ', F', H', ρ', m', I', st', e, q⟩
      | ret u => obtain ⟨_, _, _, _, _, q⟩ := q; exact q.elim
      | brk => obtain ⟨_, _, _, q⟩ := q; exact q.elim
      | cont => obtain ⟨_, _, _, q⟩ := q; exact q.elim
  · exact h.elim
/-- the list that a name holds alone, as a value: it's told so from now on -/
@[simp] def wFrz (i : Nat) (u : DS) : DS := fun ρ m D => match at' ρ i with
  | some (.own (.lst xs)) => u (put ρ i (some (.val (.lst xs)))) m D
  | _ => False
theorem jb_frz {sts : List Stmt} {u : DS} (i : Nat) (h2 : JB X B sts u) : JB X B sts (wFrz i u) := by
  refine jb_ghost h2 fun D pins s σ F H ρ m I st h => ?_
  unfold wFrz at h
  split at h
  · rename_i xs ho
    have ho' := at_get ho
    obtain ⟨a, h1, h2, h3, h4, vs, hH, rp⟩ := st.own i _ ho'
    have hi := (List.getElem?_eq_some_iff.mp h1).1
    have st2 := (st.clear i).freeze (D := a) ⟨h2, h3, h4, ⟨_, hH, lst_nt⟩, fun j o e z => ?_⟩ hH lst_nt lst_no
    · have e : Same F (L2.upd F a (.lst vs)) := fun b u e => by rw [upd_ne (ne_of_none e h2)]; exact e
      have st3 := st2.put (v := .ref a) (p := .lst xs) (by rw [List.length_set]; exact hi) (.lst upd_same (rp.mono e))
      rw [List.set_set] at st3
      have eσ : σ.set i (some (.ref a)) = σ := by
        apply List.ext_getElem?
        intro j
        by_cases hj : i = j
        · subst hj; rw [List.getElem?_set_self hi, h1]
        · rw [List.getElem?_set_ne hj]
      rw [eσ] at st3
      refine ⟨_, _, m, st3, e, ?_⟩
      rw [put_set, put_set, List.set_set, ← put_set]
      exact h
    · rw [put_set] at e
      have hj : i ≠ j := by
        rintro rfl
        rw [List.getElem?_set_self (by rw [st.len]; exact hi)] at e
        cases e
      rw [List.getElem?_set_ne hj] at z
      exact st.apart i j _ o a hj ho' (set_ne' hj e) h1 z
  · exact h.elim
end
end PL


/-! The pure layer: dicts that a name holds alone. -/
namespace PL
open PySem PySem.Spec PyProof.Rows L2

/-! ### keys and tables -/
section
variable {κ : Type} [DecidableEq κ]
def pput (kvs : List (κ × PV)) (k : κ) (p : PV) : List (κ × PV) :=
  if (kvs.any fun kv => decide (kv.1 = k)) = true then kvs.map (fun kv => if kv.1 = k then (kv.1, p) else kv) else kvs ++ [(k, p)]
def pval (kvs : List (κ × PV)) (k : κ) : Option PV := (kvs.find? fun kv => decide (kv.1 = k)).map (·.2)
theorem pput_len (kvs : List (κ × PV)) (k : κ) (p : PV) : (pput kvs k p).length ≤ kvs.length + 1 := by
  unfold pput
  split
  · rw [List.length_map]; exact Nat.le_succ _
  · rw [List.length_append, List.length_singleton]; exact Nat.le_refl _
end
@[simp] def pvK : PV → Option (Option Key)
  | .non => some none
  | .int i => some (some (.inl i))
  | .str x => some (some (.inr x))
  | _ => none
@[simp] def kPV : Option Key → PV
  | none => .non
  | some (.inl i) => .int i
  | some (.inr x) => .str x
@[simp] def pvB : PV → Option (Option Bool)
  | .non => some none
  | .bl b => some (some b)
  | _ => none
@[simp] def bPV : Option Bool → PV
  | none => .non
  | some b => .bl b
def pvKs : List PV → Option (List (Option Key))
  | [] => some []
  | p :: ps => match pvK p, pvKs ps with
    | some k, some ks => some (k :: ks)
    | _, _ => none
@[simp] def pvT : PV → Option (List (Option Key))
  | .tup ps => pvKs ps
  | _ => none
section
variable {K : PySem.W.Frag} {F : Hp} {P : Program} {w : World}
theorem pvK_is {p : PV} {k : Option Key} {v : V} {u : Value} (h : pvK p = some k) (r : Rep K F v p) (rv : RelV v u) : (noneKind P w).is k u = true := by
  cases r with
  | non => cases h; cases (show u = Value.none from rv); rfl
  | int i => cases h; obtain ⟨t, rfl⟩ := (show ∃ t, u = Value.int i t from rv); exact mixKind_int P w i t
  | str x => cases h; obtain ⟨t, rfl⟩ := (show ∃ t, u = Value.str x t from rv); exact mixKind_str P w x t
  | _ => cases h
theorem pvK_nk {p : PV} {k : Option Key} {v : V} (h : pvK p = some k) (r : Rep K F v p) : v = nkV k := by
  cases r with
  | non => cases h; rfl
  | int i => cases h; rfl
  | str x => cases h; rfl
  | _ => cases h
theorem pvKs_nk : ∀ {ps : List PV} {ks : List (Option Key)} {vs : List V}, pvKs ps = some ks → RepAll K F vs ps → vs = ks.map nkV
  | [], ks, _, h, .nil => by cases h; rfl
  | p :: ps, ks, _, h, .cons r t => by
    simp only [pvKs] at h
    split at h
    · rename_i k ks' h1 h2
      cases h
      rw [pvK_nk h1 r, pvKs_nk h2 t, List.map_cons]
    · cases h
theorem nk_is {k : Option Key} {u : Value} (rv : RelV (nkV k) u) : (noneKind P w).is k u = true := by
  cases k with
  | none => cases (show u = Value.none from rv); rfl
  | some k => exact kV_is (P := P) (w := w) rv
theorem nks_are : ∀ {ks : List (Option Key)} {us : List Value}, Vals (ks.map nkV) us → ItemsAre (noneKind P w) ks us
  | [], _, r => by rw [List.map_nil] at r; cases r; exact .nil
  | k :: ks, _, r => by
    rw [List.map_cons] at r
    cases r with
    | cons h t => exact .cons (nk_is h) (nks_are t)
theorem pvB_is {p : PV} {k : Option Bool} {v : V} {u : Value} (h : pvB p = some k) (r : Rep K F v p) (rv : RelV v u) : (bnKind P w).is k u = true := by
  cases r with
  | non => cases h; cases (show u = Value.none from rv); rfl
  | bl b => cases h; cases (show u = Value.bool b from rv); exact BEq.rfl
  | _ => cases h
theorem k_rep {k : Option Key} {u : Value} (h : (noneKind P w).is k u = true) : ∃ v, RelV v u ∧ Rep K F v (kPV k) := by
  cases k with
  | none => cases nk_none h; exact ⟨.non, rfl, .non⟩
  | some k =>
    rcases keyIs_shape h with ⟨i, t, rfl, rfl⟩ | ⟨x, t, rfl, rfl⟩
    · exact ⟨.int i, ⟨t, rfl⟩, .int i⟩
    · exact ⟨.str x, ⟨t, rfl⟩, .str x⟩
theorem b_rep {k : Option Bool} {u : Value} (h : (bnKind P w).is k u = true) : ∃ v, RelV v u ∧ Rep K F v (bPV k) := by
  cases bn_shape h
  cases k with
  | none => exact ⟨.non, rfl, .non⟩
  | some b => exact ⟨.bl b, rfl, .bl b⟩
theorem nkV_rep : ∀ k : Option Key, Rep K F (nkV k) (kPV k)
  | none => .non
  | some (.inl i) => .int i
  | some (.inr x) => .str x
theorem nkVs_rep : ∀ ks : List (Option Key), RepAll K F (ks.map nkV) (ks.map kPV)
  | [] => .nil
  | k :: ks => .cons (nkV_rep k) (nkVs_rep ks)
end
section
variable {κ : Type} [DecidableEq κ] {K : PySem.W.Frag} {F : Hp}
theorem DPair.any {kvs : List (κ × PV)} {vs : List (κ × Value)} (r : DPair K F kvs vs) (k : κ) : (kvs.any fun kv => decide (kv.1 = k)) = vs.any fun kv => decide (kv.1 = k) := by
  unfold DPair at r
  induction r with
  | nil => rfl
  | cons h t ih => rw [List.any_cons, List.any_cons, ih, h.1]
theorem DPair.put {kvs : List (κ × PV)} {vs : List (κ × Value)} (r : DPair K F kvs vs) (k : κ) {y : V} {p : PV} {u : Value} (ry : RelV y u) (rp : Rep K F y p) : DPair K F (pput kvs k p) (stored vs k u) := by
  unfold pput stored
  rw [r.any k]
  split
  · unfold DPair at r ⊢
    rename_i e0
    clear e0
    induction r with
    | nil => exact .nil
    | @cons a b as bs h t ih =>
      rw [List.map_cons, List.map_cons]
      refine .cons ?_ ih
      obtain ⟨h1, h2⟩ := h
      by_cases e : a.1 = k
      · rw [if_pos e, if_pos (h1.symm.trans e)]; exact ⟨h1, y, ry, rp⟩
      · rw [if_neg e, if_neg (fun z => e (h1.trans z))]; exact ⟨h1, h2⟩
  · exact Paired.snoc r ⟨rfl, y, ry, rp⟩
theorem DPair.val {kvs : List (κ × PV)} {vs : List (κ × Value)} (r : DPair K F kvs vs) (k : κ) : (valueAt vs k = none ∧ pval kvs k = none) ∨ ∃ u v p, valueAt vs k = some u ∧ pval kvs k = some p ∧ RelV v u ∧ Rep K F v p := by
  unfold DPair at r
  induction r with
  | nil => exact .inl ⟨rfl, rfl⟩
  | @cons a b as bs h t ih =>
    obtain ⟨h1, v, h2, h3⟩ := h
    by_cases e : a.1 = k
    · refine .inr ⟨b.2, v, a.2, ?_, ?_, h2, h3⟩
      · simp [valueAt, List.find?_cons, ← h1, e]
      · simp [pval, List.find?_cons, e]
    · have e' : ¬ b.1 = k := fun z => e (h1.trans z)
      have b1 : valueAt (b :: bs) k = valueAt bs k := by simp [valueAt, List.find?_cons, e']
      have b2 : pval (a :: as) k = pval as k := by simp [pval, List.find?_cons, e]
      rw [b1, b2]
      exact ih
end
section
variable {K : PySem.W.Frag} {F : Hp}
theorem DPairT.val {kvs : List (List (Option Key) × PV)} {xs : List (List (Option Key) × Addr × Value)} (r : DPairT K F kvs xs) (k : List (Option Key)) :
    (atKey xs k = none ∧ pval kvs k = none) ∨ ∃ b u v p, atKey xs k = some (b, u) ∧ pval kvs k = some p ∧ RelV v u ∧ Rep K F v p := by
  unfold DPairT at r
  induction r with
  | nil => exact .inl ⟨rfl, rfl⟩
  | @cons a b as bs h t ih =>
    obtain ⟨h1, h0, v, h2, h3⟩ := h
    by_cases e : a.1 = k
    · refine .inr ⟨b.2.1, b.2.2, v, a.2, ?_, ?_, h2, h3⟩
      · simp [atKey, List.find?_cons, ← h1, e]
      · simp [pval, List.find?_cons, e]
    · have e' : ¬ b.1 = k := fun z => e (h1.trans z)
      have b1 : atKey (b :: bs) k = atKey bs k := by simp [atKey, List.find?_cons, e']
      have b2 : pval (a :: as) k = pval as k := by simp [pval, List.find?_cons, e]
      rw [b1, b2]
      exact ih
theorem DPairT.put {kvs : List (List (Option Key) × PV)} {xs : List (List (Option Key) × Addr × Value)} (r : DPairT K F kvs xs) (k : List (Option Key)) {b : Addr} {y : V} {p : PV} {u : Value} (hb : SqT K F b (k.map nkV)) (ry : RelV y u) (rp : Rep K F y p) :
    DPairT K F (pput kvs k p) (storedH xs k b u) := by
  have e : (kvs.any fun kv => decide (kv.1 = k)) = (atKey xs k).isSome := by
    clear hb ry rp
    unfold DPairT at r
    induction r with
    | nil => rfl
    | @cons a b as bs h t ih =>
      obtain ⟨h1, _⟩ := h
      rw [List.any_cons, ih]
      by_cases e : a.1 = k
      · simp [atKey, List.find?_cons, ← h1, e]
      · have e' : ¬ b.1 = k := fun z => e (h1.trans z)
        simp [atKey, List.find?_cons, e, e']
  unfold pput storedH
  rw [e]
  split
  · unfold DPairT at r ⊢
    clear e
    rename_i e0
    clear e0 hb
    induction r with
    | nil => exact .nil
    | @cons a b as bs h t ih =>
      rw [List.map_cons, List.map_cons]
      refine .cons ?_ ih
      obtain ⟨h1, h0, h2⟩ := h
      unfold putAt
      by_cases e : a.1 = k
      · rw [if_pos e, if_pos (h1.symm.trans e)]; exact ⟨h1, h0, y, ry, rp⟩
      · rw [if_neg e, if_neg (fun z => e (h1.trans z))]; exact ⟨h1, h0, h2⟩
  · exact Paired.snoc r ⟨rfl, hb, y, ry, rp⟩
end

/-! ### what they do, on owned dicts -/
@[simp] def pPut : OO → PV → PV → Option OO
  | .dct kvs, kp, v => match pvK kp with
    | some k => if kvs.length < 1000000 then some (.dct (pput kvs k v)) else none
    | none => none
  | .dcb kvs, kp, v => match pvB kp with
    | some k => if kvs.length < 1000000 then some (.dcb (pput kvs k v)) else none
    | none => none
  | .dcT kvs, kp, v => match pvT kp with
    | some k => if kvs.length < 1000000 then some (.dcT (pput kvs k v)) else none
    | none => none
  | _, _, _ => none
/-- what stands at a key: none: no key; some none: not there -/
@[simp] def pGet : OO → PV → Option (Option PV)
  | .dct kvs, kp => (pvK kp).map (pval kvs)
  | .dcb kvs, kp => (pvB kp).map (pval kvs)
  | .dcT kvs, kp => (pvT kp).map (pval kvs)
  | _, _ => none
@[simp] def pKeys : OO → Option (List PV)
  | .dct kvs => some (kvs.map fun kv => kPV kv.1)
  | .dcb kvs => some (kvs.map fun kv => bPV kv.1)
  | .dcT kvs => some (kvs.map fun kv => .tup (kv.1.map kPV))
  | _ => none

section
variable {X : Cx} {B : Bs} {pins : List (Addr × Obj)} {F H : Hp} {σ : L2.St} {ρ : PEnv} {m : Mem} {s : Shared}
theorem dictOf_stay {κ : Type} [DecidableEq κ] {P : Program} {w : World} {knd : PySem.KeyKind P w κ} {a : Addr} {vs : List (κ × Value)} : ∀ h1 h2 : Heap, h1.DictOf knd a vs → (∀ o, h1.get? a = some o → h2.get? a = some o) → h2.DictOf knd a vs := by
  rintro h1 h2 ⟨o, es, ep, ho, r⟩ k
  exact ⟨o, es, ep, k o ho, r⟩
theorem key_ofT {ks : List (Option Key)} {a : Addr} (I : Inv X pins σ H s) (h : SqT X.K H a (ks.map nkV)) : (tupleKind (noneKind X.prog X.w)).is s.heap ks a := by
  obtain ⟨its, r, ⟨o, h1, h2, n, h3⟩, _⟩ := I.tuple h
  exact ⟨o, its.toArray, n, h1, h2, h3, by simpa using nks_are r⟩
theorem dt_ofT {a : Addr} {kvs : List (List (Option Key) × PV)} {xs : List (List (Option Key) × Addr × Value)} (I : Inv X pins σ H s) (sub : Same F H) (h : H a = some (dictT X.prog X.w a xs)) (r : DPairT X.K F kvs xs) : s.heap.DictOfH (tupleKind (noneKind X.prog X.w)) a xs := by
  obtain ⟨o, es, ep, h1, h2, h3, h4, h5⟩ := (show ObjOk X.prog X.w H s.heap a (.ext _) from I.hok a _ h).1
  refine ⟨o, es, ep, h1, h2, h3, h4, fun x hx => ?_, h5⟩
  clear h h4 h5
  unfold DPairT at r
  induction r with
  | nil => exact nomatch hx
  | @cons p q ps qs hq t ih =>
    rcases List.mem_cons.mp hx with e | hx
    · subst e
      refine key_ofT I ?_
      rw [← hq.1]
      exact same_t sub hq.2.1
    · exact ih hx
theorem sys_ne {s : Shared} (I : Inv X pins σ H s) : (s.heap.objs.size == sysModules) = false := beq_eq_false_iff_ne.mpr (Ne.symm (Nat.ne_of_lt I.big))

variable {A : Around} {E : Value → Shared → Prop}
/-- d[k] = v at an owned dict -/
theorem own_put (hP : B.P = X.prog) (hu : A.units + 1 < cLine) {i : Nat} {o o' : OO} {D : Addr} {kp vp : PV} {kv vv : V} {ku vu : Value} {Q : Unit → Shared → Prop} (I : Inv X pins σ H s) (st : PSt X.w X.K B F σ H ρ m) (ho : ρ[i]? = some (some (.own o))) (hσ : σ[i]? = some (some (.ref D)))
    (rk : RelV kv ku) (rkp : Rep X.K F kv kp) (rv : RelV vv vu) (rvp : Rep X.K F vv vp) (hp : pPut o kp vp = some o')
    (h : ∀ s' H', Inv X pins σ H' s' → PSt X.w X.K B F σ H' (put ρ i (some (.own o'))) m → Q () s') : wpAny (model X.prog X.w) A (setItem (.ref D) ku vu) Q E s := by
  obtain ⟨a, h1, h2, h3, h4, h5⟩ := st.own i o ho
  rw [hσ] at h1
  cases h1
  cases o with
  | lst xs => cases hp
  | dct kvs =>
    obtain ⟨vs, hH, hs, hl, r⟩ := h5
    rw [hP] at hH
    simp only [pPut] at hp
    split at hp <;> try (cases hp; done)
    rename_i k hk
    split at hp <;> cases hp
    rename_i hl2
    obtain ⟨dd, hx, hst⟩ := (show ObjOk X.prog X.w H s.heap D (.ext _) from I.hok D _ hH)
    refine wpAny_setItem_pairs (knd := noneKind X.prog X.w) (hsz := Nat.le_trans (Paired.length r ▸ hl) (by decide)) (pvK_is hk rkp rk) dd fun h' dd' hsb => h _ _ (I.write (t' := _) (x := D) (e := D) (o := dictO X.prog X.w D (stored vs k vu)) (by rw [hH]; exact True.intro) (.inl rfl) (fun b q hb z => (hsb.2 b hb).trans z) (let ⟨q, _, _, hq, _⟩ := dd'; ⟨q, hq⟩) ⟨dd', let ⟨q, _, _, hq, _⟩ := dd'; ⟨q, hq⟩, dictOf_stay⟩) ?_
    refine st.setOwn ho hσ (nc_of I ?_) ⟨_, by rw [hP]; exact upd_same, hs, Nat.le_trans (pput_len _ _ _) hl2, r.put k rv rvp⟩
    obtain ⟨q, _, _, hq, _, hd, _⟩ := dd
    exact ⟨q, hq, fun vs z => by rw [hd] at z; cases z⟩
  | dcb kvs =>
    obtain ⟨vs, hH, hs, hl, r⟩ := h5
    rw [hP] at hH
    simp only [pPut] at hp
    split at hp <;> try (cases hp; done)
    rename_i k hk
    split at hp <;> cases hp
    rename_i hl2
    obtain ⟨dd, hx, hst⟩ := (show ObjOk X.prog X.w H s.heap D (.ext _) from I.hok D _ hH)
    refine wpAny_setItem_pairs (knd := bnKind X.prog X.w) (hsz := Nat.le_trans (Paired.length r ▸ hl) (by decide)) (pvB_is hk rkp rk) dd fun h' dd' hsb => h _ _ (I.write (t' := _) (x := D) (e := D) (o := dictB X.prog X.w D (stored vs k vu)) (by rw [hH]; exact True.intro) (.inl rfl) (fun b q hb z => (hsb.2 b hb).trans z) (let ⟨q, _, _, hq, _⟩ := dd'; ⟨q, hq⟩) ⟨dd', let ⟨q, _, _, hq, _⟩ := dd'; ⟨q, hq⟩, dictOf_stay⟩) ?_
    refine st.setOwn ho hσ (nc_of I ?_) ⟨_, by rw [hP]; exact upd_same, hs, Nat.le_trans (pput_len _ _ _) hl2, r.put k rv rvp⟩
    obtain ⟨q, _, _, hq, _, hd, _⟩ := dd
    exact ⟨q, hq, fun vs z => by rw [hd] at z; cases z⟩
  | dcT kvs =>
    obtain ⟨xs, hH, hs, hl, r⟩ := h5
    rw [hP] at hH
    simp only [pPut] at hp
    split at hp <;> try (cases hp; done)
    rename_i k hk
    split at hp <;> cases hp
    rename_i hl2
    have dd := dt_ofT I st.sub hH r
    cases rkp with
    | @tup b ys ps hb ra =>
      have ey := pvKs_nk (show pvKs ps = some k from hk) ra
      subst ey
      obtain rfl : ku = Value.ref b := rk
      refine wpAny_setItem_heap (hsz := Nat.le_trans (Paired.length r ▸ hl) (by decide)) (tupleKind_room_in1 hu) (key_ofT I (same_t st.sub hb)) dd fun h' dd' hsb => h _ _ (I.write (t' := _) (x := D) (e := D) (o := dictT X.prog X.w D (storedH xs k b vu)) (by rw [hH]; exact True.intro) (.inl rfl) (fun b q hb z => (hsb.2 b hb).trans z) (let ⟨q, _, _, hq, _⟩ := dd'; ⟨q, hq⟩) ?_) ?_
      · obtain ⟨q, es, ep, hq, g1, g2, g3, _, g4⟩ := dd'
        refine ⟨⟨q, es, ep, hq, g1, g2, g3, g4⟩, ⟨q, hq⟩, ?_⟩
        rintro h1 h2 ⟨o, es, ep, ho, r⟩ k
        exact ⟨o, es, ep, k o ho, r⟩
      · refine st.setOwn ho hσ (nc_of I ?_) ⟨_, by rw [hP]; exact upd_same, hs, Nat.le_trans (pput_len _ _ _) hl2, r.put k hb rv rvp⟩
        obtain ⟨q, _, _, hq, _, hd, _⟩ := dd
        exact ⟨q, hq, fun vs z => by rw [hd] at z; cases z⟩
    | _ => cases hk
end
end PL


namespace PL
open PySem PySem.Spec PyProof.Rows L2

section
variable {X : Cx} {B : Bs} {pins : List (Addr × Obj)} {F H : Hp} {σ : L2.St} {ρ : PEnv} {m : Mem} {s : Shared} {A : Around} {E : Value → Shared → Prop}
theorem own_type (hP : B.P = X.prog) {i : Nat} {o : OO} {D : Addr} (I : Inv X pins σ H s) (st : PSt X.w X.K B F σ H ρ m) (ho : ρ[i]? = some (some (.own o))) (hσ : σ[i]? = some (some (.ref D))) (nl : ∀ xs, o ≠ .lst xs) : s.TypeIs (.ref D) "dict" := by
  obtain ⟨a, h1, h2, h3, h4, h5⟩ := st.own i o ho
  rw [hσ] at h1
  cases h1
  cases o with
  | lst xs => exact absurd rfl (nl xs)
  | dct kvs =>
    obtain ⟨vs, hH, _⟩ := h5
    rw [hP] at hH
    exact (show ObjOk X.prog X.w H s.heap D (.ext _) from I.hok D _ hH).1.typeIs
  | dcb kvs =>
    obtain ⟨vs, hH, _⟩ := h5
    rw [hP] at hH
    exact (show ObjOk X.prog X.w H s.heap D (.ext _) from I.hok D _ hH).1.typeIs
  | dcT kvs =>
    obtain ⟨vs, hH, _, _, r⟩ := h5
    rw [hP] at hH
    exact (dt_ofT I st.sub hH r).typeIs
theorem own_get (hP : B.P = X.prog) (hu : A.units + 1 < cLine) {i : Nat} {o : OO} {D : Addr} {kp p : PV} {kv : V} {ku : Value} {Q : Value → Shared → Prop} (I : Inv X pins σ H s) (st : PSt X.w X.K B F σ H ρ m) (ho : ρ[i]? = some (some (.own o))) (hσ : σ[i]? = some (some (.ref D)))
    (rk : RelV kv ku) (rkp : Rep X.K F kv kp) (hp : pGet o kp = some (some p)) (h : ∀ w' v s', Inv X pins σ H s' → RelV v w' → Rep X.K F v p → Q w' s') : wpAny (model X.prog X.w) A (getItem (.ref D) ku) Q E s := by
  obtain ⟨a, h1, h2, h3, h4, h5⟩ := st.own i o ho
  rw [hσ] at h1
  cases h1
  cases o with
  | lst xs => cases hp
  | dct kvs =>
    obtain ⟨vs, hH, hs, hl, r⟩ := h5
    rw [hP] at hH
    simp only [pGet, Option.map_eq_some_iff] at hp
    obtain ⟨k, hk, hv⟩ := hp
    obtain ⟨dd, hx, hst⟩ := (show ObjOk X.prog X.w H s.heap D (.ext _) from I.hok D _ hH)
    rcases r.val k with ⟨_, e⟩ | ⟨u, v, q, e1, e2, rv, rq⟩
    · rw [e] at hv; cases hv
    · rw [e2] at hv; cases hv
      exact wpAny_getItem_of (knd := noneKind X.prog X.w) (pvK_is hk rkp rk) dd.mapOf e1 (h u v _ (I.tok _) rv rq)
  | dcb kvs =>
    obtain ⟨vs, hH, hs, hl, r⟩ := h5
    rw [hP] at hH
    simp only [pGet, Option.map_eq_some_iff] at hp
    obtain ⟨k, hk, hv⟩ := hp
    obtain ⟨dd, hx, hst⟩ := (show ObjOk X.prog X.w H s.heap D (.ext _) from I.hok D _ hH)
    rcases r.val k with ⟨_, e⟩ | ⟨u, v, q, e1, e2, rv, rq⟩
    · rw [e] at hv; cases hv
    · rw [e2] at hv; cases hv
      exact wpAny_getItem_of (knd := bnKind X.prog X.w) (pvB_is hk rkp rk) dd.mapOf e1 (h u v _ (I.tok _) rv rq)
  | dcT kvs =>
    obtain ⟨xs, hH, hs, hl, r⟩ := h5
    rw [hP] at hH
    simp only [pGet, Option.map_eq_some_iff] at hp
    obtain ⟨k, hk, hv⟩ := hp
    have dd := dt_ofT I st.sub hH r
    cases rkp with
    | @tup b ys ps hb ra =>
      have ey := pvKs_nk (show pvKs ps = some k from hk) ra
      subst ey
      obtain rfl : ku = Value.ref b := rk
      rcases r.val k with ⟨_, e⟩ | ⟨b', u, v, q, e1, e2, rv, rq⟩
      · rw [e] at hv; cases hv
      · rw [e2] at hv; cases hv
        exact wpAny_getItem_heap (tupleKind_room_in1 hu) (key_ofT I (same_t st.sub hb)) dd e1 (h u v _ (I.tok _) rv rq)
    | _ => cases hk
theorem own_in (hP : B.P = X.prog) (hu : A.units + 1 < cLine) {i : Nat} {o : OO} {D : Addr} {kp : PV} {r : Option PV} {kv : V} {ku : Value} {Q : Value → Shared → Prop} (I : Inv X pins σ H s) (st : PSt X.w X.K B F σ H ρ m) (ho : ρ[i]? = some (some (.own o))) (hσ : σ[i]? = some (some (.ref D)))
    (rk : RelV kv ku) (rkp : Rep X.K F kv kp) (hp : pGet o kp = some r) :
    ((∀ s', Inv X pins σ H s' → Q (.bool r.isSome) s') → wpAny (model X.prog X.w) A (compareOp .In ku (.ref D)) Q E s) ∧
    ((∀ s', Inv X pins σ H s' → Q (.bool (!r.isSome)) s') → wpAny (model X.prog X.w) A (compareOp .NotIn ku (.ref D)) Q E s) := by
  obtain ⟨a, h1, h2, h3, h4, h5⟩ := st.own i o ho
  rw [hσ] at h1
  cases h1
  have some_eq : ∀ {α : Type} {x : Option α} {y : Option PV}, ((x = none ∧ y = none) ∨ (∃ u, x = some u) ∧ ∃ q, y = some q) → x.isSome = y.isSome := by
    rintro α x y (⟨rfl, rfl⟩ | ⟨⟨u, rfl⟩, q, rfl⟩) <;> rfl
  cases o with
  | lst xs => cases hp
  | dct kvs =>
    obtain ⟨vs, hH, hs, hl, rr⟩ := h5
    rw [hP] at hH
    simp only [pGet, Option.map_eq_some_iff] at hp
    obtain ⟨k, hk, hv⟩ := hp
    obtain ⟨dd, hx, hst⟩ := (show ObjOk X.prog X.w H s.heap D (.ext _) from I.hok D _ hH)
    have e : (valueAt vs k).isSome = r.isSome := by
      rw [← hv]; exact some_eq ((rr.val k).imp id fun ⟨u, v, q, e1, e2, _⟩ => ⟨⟨u, e1⟩, q, e2⟩)
    exact ⟨fun h => wpAny_in_of (knd := noneKind X.prog X.w) (pvK_is hk rkp rk) hs dd.mapOf (by rw [e]; exact h _ (I.tok _)), fun h => wpAny_notIn_of (knd := noneKind X.prog X.w) (pvK_is hk rkp rk) hs dd.mapOf (by rw [e]; exact h _ (I.tok _))⟩
  | dcb kvs =>
    obtain ⟨vs, hH, hs, hl, rr⟩ := h5
    rw [hP] at hH
    simp only [pGet, Option.map_eq_some_iff] at hp
    obtain ⟨k, hk, hv⟩ := hp
    obtain ⟨dd, hx, hst⟩ := (show ObjOk X.prog X.w H s.heap D (.ext _) from I.hok D _ hH)
    have e : (valueAt vs k).isSome = r.isSome := by
      rw [← hv]; exact some_eq ((rr.val k).imp id fun ⟨u, v, q, e1, e2, _⟩ => ⟨⟨u, e1⟩, q, e2⟩)
    exact ⟨fun h => wpAny_in_of (knd := bnKind X.prog X.w) (pvB_is hk rkp rk) hs dd.mapOf (by rw [e]; exact h _ (I.tok _)), fun h => wpAny_notIn_of (knd := bnKind X.prog X.w) (pvB_is hk rkp rk) hs dd.mapOf (by rw [e]; exact h _ (I.tok _))⟩
  | dcT kvs =>
    obtain ⟨xs, hH, hs, hl, rr⟩ := h5
    rw [hP] at hH
    simp only [pGet, Option.map_eq_some_iff] at hp
    obtain ⟨k, hk, hv⟩ := hp
    have dd := dt_ofT I st.sub hH rr
    cases rkp with
    | @tup b ys ps hb ra =>
      have ey := pvKs_nk (show pvKs ps = some k from hk) ra
      subst ey
      obtain rfl : ku = Value.ref b := rk
      have e : (atKey xs k).isSome = r.isSome := by
        rw [← hv]; exact some_eq ((rr.val k).imp id fun ⟨b, u, v, q, e1, e2, _⟩ => ⟨⟨_, e1⟩, q, e2⟩)
      exact ⟨fun h => wpAny_in_heap (tupleKind_room_in1 hu) (key_ofT I (same_t st.sub hb)) hs dd (by rw [e]; exact h _ (I.tok _)), fun h => wpAny_notIn_heap (tupleKind_room_in1 hu) (key_ofT I (same_t st.sub hb)) hs dd (by rw [e]; exact h _ (I.tok _))⟩
    | _ => cases hk

/-! ### the keys as a list -/
theorem DPair.keys {κ : Type} {K : PySem.W.Frag} {F : Hp} {kvs : List (κ × PV)} {vs : List (κ × Value)} (r : DPair K F kvs vs) : kvs.map (·.1) = vs.map (·.1) := by
  unfold DPair at r
  induction r with
  | nil => rfl
  | cons h t ih => rw [List.map_cons, List.map_cons, ih, h.1]
theorem vals_ref2 : ∀ xs : List (List (Option Key) × Addr × Value), Vals (xs.map fun x => V.ref x.2.1) (xs.map fun x => Value.ref x.2.1)
  | [] => .nil
  | _ :: r => .cons rfl (vals_ref2 r)
theorem keys_rep {κ : Type} {K : PySem.W.Frag} {is : κ → Value → Bool} {kp : κ → PV} (hk : ∀ k u, is k u = true → ∃ v, RelV v u ∧ Rep K F v (kp k)) : ∀ {us : List Value} {ks : List κ}, us.length = ks.length → (∀ (j : Nat) u, us[j]? = some u → ∃ k, ks[j]? = some k ∧ is k u = true) → ∃ vs, Vals vs us ∧ RepAll K F vs (ks.map kp)
  | [], [], _, _ => ⟨[], .nil, .nil⟩
  | [], _ :: _, h, _ => by simp at h
  | _ :: _, [], h, _ => by simp at h
  | u :: us, k :: ks, h, f => by
    obtain ⟨k', e, hi⟩ := f 0 u rfl
    cases e
    obtain ⟨v, rv, rp⟩ := hk k u hi
    obtain ⟨vs, r1, r2⟩ := keys_rep hk (us := us) (ks := ks) (by simpa using h) fun j w e => f (j + 1) w (by simpa using e)
    exact ⟨v :: vs, .cons rv r1, .cons rp r2⟩
theorem keys_repT {K : PySem.W.Frag} {kvs : List (List (Option Key) × PV)} {xs : List (List (Option Key) × Addr × Value)} (r : DPairT K F kvs xs) : RepAll K F (xs.map fun x => V.ref x.2.1) (kvs.map fun kv => .tup (kv.1.map kPV)) := by
  unfold DPairT at r
  induction r with
  | nil => exact .nil
  | cons h t ih => exact .cons (.tup h.2.1 (nkVs_rep _)) ih
theorem own_list (hP : B.P = X.prog) (hc : X.calm = true) {i : Nat} {o : OO} {D : Addr} {ps : List PV} {Q : Value → Shared → Prop} {E : Value → Shared → Prop} (I : Inv X pins σ H s) (st : PSt X.w X.K B F σ H ρ m) (ho : ρ[i]? = some (some (.own o))) (hσ : σ[i]? = some (some (.ref D)))
    (hp : pKeys o = some ps) (h : ∀ a vs s', Inv X pins σ (L2.upd H a (.lst vs)) s' → H a = none → RepAll X.K F vs ps → Q (.ref a) s') : wpAny (model X.prog X.w) X.A (call (.type "list") [.ref D]) Q E s := by
  obtain ⟨a, h1, h2, h3, h4, h5⟩ := st.own i o ho
  rw [hσ] at h1
  cases h1
  have fin : ∀ {h' : Heap} {tk : Nat} {acc' : Array Value} {c' : Nat} {vs : List V}, (∀ b o, s.heap.get? b = some o → h'.get? b = some o) → h'.get? s.heap.objs.size = some { cls := .type "list", dict := none, data := .seq acc' c', slots := #[] } → Vals vs acc'.toList → vs.length ≤ sizeLine → RepAll X.K F vs ps → Q (.ref s.heap.objs.size) { s with heap := h', toks := tk } := fun {h' tk acc' c' vs} hk hS rv hz rp =>
    h _ vs _ (I.laid (t' := tk) (o := .lst vs) hk (Nat.le_refl _) ⟨hz, acc'.toList, c', rv, by rw [Array.toArray_toList]; exact hS⟩) (I.hok.fresh (Nat.le_refl _)) rp
  cases o with
  | lst xs => cases hp
  | dct kvs =>
    obtain ⟨us, hH, hs, hl, r⟩ := h5
    rw [hP] at hH
    cases hp
    obtain ⟨dd, hx, hst⟩ := (show ObjOk X.prog X.w H s.heap D (.ext _) from I.hok D _ hH)
    obtain ⟨ep, hat⟩ := dd.dictAt
    have e0 : kvs.length = us.length := Paired.length r
    have e1 : kvs.map (·.1) = us.map (·.1) := r.keys
    have hle : us.length ≤ sizeLine := by rw [← e0]; exact line6 hl
    refine PySem.W.kdl_call (PySem.W.kdl_dict (knd := noneKind X.prog X.w) (kvs := us) (ep := ep) hs) (I.ok.hd hc) hat hle fun h' tk acc' c' hk hS hacc => ?_
    obtain ⟨vs, r1, r2⟩ := keys_rep (F := F) (K := X.K) (is := (noneKind X.prog X.w).is) (kp := kPV) (fun k u e => k_rep e) (us := acc'.toList) (ks := kvs.map (·.1)) (by rw [Array.length_toList, hacc.1, List.length_map, e0]) fun j u e => by
      obtain ⟨k, y, g1, g2⟩ := hacc.2 j u (by rw [← Array.getElem?_toList]; exact e)
      exact ⟨k, by rw [e1, List.getElem?_map, g1]; rfl, g2⟩
    rw [List.map_map] at r2
    exact fin hk hS r1 (by rw [r2.length, List.length_map]; exact line6 hl) r2
  | dcb kvs =>
    obtain ⟨us, hH, hs, hl, r⟩ := h5
    rw [hP] at hH
    cases hp
    obtain ⟨dd, hx, hst⟩ := (show ObjOk X.prog X.w H s.heap D (.ext _) from I.hok D _ hH)
    obtain ⟨ep, hat⟩ := dd.dictAt
    have e0 : kvs.length = us.length := Paired.length r
    have e1 : kvs.map (·.1) = us.map (·.1) := r.keys
    have hle : us.length ≤ sizeLine := by rw [← e0]; exact line6 hl
    refine PySem.W.kdl_call (PySem.W.kdl_dict (knd := bnKind X.prog X.w) (kvs := us) (ep := ep) hs) (I.ok.hd hc) hat hle fun h' tk acc' c' hk hS hacc => ?_
    obtain ⟨vs, r1, r2⟩ := keys_rep (F := F) (K := X.K) (is := (bnKind X.prog X.w).is) (kp := bPV) (fun k u e => b_rep e) (us := acc'.toList) (ks := kvs.map (·.1)) (by rw [Array.length_toList, hacc.1, List.length_map, e0]) fun j u e => by
      obtain ⟨k, y, g1, g2⟩ := hacc.2 j u (by rw [← Array.getElem?_toList]; exact e)
      exact ⟨k, by rw [e1, List.getElem?_map, g1]; rfl, g2⟩
    rw [List.map_map] at r2
    exact fin hk hS r1 (by rw [r2.length, List.length_map]; exact line6 hl) r2
  | dcT kvs =>
    obtain ⟨xs, hH, hs, hl, r⟩ := h5
    rw [hP] at hH
    cases hp
    obtain ⟨o, es, ep, ho', hx, hdt, he, hn⟩ := (show ObjOk X.prog X.w H s.heap D (.ext _) from I.hok D _ hH).1
    have l1 : es.size = xs.length := size_of_entries he
    have l2 : kvs.length = xs.length := Paired.length r
    refine PySem.W.kdl_call (kdl_raw hs hx hdt) (I.ok.hd hc) ho' (by rw [l1, ← l2]; exact line6 hl) fun h' tk acc' c' kp e it => ?_
    have ea : acc'.toList = xs.map fun x => Value.ref x.2.1 := by
      have hl : acc'.toList.length = xs.length := by rw [Array.length_toList, it.1]; exact l1
      apply List.ext_getElem?
      intro j
      rw [List.getElem?_map]
      cases hj : acc'.toList[j]? with
      | none => rw [List.getElem?_eq_none (by have := List.getElem?_eq_none_iff.mp hj; omega)]; rfl
      | some v =>
        obtain ⟨en, hen, hv⟩ := it.2 j v (by rw [← Array.getElem?_toList]; exact hj)
        have qe := entry_at he j
        rw [hen] at qe
        cases hb : xs[j]? with
        | none => rw [hb] at qe; exact nomatch (show some en = none from qe)
        | some b =>
          rw [hb] at qe
          rw [hv, Option.some.inj qe]
          rfl
    refine fin kp e (vs := xs.map fun x => V.ref x.2.1) ?_ (by rw [List.length_map, ← l2]; exact line6 hl) (keys_repT r)
    rw [ea]
    exact vals_ref2 xs
end
end PL


namespace PL
open PySem PySem.Spec PyProof.Rows L2

/-! ### owned dicts: {}, d[k] = v, d[k], k in d, list(d) -/
section
variable {X : Cx} {B : Bs} {e e2 : Expr} {te tf : DE} {pos : Pos}
theorem pst_own {pins : List (Addr × Obj)} {w : World} {K : PySem.W.Frag} {F H : Hp} {σ : L2.St} {ρ : PEnv} {m : Mem} {s : Shared} {i : Nat} {o : OO} (st : PSt w K B F σ H ρ m) (h : at' ρ i = some (.own o)) : ρ[i]? = some (some (.own o)) ∧ ∃ D, σ[i]? = some (some (.ref D)) := by
  obtain ⟨a, h1, _⟩ := st.own i o (at_get h)
  exact ⟨at_get h, a, h1⟩
theorem free_fresh {K : PySem.W.Frag} {pins : List (Addr × Obj)} {s : Shared} {F H : Hp} {σ : L2.St} {ρ : PEnv} {m : Mem} {w : World} {a : Addr} {o : HO} (st : PSt w K B F σ H ρ m) (h : H a = none) (nt : noTbl o) : Free B F (L2.upd H a o) σ ρ m a :=
  ⟨st.sub.free h, st.mem_none h, st.ext.free h, ⟨_, upd_same, nt⟩, st.own_ne h⟩
/-- x = {}: o the empty dict of the kind wanted -/
@[simp] def wNewD (i : Nat) (o : OO) : DS := fun ρ m D => (o = .dct [] ∨ o = .dcb [] ∨ o = .dcT []) ∧ D.nx (put ρ i (some (.own o))) m
theorem js_dnew {x : Str} {pos' : Pos} {k : Pos} (i : Nat) (o : OO) (hP : B.P = X.prog) (hN : X.N.Nodup) (hi : X.N[i]? = some x := by rfl) (hx : Loc X.env.scope x := by first | exact Or.inl rfl | exact Or.inr rfl) (hs : swapsWith (.Dict [] [] k) (some (.Name x pos')) pos.line X.env = pure false := by rfl) (hf : X.fn x = true ∨ X.env.scope.names.lookup x = some .local := by first | exact .inl rfl | exact .inr rfl | assumption) :
    JS X B (.Assign [.Name x pos'] (.Dict [] [] k) pos) (wNewD i o) := by
  refine ⟨fun D tk pins s σ F H ρ m I st h => ?_⟩
  obtain ⟨ho, h⟩ := h
  have hfr := I.hok.fresh (Nat.le_refl s.heap.objs.size)
  refine wpAny_Assign_Name (wpAny_Dict_empty ?_) hs
  have fin : ∀ (u : HO), noTbl u → Inv X pins σ (L2.upd H s.heap.objs.size u) { s with heap := s.heap.push { cls := .type "dict", data := .dict #[] } } → RepO B.P X.w X.K F (L2.upd H s.heap.objs.size u) s.heap.objs.size o →
      wpAny (model X.prog X.w) X.A (storeName X.env x (.ref s.heap.objs.size)) (fun _ => SPP X B pins F D .next) X.xe { s with heap := s.heap.push { cls := .type "dict", data := .dict #[] } } := fun u nt I1 r =>
    store_ok (v := .ref s.heap.objs.size) I1 hN hi hx rfl (fun s2 I2 => ⟨_, F, _, _, m, I2, (st.newH hfr).putOwn (o := o) (slot_lt (w := X.w) (K := X.K) I1 hi) (free_fresh (s := s) (pins := pins) st hfr nt) r, Same.refl F, h⟩) hf
  have keep : ∀ (b : Addr) q, s.heap.get? b = some q → (s.heap.push { cls := .type "dict", data := .dict #[] }).get? b = some q := fun _ _ q => Heap.get?_push_of_some _ q
  rcases ho with rfl | rfl | rfl
  · refine fin (dictO X.prog X.w s.heap.objs.size []) (fun ps z => by unfold dictO at z; cases z) (I.laid (t' := s.toks) keep (Nat.le_refl _) ⟨Heap.DictOf.new s.heap, ⟨_, Heap.get?_push_size _ rfl⟩, dictOf_stay⟩) ⟨[], by rw [hP]; exact upd_same, sys_ne I, Nat.zero_le _, .nil⟩
  · refine fin (dictB X.prog X.w s.heap.objs.size []) (fun ps z => by unfold dictB at z; cases z) (I.laid (t' := s.toks) keep (Nat.le_refl _) ⟨Heap.DictOf.new s.heap, ⟨_, Heap.get?_push_size _ rfl⟩, dictOf_stay⟩) ⟨[], by rw [hP]; exact upd_same, sys_ne I, Nat.zero_le _, .nil⟩
  · refine fin (dictT X.prog X.w s.heap.objs.size []) (fun ps z => by unfold dictT at z; cases z) (I.laid (t' := s.toks) keep (Nat.le_refl _) ⟨⟨_, #[], 0, Heap.get?_push_size _ rfl, ⟨rfl, rfl, rfl⟩, rfl, rfl, List.nodup_nil⟩, ⟨_, Heap.get?_push_size _ rfl⟩, ?_⟩) ⟨[], by rw [hP]; exact upd_same, sys_ne I, Nat.zero_le _, .nil⟩
    rintro h1 h2 ⟨o, es, ep, ho, r⟩ k
    exact ⟨o, es, ep, k o ho, r⟩
/-- x[e] = e2 -/
@[simp] def wPut (i : Nat) (te tf : DE) : DS := fun ρ m D => match at' ρ i with
  | some (.own o) => tf ρ m (fun v m1 => te ρ m1 (fun kp m2 => ∃ o', pPut o kp v = some o' ∧ D.nx (put ρ i (some (.own o'))) m2) (D.ex ρ)) (D.ex ρ)
  | _ => False
theorem js_dput {x : Str} {px pos' : Pos} (i : Nat) (hP : B.P = X.prog) (hu : X.A.units + 1 < cLine) (he : JE X B e te) (hf : JE X B e2 tf) (hi : X.N[i]? = some x := by rfl) (hv : Vis X.env.scope x := by first | exact Or.inl rfl | exact Or.inr (Or.inl rfl) | exact Or.inr (Or.inr rfl))
    (hd : (x == ("__debug__" : Str)) = false := by decide) (hcd : (x == ("__classdict__" : Str)) = false := by decide) (hs : swapsWith e2 (some (.Subscript (.Name x px) e pos')) pos.line X.env = pure false := by rfl) :
    JS X B (.Assign [.Subscript (.Name x px) e pos'] e2 pos) (wPut i te tf) := by
  refine ⟨fun D tk pins s σ F H ρ m I st h => ?_⟩
  unfold wPut at h
  split at h
  · rename_i o ho
    refine wpAny_Assign_Subscript (thn (hf.run D.ex tk pins s σ F H ρ m _ I st h) fun u s1 ⟨vv, vp, F1, H1, m1, I1, st1, ex1, r1, rp1, q1⟩ => ?_) hs
    obtain ⟨hoo, a, hσ⟩ := pst_own (pins := pins) (s := s) st1 ho
    refine thn ((pe_var (pos := px) (i := i) hi hv hd hcd).run pins s1 σ H1 (fun v H' => v = .ref a ∧ H' = H1) I1 ⟨_, hσ, rfl, rfl⟩) fun ov s2 ⟨v, H', I2, r2, e1, e3⟩ => ?_
    subst e1 e3
    obtain rfl : ov = Value.ref a := r2
    refine thn (he.run D.ex tk pins s2 σ F1 H' ρ m1 _ I2 st1 q1) fun ku s3 ⟨kv, kp, F2, H2, m2, I3, st3, ex3, r3, rp3, o', hp, q3⟩ => ?_
    exact own_put hP hu I3 st3 hoo hσ r3 rp3 r1 (rp1.mono ex3.fz) hp fun s4 H4 I4 st4 => ⟨σ, F2, H4, _, m2, I4, st4, (ex1.trans ex3).fz, q3⟩
  · exact h.elim
/-- x[e] -/
@[simp] def wDGet (i : Nat) (te : DE) : DE := fun ρ m Q R => match at' ρ i with
  | some (.own o) => te ρ m (fun kp m1 => ∃ p, pGet o kp = some (some p) ∧ Q p m1) R
  | _ => False
theorem je_dget {x : Str} {px : Pos} (i : Nat) (hP : B.P = X.prog) (hu : X.A.units + 1 < cLine) (he : JE X B e te) (hi : X.N[i]? = some x := by rfl) (hv : Vis X.env.scope x := by first | exact Or.inl rfl | exact Or.inr (Or.inl rfl) | exact Or.inr (Or.inr rfl))
    (hd : (x == ("__debug__" : Str)) = false := by decide) (hcd : (x == ("__classdict__" : Str)) = false := by decide) (hs : NoSl e := by exact fun _ _ => rfl) :
    JE X B (.Subscript (.Name x px) e pos) (wDGet i te) := by
  refine ⟨fun R tk pins s σ F H ρ m Q I st h => ?_⟩
  unfold wDGet at h
  split at h
  · rename_i o ho
    obtain ⟨hoo, a, hσ⟩ := pst_own (pins := pins) (s := s) st ho
    refine subD_of PySem.F.slot_dict_getitem.lookup hs (thn ((pe_var (pos := px) (i := i) hi hv hd hcd).run pins s σ H (fun v H' => v = .ref a ∧ H' = H) I ⟨_, hσ, rfl, rfl⟩) fun ov s2 ⟨v, H', I2, r2, e1, e3⟩ => ?_)
    subst e1 e3
    obtain rfl : ov = Value.ref a := r2
    refine thn (he.run R tk pins s2 σ F H' ρ m _ I2 st h) fun ku s3 ⟨kv, kp, F2, H2, m2, I3, st3, ex3, r3, rp3, p, hp, q3⟩ => ?_
    refine ⟨own_type hP I3 st3 hoo hσ (fun xs z => by subst z; cases hp), own_get hP hu I3 st3 hoo hσ r3 rp3 hp fun w' v s4 I4 rv rp => ⟨v, p, F2, H2, m2, I4, st3, ex3, rv, rp, q3⟩⟩
  · exact h.elim
/-- e in x -/
@[simp] def wDIn (i : Nat) (te : DE) : DE := fun ρ m Q R => match at' ρ i with
  | some (.own o) => te ρ m (fun kp m1 => ∃ r, pGet o kp = some r ∧ Q (.bl r.isSome) m1) R
  | _ => False
@[simp] def wDNin (i : Nat) (te : DE) : DE := fun ρ m Q R => match at' ρ i with
  | some (.own o) => te ρ m (fun kp m1 => ∃ r, pGet o kp = some r ∧ Q (.bl (!r.isSome)) m1) R
  | _ => False
theorem je_din {x : Str} {px : Pos} (i : Nat) (hP : B.P = X.prog) (hu : X.A.units + 1 < cLine) (he : JE X B e te) (hi : X.N[i]? = some x := by rfl) (hv : Vis X.env.scope x := by first | exact Or.inl rfl | exact Or.inr (Or.inl rfl) | exact Or.inr (Or.inr rfl))
    (hd : (x == ("__debug__" : Str)) = false := by decide) (hcd : (x == ("__classdict__" : Str)) = false := by decide) :
    JE X B (.Compare e [.In] [.Name x px] pos) (wDIn i te) := by
  refine ⟨fun R tk pins s σ F H ρ m Q I st h => ?_⟩
  unfold wDIn at h
  split at h
  · rename_i o ho
    refine wpAny_Compare1 (thn (he.run R tk pins s σ F H ρ m _ I st h) fun ku s3 ⟨kv, kp, F2, H2, m2, I3, st3, ex3, r3, rp3, r, hp, q3⟩ => ?_) rfl
    obtain ⟨hoo, a, hσ⟩ := pst_own (pins := pins) (s := s) st3 ho
    refine thn ((pe_var (pos := px) (i := i) hi hv hd hcd).run pins s3 σ H2 (fun v H' => v = .ref a ∧ H' = H2) I3 ⟨_, hσ, rfl, rfl⟩) fun ov s2 ⟨v, H', I2, r2, e1, e3⟩ => ?_
    subst e1 e3
    obtain rfl : ov = Value.ref a := r2
    exact (own_in hP hu I2 st3 hoo hσ r3 rp3 hp).1 fun s4 I4 => ⟨.bl _, .bl _, F2, H', m2, I4, st3, ex3, rfl, .bl _, q3⟩
  · exact h.elim
theorem je_dnin {x : Str} {px : Pos} (i : Nat) (hP : B.P = X.prog) (hu : X.A.units + 1 < cLine) (he : JE X B e te) (hi : X.N[i]? = some x := by rfl) (hv : Vis X.env.scope x := by first | exact Or.inl rfl | exact Or.inr (Or.inl rfl) | exact Or.inr (Or.inr rfl))
    (hd : (x == ("__debug__" : Str)) = false := by decide) (hcd : (x == ("__classdict__" : Str)) = false := by decide) :
    JE X B (.Compare e [.NotIn] [.Name x px] pos) (wDNin i te) := by
  refine ⟨fun R tk pins s σ F H ρ m Q I st h => ?_⟩
  unfold wDNin at h
  split at h
  · rename_i o ho
    refine wpAny_Compare1 (thn (he.run R tk pins s σ F H ρ m _ I st h) fun ku s3 ⟨kv, kp, F2, H2, m2, I3, st3, ex3, r3, rp3, r, hp, q3⟩ => ?_) rfl
    obtain ⟨hoo, a, hσ⟩ := pst_own (pins := pins) (s := s) st3 ho
    refine thn ((pe_var (pos := px) (i := i) hi hv hd hcd).run pins s3 σ H2 (fun v H' => v = .ref a ∧ H' = H2) I3 ⟨_, hσ, rfl, rfl⟩) fun ov s2 ⟨v, H', I2, r2, e1, e3⟩ => ?_
    subst e1 e3
    obtain rfl : ov = Value.ref a := r2
    exact (own_in hP hu I2 st3 hoo hσ r3 rp3 hp).2 fun s4 I4 => ⟨.bl _, .bl _, F2, H', m2, I4, st3, ex3, rfl, .bl _, q3⟩
  · exact h.elim
theorem jt_din {x : Str} {px : Pos} (i : Nat) (hP : B.P = X.prog) (hu : X.A.units + 1 < cLine) (he : JE X B e te) (hi : X.N[i]? = some x := by rfl) (hv : Vis X.env.scope x := by first | exact Or.inl rfl | exact Or.inr (Or.inl rfl) | exact Or.inr (Or.inr rfl))
    (hd : (x == ("__debug__" : Str)) = false := by decide) (hcd : (x == ("__classdict__" : Str)) = false := by decide) :
    JT X B (.Compare e [.In] [.Name x px] pos) (wTst (wDIn i te)) := by
  refine ⟨fun R tk pins s σ F H ρ m Q I st h => ?_⟩
  unfold wTst wDIn at h
  split at h
  · rename_i o ho
    refine wpAny_isTrue_Compare1 (thn (he.run R tk pins s σ F H ρ m _ I st h) fun ku s3 ⟨kv, kp, F2, H2, m2, I3, st3, ex3, r3, rp3, r, hp, q3⟩ => ?_) rfl
    obtain ⟨hoo, a, hσ⟩ := pst_own (pins := pins) (s := s) st3 ho
    refine thn ((pe_var (pos := px) (i := i) hi hv hd hcd).run pins s3 σ H2 (fun v H' => v = .ref a ∧ H' = H2) I3 ⟨_, hσ, rfl, rfl⟩) fun ov s2 ⟨v, H', I2, r2, e1, e3⟩ => ?_
    subst e1 e3
    obtain rfl : ov = Value.ref a := r2
    exact (own_in hP hu I2 st3 hoo hσ r3 rp3 hp).1 fun s4 I4 => wpAny_truthy_bool ⟨F2, H', m2, I4, st3, ex3, q3⟩
  · exact h.elim
theorem jt_dnin {x : Str} {px : Pos} (i : Nat) (hP : B.P = X.prog) (hu : X.A.units + 1 < cLine) (he : JE X B e te) (hi : X.N[i]? = some x := by rfl) (hv : Vis X.env.scope x := by first | exact Or.inl rfl | exact Or.inr (Or.inl rfl) | exact Or.inr (Or.inr rfl))
    (hd : (x == ("__debug__" : Str)) = false := by decide) (hcd : (x == ("__classdict__" : Str)) = false := by decide) :
    JT X B (.Compare e [.NotIn] [.Name x px] pos) (wTst (wDNin i te)) := by
  refine ⟨fun R tk pins s σ F H ρ m Q I st h => ?_⟩
  unfold wTst wDNin at h
  split at h
  · rename_i o ho
    refine wpAny_isTrue_Compare1 (thn (he.run R tk pins s σ F H ρ m _ I st h) fun ku s3 ⟨kv, kp, F2, H2, m2, I3, st3, ex3, r3, rp3, r, hp, q3⟩ => ?_) rfl
    obtain ⟨hoo, a, hσ⟩ := pst_own (pins := pins) (s := s) st3 ho
    refine thn ((pe_var (pos := px) (i := i) hi hv hd hcd).run pins s3 σ H2 (fun v H' => v = .ref a ∧ H' = H2) I3 ⟨_, hσ, rfl, rfl⟩) fun ov s2 ⟨v, H', I2, r2, e1, e3⟩ => ?_
    subst e1 e3
    obtain rfl : ov = Value.ref a := r2
    exact (own_in hP hu I2 st3 hoo hσ r3 rp3 hp).2 fun s4 I4 => wpAny_truthy_bool ⟨F2, H', m2, I4, st3, ex3, q3⟩
  · exact h.elim
/-- list(x) -/
@[simp] def wDLst (i : Nat) : DE := fun ρ m Q R => match at' ρ i with
  | some (.own o) => ∃ ps, pKeys o = some ps ∧ Q (.lst ps) m
  | _ => False
theorem je_dlist {x : Str} {px p : Pos} (i : Nat) (hP : B.P = X.prog) (hc : X.calm = true) (hm : X.mg "list" = none) (hi : X.N[i]? = some x := by rfl) (hv : Vis X.env.scope x := by first | exact Or.inl rfl | exact Or.inr (Or.inl rfl) | exact Or.inr (Or.inr rfl))
    (hd : (x == ("__debug__" : Str)) = false := by decide) (hcd : (x == ("__classdict__" : Str)) = false := by decide) (hg : Gl X "list" := by rfl) (he : starEach [.Name x px] X.env = (false, eval (.Name x px) X.env) :: starEach [] X.env := by rfl) :
    JE X B (.Call (.Name "list" p) [.Name x px] [] pos) (wDLst i) := by
  refine ⟨fun R tk pins s σ F H ρ m Q I st h => ?_⟩
  unfold wDLst at h
  split at h
  · rename_i o ho
    obtain ⟨ps, hp, q⟩ := h
    obtain ⟨hoo, a, hσ⟩ := pst_own (pins := pins) (s := s) st ho
    refine wpAny_Call_Name_kw (ld_blt (u := .type "list") I hg hm (by decide +kernel) ?_ (by decide) (by decide))
    refine PyProof.Rows.callWith_type1 ?_ he (by rfl)
    rw [he]
    refine Calls.spliced_cons (thn ((pe_var (pos := px) (i := i) hi hv hd hcd).run pins s σ H (fun v H' => v = .ref a ∧ H' = H) I ⟨_, hσ, rfl, rfl⟩) fun ov s2 ⟨v, H', I2, r2, e1, e3⟩ => ?_)
    subst e1 e3
    obtain rfl : ov = Value.ref a := r2
    refine Calls.spliced_nil ?_
    refine own_list hP hc I2 st hoo hσ hp fun b vs s3 I3 hb rp => ?_
    obtain ⟨st2, ex2⟩ := st.new (o := .lst vs) hb (fun ps z => nomatch z)
    exact ⟨.ref b, .lst ps, _, _, m, I3, st2, ex2, rfl, .lst upd_same (rp.mono ex2.fz), q⟩
  · exact h.elim
end
end PL


namespace PL
open PySem PySem.Spec PyProof.Rows L2

/-! ### dice: two ints, held by several -/
def mset (m : Mem) (a : Addr) (c : MO) : Mem := fun b => if b = a then some c else m b
theorem mset_same (m : Mem) (a : Addr) (c : MO) : mset m a c a = some c := if_pos rfl
theorem mset_ne {m : Mem} {a b : Addr} {c : MO} (h : b ≠ a) : mset m a c b = m b := if_neg h
theorem mset_mset (m : Mem) (a : Addr) (c d : MO) : mset (mset m a c) a d = mset m a d := by
  funext b
  unfold mset
  by_cases h : b = a
  · rw [if_pos h, if_pos h]
  · rw [if_neg h, if_neg h, if_neg h]
theorem mset_id {m : Mem} {a : Addr} {c : MO} (h : m a = some c) : mset m a c = m := by
  funext b
  unfold mset
  by_cases e : b = a
  · rw [if_pos e, e, h]
  · rw [if_neg e]
section
variable {X : Cx} {B : Bs} {pins : List (Addr × Obj)} {F H : Hp} {σ : L2.St} {ρ : PEnv} {m : Mem} {w : World} {K : PySem.W.Frag}
/-- a shared list of two ints is changed -/
theorem PSt.setDice {D : Addr} {i j : Int} (st : PSt w K B F σ H ρ m) (e : m D = some .dice) : PSt w K B F σ (L2.upd H D (.lst [.int i, .int j])) ρ m := by
  obtain ⟨hF, i0, j0, hD⟩ := st.mem D _ e
  have neF : ∀ a u', F a = some u' → a ≠ D := fun a u' e2 z => by subst z; rw [hF] at e2; cases e2
  have stay : ∀ {a : Addr}, a ≠ D → ∀ u', H a = some u' → L2.upd H D (.lst [.int i, .int j]) a = some u' := fun ne u' hu => by rw [upd_ne ne]; exact hu
  refine ⟨st.len, fun a u' e => stay (neF a u' e) u' (st.sub a u' e), st.nt, st.val, fun x o2 h => ?_, st.apart, fun a c ec => ?_, ?_, ?_⟩
  · obtain ⟨b, b1, b2, b3, b4, b5⟩ := st.own x o2 h
    have ne : b ≠ D := fun z => by subst z; rw [b3] at e; cases e
    exact ⟨b, b1, b2, b3, b4, b5.keep (Same.refl F) fun u' hu _ => stay ne u' hu⟩
  · by_cases z : a = D
    · subst z
      rw [e] at ec
      cases ec
      exact ⟨hF, i, j, upd_same⟩
    · obtain ⟨g1, g2⟩ := st.mem a c ec
      refine ⟨g1, ?_⟩
      cases c with
      | dice => obtain ⟨i2, j2, e1⟩ := g2; exact ⟨i2, j2, stay z _ e1⟩
      | ins C fs =>
        obtain ⟨dx, fv, e1, e0, e2, e3⟩ := g2
        have ne2 : dx ≠ D := fun q => by subst q; rw [hD] at e0; cases e0
        exact ⟨dx, fv, stay z _ e1, stay ne2 _ e0, e2, e3⟩
  · have nb : ∀ a u', B.H a = some u' → noTbl u' → B.m a = none → a ≠ D := fun a u' e1 n' e' z => by
      subst z
      have := st.ext.mf a u' e1 n' e'
      rw [this] at e; cases e
    refine ⟨st.ext.fz, fun a u' e1 n' e' => stay (nb a u' e1 n' e') _ (st.ext.kp a u' e1 n' e'), st.ext.ff, st.ext.mf, fun a u' h1 n' => ?_⟩
    · by_cases z : a = D
      · subst z; exact ⟨_, upd_same, lst_nt⟩
      · obtain ⟨u2, e2, n2⟩ := st.ext.st a u' h1 n'
        exact ⟨u2, stay z _ e2, n2⟩
  · intro p hp
    obtain ⟨ps, q1, q2, q3⟩ := st.tab p hp
    have ne : p.1 ≠ D := fun z => by rw [z, hD] at q1; cases q1
    refine ⟨ps, stay ne _ q1, q2, fun pos cv hc => ?_⟩
    obtain ⟨c, e1, e2⟩ := q3 pos cv hc
    exact ⟨c, e1, stay (fun z => by rw [z, hD] at e2; unfold LamX.CodeO at e2; cases e2) _ e2⟩
end
section
variable {X : Cx} {B : Bs} {te : DE} {pos : Pos}
theorem raw_val {w : World} {K : PySem.W.Frag} {F H : Hp} {σ : L2.St} {ρ : PEnv} {m : Mem} {i : Nat} {v : V} (st : PSt w K B F σ H ρ m) (h : at' ρ i = some (.val (.raw v))) : σ[i]? = some (some v) := by
  obtain ⟨u, h1, h2⟩ := st.val i _ (at_get h)
  cases h2
  exact h1
/-- x[0], x[1] of a dice -/
@[simp] def wDice (f : Bool) (i : Nat) : DE := fun ρ m Q R => match at' ρ i with
  | some (.val (.raw (.ref a))) => m a = some .dice ∧ ∀ z, Q (.int z) m
  | _ => False
theorem je_diceN {x : Str} {px ip : Pos} {j : Nat} (f : Bool) (i : Nat) (hi : X.N[i]? = some x) (hv : Vis X.env.scope x) (hd : (x == ("__debug__" : Str)) = false) (hcd : (x == ("__classdict__" : Str)) = false) (hs : PlainIx (.Constant (.int (if f then 1 else 0)) j ip)) :
    JE X B (.Subscript (.Name x px) (.Constant (.int (if f then 1 else 0)) j ip) pos) (wDice f i) := by
  refine ⟨fun R tk pins s σ F H ρ m Q I st h => ?_⟩
  unfold wDice at h
  split at h
  · rename_i a ho
    · obtain ⟨em, h⟩ := h
      obtain ⟨hF, z0, z1, hD⟩ := st.mem a _ em
      refine Subscript_ (thn ((pe_var (pos := px) (i := i) hi hv hd hcd).run pins s σ H (fun v H' => v = .ref a ∧ H' = H) I ⟨_, raw_val st ho, rfl, rfl⟩) fun ov s2 ⟨v, H', I2, r2, e1, e3⟩ => ?_)
      subst e1 e3
      refine thn ((pe_int (X := X) (i := if f then 1 else 0) (j := j) (pos := ip)).run pins s2 σ H' (fun v H'' => v = .int (if f then 1 else 0) ∧ H'' = H') I2 ⟨rfl, rfl⟩) fun iv s3 ⟨v3, H3, I3, r3, e1, e3⟩ => ?_
      subst e1 e3
      refine thn (ix_list _ _ pins s3 σ H3 _ _ ov iv (EPQ X B σ ρ F H3 m (fun z => Q z m)) I3 r2 r3 ⟨_, _, _, .int (if f then z1 else z0), rfl, rfl, SqL.of hD, ?_, epq_now st (.int _) (h _)⟩ (hs _ _)) fun _ _ h => epg (Ext.refl _ _ _) (epg_of h)
      cases f <;> rfl
  · exact h.elim
theorem je_dice0 {x : Str} {px ip : Pos} {j : Nat} (i : Nat) (hi : X.N[i]? = some x := by rfl) (hv : Vis X.env.scope x := by first | exact Or.inl rfl | exact Or.inr (Or.inl rfl) | exact Or.inr (Or.inr rfl)) (hd : (x == ("__debug__" : Str)) = false := by decide) (hcd : (x == ("__classdict__" : Str)) = false := by decide) (hs : PlainIx (.Constant (.int 0) j ip) := by exact fun _ _ => rfl) :
    JE X B (.Subscript (.Name x px) (.Constant (.int 0) j ip) pos) (wDice false i) := je_diceN false i hi hv hd hcd hs
theorem je_dice1 {x : Str} {px ip : Pos} {j : Nat} (i : Nat) (hi : X.N[i]? = some x := by rfl) (hv : Vis X.env.scope x := by first | exact Or.inl rfl | exact Or.inr (Or.inl rfl) | exact Or.inr (Or.inr rfl)) (hd : (x == ("__debug__" : Str)) = false := by decide) (hcd : (x == ("__classdict__" : Str)) = false := by decide) (hs : PlainIx (.Constant (.int 1) j ip) := by exact fun _ _ => rfl) :
    JE X B (.Subscript (.Name x px) (.Constant (.int 1) j ip) pos) (wDice true i) := je_diceN true i hi hv hd hcd hs
/-- x[0] = e, x[1] = e: k' the steps that are left -/
@[simp] def wDiceSet (f : Bool) (i : Nat) (te : DE) : DS := fun ρ m D => te ρ m (fun p m1 => match at' ρ i with
  | some (.val (.raw (.ref a))) => m1 a = some .dice ∧ (match p with
    | .int _ => D.nx ρ m1
    | _ => False)
  | _ => False) (D.ex ρ)
theorem js_diceN {e : Expr} {x : Str} {px ip pos' : Pos} {j : Nat} (f : Bool) (i : Nat) (he : JE X B e te) (hi : X.N[i]? = some x) (hv : Vis X.env.scope x) (hd : (x == ("__debug__" : Str)) = false) (hcd : (x == ("__classdict__" : Str)) = false)
    (hs : swapsWith e (some (.Subscript (.Name x px) (.Constant (.int (if f then 1 else 0)) j ip) pos')) pos.line X.env = pure false) :
    JS X B (.Assign [.Subscript (.Name x px) (.Constant (.int (if f then 1 else 0)) j ip) pos'] e pos) (wDiceSet f i te) := by
  refine ⟨fun D tk pins s σ F H ρ m I st h => ?_⟩
  refine wpAny_Assign_Subscript (thn (he.run D.ex tk pins s σ F H ρ m _ I st h) fun u s1 ⟨vv, vp, F1, H1, m1, I1, st1, ex1, r1, rp1, q1⟩ => ?_) hs
  simp only at q1
  split at q1
  · rename_i a ho
    obtain ⟨em, q1⟩ := q1
    split at q1
    · rename_i z
      obtain ⟨hF, z0, z1, hD⟩ := st1.mem a _ em
      have q := q1
      refine thn ((pe_var (pos := px) (i := i) hi hv hd hcd).run pins s1 σ H1 (fun v H' => v = .ref a ∧ H' = H1) I1 ⟨_, raw_val st1 ho, rfl, rfl⟩) fun ov s2 ⟨v, H', I2, r2, e1, e3⟩ => ?_
      subst e1 e3
      refine thn ((pe_int (X := X) (i := if f then 1 else 0) (j := j) (pos := ip)).run pins s2 σ H' (fun v H'' => v = .int (if f then 1 else 0) ∧ H'' = H') I2 ⟨rfl, rfl⟩) fun iv s3 ⟨v3, H3, I3, r3, e1, e3⟩ => ?_
      subst e1 e3
      obtain rfl : ov = Value.ref a := r2
      obtain ⟨t, rfl⟩ := (show ∃ t, iv = Value.int (if f then 1 else 0) t from r3)
      cases rp1
      obtain ⟨t2, rfl⟩ := (show ∃ t, u = Value.int z t from r1)
      obtain ⟨zz, its, n, rv, e⟩ := (show ObjOk X.prog X.w H3 s3.heap a (.lst [.int z0, .int z1]) from I3.hok a _ hD)
      obtain ⟨t0, t1, rfl⟩ : ∃ t0 t1, its = [.int z0 t0, .int z1 t1] := by
        cases rv with
        | cons h t =>
          obtain ⟨t0, rfl⟩ := h
          cases t with
          | cons h t =>
            obtain ⟨t1, rfl⟩ := h
            cases t
            exact ⟨t0, t1, rfl⟩
      refine PySem.W.ki_setAt (n := n) e (by cases f <;> decide) (by cases f <;> decide) (by cases f <;> simp) ?_
      refine ⟨σ, F1, _, ρ, _, I3.write (t' := s3.toks) (x := a) (e := a) (o := .lst [.int (if f then z0 else z), .int (if f then z else z1)]) (by rw [hD]; exact True.intro) (.inl rfl) (fun b q hb z => (Heap.get?_update_other _ _ (Ne.symm hb)).trans z) ⟨_, PySem.IsL.update e _⟩ ?_, st1.setDice em, ex1.fz, q⟩
      refine ⟨by simp [sizeLine_eq], [.int (if f then z0 else z) (if f then t0 else t2), .int (if f then z else z1) (if f then t2 else t1)], n, .cons ⟨_, rfl⟩ (.cons ⟨_, rfl⟩ .nil), ?_⟩
      · have := PySem.IsL.update e (·.setIfInBounds (if f then (1 : Int) else 0).toNat (.int z t2))
        cases f <;> exact this
    · exact q1.elim
  · exact q1.elim
theorem js_dice0 {e : Expr} {x : Str} {px ip pos' : Pos} {j : Nat} (i : Nat) (he : JE X B e te) (hi : X.N[i]? = some x := by rfl) (hv : Vis X.env.scope x := by first | exact Or.inl rfl | exact Or.inr (Or.inl rfl) | exact Or.inr (Or.inr rfl)) (hd : (x == ("__debug__" : Str)) = false := by decide) (hcd : (x == ("__classdict__" : Str)) = false := by decide)
    (hs : swapsWith e (some (.Subscript (.Name x px) (.Constant (.int 0) j ip) pos')) pos.line X.env = pure false := by rfl) :
    JS X B (.Assign [.Subscript (.Name x px) (.Constant (.int 0) j ip) pos'] e pos) (wDiceSet false i te) := js_diceN false i he hi hv hd hcd hs
theorem js_dice1 {e : Expr} {x : Str} {px ip pos' : Pos} {j : Nat} (i : Nat) (he : JE X B e te) (hi : X.N[i]? = some x := by rfl) (hv : Vis X.env.scope x := by first | exact Or.inl rfl | exact Or.inr (Or.inl rfl) | exact Or.inr (Or.inr rfl)) (hd : (x == ("__debug__" : Str)) = false := by decide) (hcd : (x == ("__classdict__" : Str)) = false := by decide)
    (hs : swapsWith e (some (.Subscript (.Name x px) (.Constant (.int 1) j ip) pos')) pos.line X.env = pure false := by rfl) :
    JS X B (.Assign [.Subscript (.Name x px) (.Constant (.int 1) j ip) pos'] e pos) (wDiceSet true i te) := js_diceN true i he hi hv hd hcd hs
/-- a new dice: [e, e2] -/
@[simp] def wMkDice (t : DA) : DE := fun ρ m Q R => t ρ m (fun ps m1 => match ps with
  | [.int _, .int _] => ∀ a, m1 a = none → Q (.raw (.ref a)) (mset m1 a .dice)
  | _ => False) R
theorem je_mkdice {es : List Expr} {t : DA} (h : JA X B es t) : JE X B (.List es pos) (wMkDice t) := by
  refine ⟨fun R tk pins s σ F H ρ m Q I st hq => ?_⟩
  refine wpAny_List_spliced (thn (h.run R tk pos pins s σ F H ρ m _ I st hq) fun us s1 ⟨xs, ps, F1, H1, m1, I1, st1, ex1, r, rp, _, q⟩ => ?_)
  split at q
  · rename_i ps' z0 z1 hlen
    obtain ⟨v0, v1, rfl, p0, p1⟩ := rep2 rp
    cases p0; cases p1
    have hl : us.length = 2 := r.length.symm
    have hf : H1 s1.heap.objs.size = none := I1.hok.fresh (Nat.le_refl _)
    refine ⟨by rw [hl, sizeLine_eq]; decide, ?_⟩
    have em : m1 s1.heap.objs.size = none := st1.mem_none hf
    have st2 := st1.newH (o := .lst [.int z0, .int z1]) hf
    refine ⟨.ref s1.heap.objs.size, .raw (.ref s1.heap.objs.size), F1, _, mset m1 s1.heap.objs.size .dice, I1.laid (t' := s1.toks) (o := .lst [.int z0, .int z1]) (fun b u e => Heap.get?_push_of_some _ e) (Nat.le_refl _) ⟨by simp [sizeLine_eq], us, 0, r, Heap.get?_push_size _ rfl⟩, ?_, ?_, rfl, .raw _, q _ em⟩
    · refine ⟨st2.len, st2.sub, st2.nt, st2.val, fun x o2 h => ?_, st2.apart, fun a c ec => ?_, ?_, st2.tab⟩
      · obtain ⟨b, b1, b2, b3, b4, b5⟩ := st1.own x o2 h
        have ne : b ≠ s1.heap.objs.size := fun z => by
          obtain ⟨u, hu, _⟩ := b5.at
          rw [z, hf] at hu; cases hu
        obtain ⟨b', c1, c2, c3, c4, c5⟩ := st2.own x o2 h
        rw [b1] at c1
        cases c1
        exact ⟨b, b1, c2, by rw [mset_ne ne]; exact b3, c4, c5⟩
      · by_cases z : a = s1.heap.objs.size
        · subst z
          rw [mset_same] at ec
          cases ec
          exact ⟨st1.sub.free hf, z0, z1, upd_same⟩
        · rw [mset_ne z] at ec
          exact st2.mem a c ec
      · refine ⟨st2.ext.fz, fun a u' e1 n' e' => st2.ext.kp a u' e1 n' e', st2.ext.ff, fun a u' h1 n' h2 => ?_, st2.ext.st⟩
        have ne : a ≠ s1.heap.objs.size := fun z => st1.ext.free hf u' (z ▸ h1) n'
        rw [mset_ne ne]
        exact st2.ext.mf a u' h1 n' h2
    · have e2 : Ext F1 H1 m1 F1 (L2.upd H1 s1.heap.objs.size (.lst [.int z0, .int z1])) (mset m1 s1.heap.objs.size .dice) := by
        have e0 := Ext.newH (m := m1) (o := HO.lst [V.int z0, V.int z1]) st1.sub hf
        refine ⟨e0.fz, e0.kp, e0.ff, fun a u' h1 n' h2 => ?_, e0.st⟩
        have ne : a ≠ s1.heap.objs.size := fun z => by rw [z, hf] at h1; cases h1
        rw [mset_ne ne]
        exact h2
      exact ex1.trans e2
  · exact q.elim
end
end PL


/-! The pure layer: where an exception is handled. -/
namespace PL
open PySem PySem.Spec PyProof.Rows L2 HotX L2H

section
variable {prog : Program} {w : World} {A : Around} {E : Value → Shared → Prop} {s : Shared}
theorem next_end_hot {it l x1 : Addr} {i : Nat} {items : Array Value} {Q : Option Value → Shared → Prop} (hot : HotAt A x1 s.heap) (nx : x1 ≠ it) (hit : s.heap.IsListIter it l i) (hl : s.heap.IsList l items) (hx : items[i]? = none)
    (hQ : ∀ h', Heap.ExtBut it s.heap h' → Q none { s with heap := h' }) : wpAny (model prog w) A (pyNext (.ref it)) Q E s := by
  obtain ⟨hh, o1, vs1, h1, d1, c1⟩ := hot
  obtain ⟨o, ho, hc, hd⟩ := id hit
  obtain ⟨ol, hol, _, nl, hdl⟩ := hl
  have h1' : (s.heap.update it (Obj.mapFields (·.setIfInBounds 0 Value.none))).get? x1 = some o1 := (Heap.get?_update_other _ _ (Ne.symm nx)).trans h1
  unfold pyNext
  refine wpAny_bind (wpAny_attempt (wpAny_callSpecial?_slot (name := Str.ofString "__next__") hit.typeIs slot_listiter_next (wpAny_call_entry slot_listiter_next hit.typeIs entry_listiter_next ?_ (args_listiter_next _))))
  show wpAny _ _ (field (.ref it) 0 >>= _) _ _ s
  refine wpAny_bind (wpAny_field ho hd (x := .ref l) rfl ?_)
  show wpAny _ _ (if (Value.ref l == Value.none) = true then _ else _) _ _ s
  rw [if_neg (show ¬ ((Value.ref l == Value.none) = true) from Bool.false_ne_true)]
  show wpAny _ _ (field (.ref it) 1 >>= _) _ _ s
  refine wpAny_bind (wpAny_field ho hd (x := .int i 0) rfl ?_)
  show wpAny _ _ (seqItems? (.ref l) >>= _) _ _ s
  refine wpAny_bind (wpAny_seqItems hol hdl ?_)
  simp only [Int.toNat_natCast, hx]
  refine wpAny_bind (wpAny_rule (wpAny_bind (wpAny_setField ho hd (by simp) ?_)))
  have ext0 : Heap.ExtBut it s.heap (s.heap.update it (Obj.mapFields (·.setIfInBounds 0 Value.none))) := (Heap.SameBut.update ..).extBut
  have hsz : it < (s.heap.update it (Obj.mapFields (·.setIfInBounds 0 Value.none))).objs.size := by rw [Heap.size_update]; exact Heap.lt_size ho
  generalize s.heap.update it (Obj.mapFields (·.setIfInBounds 0 Value.none)) = h0 at *
  show wpAny _ _ (newExc (.type "StopIteration") [] >>= _) _ _ _
  refine wpAny_bind ?_
  simp only [newExc, newTuple]
  refine wpAny_bind (wpAny_newObj_type ?_ (by size_fits))
  refine wpAny_bind (m := firstArgMember _ _) (wpAny_of_eq (a := Value.none) (by first | rfl | (simp only [firstArgMember]; rfl)) ?_)
  refine wpAny_newObj_type ?_ (by size_fits)
  refine raiseNew_hot (x1 := x1) ⟨hh, o1, vs1, Heap.get?_push_of_some _ (Heap.get?_push_of_some _ h1'), d1, c1⟩ (Nat.ne_of_lt (Heap.lt_size (Heap.get?_push_of_some _ h1'))) (Heap.get?_push_size _ rfl) rfl (by first | (simp; done) | (simp; omega) | (simp only [Array.size_append]; simp; omega)) ?_
  refine wpAny_bind (wpAny_isInstance (T := "StopIteration") (b := true) ⟨_, Heap.get?_update_self _ (Heap.get?_push_size _ rfl) rfl, rfl⟩ isSubtype_stop ?_)
  refine wpAny_pure (hQ _ fun b ob hb e => ?_)
  have e1 := ext0 b ob hb e
  rw [Heap.get?_update_other _ _ (Nat.ne_of_gt (Heap.lt_size (Heap.get?_push_of_some _ e1)))]
  exact Heap.get?_push_of_some _ (Heap.get?_push_of_some _ e1)
/-- a list is walked while an exception is handled -/
theorem walks_hot {x1 : Addr} {o1 : Obj} {vs1 : Array Value} (hh : A.handled = some (.ref x1)) (d1 : o1.data = .fields vs1) (c1 : vs1[2]? = some .none) (I ax : Addr) (hne : ax ≠ I) (nx : x1 ≠ I) (items : Array Value) :
    Walks prog w A I [I, ax, x1] [I] items.size (fun i v => items[i]? = some v) (fun i h => h.IsListIter I ax i ∧ h.IsList ax items ∧ h.get? x1 = some o1) where
  sub := fun b hb => by simp at hb; simp [hb]
  frame := fun _ _ _ st hk => ⟨st.1.at fun o e => hk I (by simp) o e, st.2.1.at fun o e => hk ax (by simp) o e, hk x1 (by simp) _ st.2.2⟩
  item := fun i s Q E hi st hQ => by
    refine wpAny_pyNext_list_item st.1 st.2.1 (x := items[i]) (by simp [hi]) fun h' hit' hs' => ?_
    exact hQ _ h' s.toks (by simp [hi]) ⟨hit', st.2.1.extBut hs'.extBut hne, hs'.extBut x1 _ nx st.2.2⟩ fun b o hb e => hs'.extBut b o (fun h => hb (by simp [h])) e
  done := fun s Q E st hQ => next_end_hot ⟨hh, o1, vs1, st.2.2, d1, c1⟩ nx st.1 st.2.1 (by simp) fun h' he' => hQ h' s.toks fun b o hb e => he' b o (fun h => hb (by simp [h])) e
  self := fun _ _ _ _ st hQ => wpAny_pyIter_listiter st.1 hQ
end

/-! ### a def called where an exception is handled: its context -/
/-- the context bears the handled exception p -/
structure HotP (X : Cx) (a : Addr) (oe : Obj) (C : Addr) : Prop where
  hd : X.A.handled = some (.ref a)
  pn : (a, oe) ∈ X.pn
  cls : oe.cls = .ref C
  dict : oe.dict = none
  fld : ∃ vs : Array Value, oe.data = .fields vs ∧ vs[2]? = some .none
section
variable {X : Cx} {B : Bs} {a C : Addr} {oe : Obj} {pos : Pos} {te : DE}
theorem HotP.get (hp : HotP X a oe C) {pins : List (Addr × Obj)} {σ : L2.St} {H : Hp} {s : Shared} (I : Inv X pins σ H s) : s.heap.get? a = some oe ∧ H a = none := by
  have h := I.pin (a, oe) (List.mem_append_left _ hp.pn)
  exact ⟨h.1, h.2.1⟩
/-- isinstance(e, c): e the handled exception -/
@[simp] def wIsE (a : Addr) (i : Nat) (b : Bool) : DE := fun ρ m Q R => at' ρ i = some (.val (.raw (.ref a))) ∧ Q (.bl b) m
theorem je_isE {x y : Str} {p p2 p3 : Pos} {cv : Value} {b : Bool} (i : Nat) (hp : HotP X a oe C) (EC : ExcC X.K C) (hk : PySem.W.kitOne X.K (.ref C) cv = some b) (hm : X.mg "isinstance" = none)
    (hy : ∀ {E : Value → Shared → Prop} {Q : Value → Shared → Prop} {pins : List (Addr × Obj)} {s : Shared} {σ : L2.St} {H : Hp}, Inv X pins σ H s → Q cv s → wpAny (model X.prog X.w) X.A (eval (.Name y p3) X.env) Q E s)
    (hN : X.N[i]? = some x := by rfl) (hv : Vis X.env.scope x := by first | exact Or.inl rfl | exact Or.inr (Or.inl rfl) | exact Or.inr (Or.inr rfl)) (hd : (x == ("__debug__" : Str)) = false := by decide) (hcd : (x == ("__classdict__" : Str)) = false := by decide) (hg : Gl X "isinstance" := by rfl)
    (he : starEach [.Name x p2, .Name y p3] X.env = (false, eval (.Name x p2) X.env) :: starEach [.Name y p3] X.env := by rfl) :
    JE X B (.Call (.Name "isinstance" p) [.Name x p2, .Name y p3] [] pos) (wIsE a i b) := by
  refine ⟨fun R tk pins s σ F H ρ m Q I st h => ?_⟩
  obtain ⟨ho, q⟩ := h
  refine wpAny_Call_Name_kw (ld_blt (u := .builtin "isinstance") I hg hm (by decide +kernel) ?_ (by decide) (by decide))
  refine PyProof.Rows.callWith_builtin1 ?_ he (by rfl)
  rw [he]
  refine Calls.spliced_cons (thn ((pe_var (pos := p2) (i := i) hN hv hd hcd).run pins s σ H (fun v H' => v = .ref a ∧ H' = H) I ⟨_, raw_val st ho, rfl, rfl⟩) fun u s1 ⟨v, H', I1, r1, e1, e3⟩ => ?_)
  subst e1 e3
  obtain rfl : u = Value.ref a := r1
  show wpAny _ _ (spliced ((false, eval (.Name y p3) X.env) :: backTo pos (starEach [] X.env))) _ _ s1
  refine Calls.spliced_cons (hy I1 (Calls.spliced_nil ?_))
  have J : PySem.W.InstAt s1.heap a oe C none := by
    obtain ⟨vs, hv, _⟩ := hp.fld
    have h1 := hp.cls
    have h2 := hp.dict
    have h0 := (hp.get I1).1
    obtain ⟨oc, od, oda, osl⟩ := oe
    dsimp only at h1 h2 hv
    subst h1 h2 hv
    exact ⟨h0, rfl, rfl, trivial⟩
  exact PySem.W.kia_one (PySem.W.handS_kitx_exc EC.hg EC.hk EC.hs EC.hd EC.ha EC.hn EC.ht EC.hm) I1.kIn J hk (fun z => nomatch z) fun tk => ⟨.bl b, .bl b, F, _, m, I1.kept (t' := tk) fun _ _ z => z, st, Ext.refl _ _ _, rfl, .bl b, q⟩
/-- how many are true -/
def bInts : List PV → Option (List Int)
  | [] => some []
  | .bl b :: ps => (bInts ps).map ((if b then 1 else 0) :: ·)
  | _ :: _ => none
theorem presum_get (ns : List Int) : ∀ k, k ≤ ns.length → preSum (fun i => ns.getD i 0) k = (ns.take k).sum
  | 0, _ => by simp [preSum]
  | k + 1, h => by
    have hk : k < ns.length := h
    rw [preSum, presum_get ns k (by omega), List.take_succ, List.sum_append]
    simp [List.getD, List.getElem?_eq_getElem hk]
/-- the values of bools, and of what int makes of them -/
theorem bools_back {K : PySem.W.Frag} {F : Hp} : ∀ {vs : List V} {ps : List PV} {us : List Value} {ns : List Int}, RepAll K F vs ps → Vals vs us → bInts ps = some ns → us.length = ns.length ∧ ∀ (j : Nat) (u : Value), us[j]? = some u → ∃ b, u = .bool b ∧ ns.getD j 0 = if b then 1 else 0
  | _, _, _, _, .nil, .nil, h => by cases h; exact ⟨rfl, fun j u e => by simp at e⟩
  | _, _, _, ns, .cons (p := p) r t, .cons rv tv, h => by
    cases p with
    | bl b =>
      simp only [bInts, Option.map_eq_some_iff] at h
      obtain ⟨ns', h1, rfl⟩ := h
      obtain ⟨g1, g2⟩ := bools_back t tv h1
      refine ⟨by simp [g1], fun j u e => ?_⟩
      cases j with
      | zero =>
        simp at e
        subst e
        cases r
        cases (show _ = Value.bool b from rv)
        exact ⟨b, rfl, by simp⟩
      | succ j =>
        obtain ⟨b', e1, e2⟩ := g2 j u (by simpa using e)
        exact ⟨b', e1, by simpa using e2⟩
    | _ => cases h
/-- sum([int(f) for f in x]) -/
@[simp] def wSumB (i : Nat) : DE := fun ρ m Q R => match at' ρ i with
  | some (.val (.lst ps)) => ∃ ns, bInts ps = some ns ∧ Q (.int ns.sum) m
  | _ => False
theorem je_sumB {x f : Str} {p p2 p3 p4 p5 p6 p7 : Pos} {scope : Scope} (i : Nat) (hp : HotP X a oe C) (hms : X.mg "sum" = none) (hmi : X.mg "int" = none)
    (hfree : ∀ y ∈ scope.names, y.2 ≠ .free) (hcell : ∀ y ∈ scope.names, y.2 ≠ .cell) (hkind : scope.kind = .function) (hnames : ∀ y ∈ scope.names, y.2 = .local → scope.names.lookup y.1 = some .local) (hf : scope.names.lookup f = some .local) (hint : scope.names.lookup ("int" : Str) = some .globalImplicit) (hdf : (f == ("__debug__" : Str)) = false)
    (hN : X.N[i]? = some x := by rfl) (hv : Vis X.env.scope x := by first | exact Or.inl rfl | exact Or.inr (Or.inl rfl) | exact Or.inr (Or.inr rfl)) (hd : (x == ("__debug__" : Str)) = false := by decide) (hcd : (x == ("__classdict__" : Str)) = false := by decide) (hg : Gl X "sum" := by rfl) :
    JE X B (.Call (.Name "sum" p) [.ListComp (.Call (.Name "int" p2) [.Name f p3] [] p4) [⟨.Name f p5, .Name x p6, [], 0⟩] scope p7] [] pos) (wSumB i) := by
  refine ⟨fun R tk pins s σ F H ρ m Q I st h => ?_⟩
  unfold wSumB at h
  split at h
  · rename_i ps ho
    obtain ⟨ns, hns, q⟩ := h
    refine wpAny_Call_Name_kw (ld_blt (u := .builtin "sum") I hg hms (by decide +kernel) ?_ (by decide) (by decide))
    refine PyProof.Rows.callWith_builtin1 ?_ (by rfl) (by rfl)
    show wpAny _ _ (spliced ((false, eval (.ListComp (.Call (.Name "int" p2) [.Name f p3] [] p4) [⟨.Name f p5, .Name x p6, [], 0⟩] scope p7) X.env) :: backTo pos (starEach [] X.env))) _ _ s
    refine Calls.spliced_cons ?_
    obtain ⟨v, hσ, hr⟩ := st.val i _ (at_get ho)
    obtain ⟨vs1, hd1, hc1⟩ := hp.fld
    refine wpAny_ListComp_walk (fun _ => true) (fun v y => ∃ b t, v = .bool b ∧ y = .int (if b then 1 else 0) t) hfree hcell hkind hnames hf ?_
    refine thn ((pe_var (pos := p6) (i := i) hN hv hd hcd).run pins s σ H (fun v' H' => v' = v ∧ H' = H) I ⟨_, hσ, rfl, rfl⟩) fun xv s1 ⟨v', H', I1, r1, e1, e3⟩ => ?_
    subst e1 e3
    cases hr with
    | @lst ax xs _ hF ra =>
      obtain rfl : xv = Value.ref ax := r1
      obtain ⟨its, rv, hl, hz⟩ := I1.list (.inl (.inl (st.sub _ _ hF)))
      obtain ⟨hlen, hget⟩ := bools_back ra rv hns
      have hx1 := (hp.get I1).1
      refine wpAny_pyIter_list hl.isList ?_
      have ne1 : ax ≠ s1.heap.objs.size := by
        obtain ⟨ol, e, _⟩ := hl.isList
        exact Nat.ne_of_lt (Heap.lt_size e)
      have ne2 : a ≠ s1.heap.objs.size := Nat.ne_of_lt (Heap.lt_size hx1)
      refine ⟨_, _, _, _, _, _, rfl, walks_hot hp.hd hd1 hc1 s1.heap.objs.size ax ne1 ne2 its.toArray, by rw [List.size_toArray, ← rv.length]; exact hz, ⟨⟨_, Heap.get?_push_size _ rfl, rfl, rfl⟩, hl.isList.at fun o e => Heap.get?_push_of_some _ e, Heap.get?_push_of_some _ hx1⟩, fun b hb => ?_, ⟨fun C' j u s3 m3 E' hP hn hm hk htk => wpAny_tests_nil ⟨rfl, s3.heap, s3.toks, rfl, fun _ _ e => e⟩, fun C' j u s3 m3 E' hP hpv hn hm hk htk => ?_⟩, fun D h' tk ys vs hD hlD hpD hvl hvP hF2 hk => ?_⟩
      · simp only [Heap.size_push]
        rcases List.mem_cons.mp hb with rfl | hb
        · exact Nat.lt_succ_self _
        · rcases List.mem_cons.mp hb with rfl | hb
          · obtain ⟨ol, e, _⟩ := hl.isList
            exact Nat.lt_succ_of_lt (Heap.lt_size e)
          · rw [List.mem_singleton.mp hb]
            exact Nat.lt_succ_of_lt (Heap.lt_size hx1)
      · -- int(f)
        have hP' : its[j]? = some u := by simpa using hP
        obtain ⟨b, rfl, _⟩ := hget j u hP'
        have kp : ∀ b o, X.base.get? b = some o → s3.heap.get? b = some o := fun b o e => by
          have e1 := I1.bk b o e
          refine hk b o (fun hm => ?_) (Heap.get?_push_of_some _ e1)
          rw [List.mem_singleton.mp hm] at e1
          exact Nat.lt_irrefl _ (Heap.lt_size e1)
        obtain ⟨mb, hb1, hb2⟩ := I1.mod.blt
        refine wpAny_Call_Name_kw (Calls.Name_function_global (by exact hkind) hint (Calls.loadGlobal_builtin (mg := X.mg) (by show s3.heap.Ns X.env.globals X.mg; rw [I1.ok.glob]; exact I1.mod.glob.keeps kp) hmi (by show s3.heap.Ns X.env.builtins mb; rw [I1.ok.blt]; exact hb1.keeps kp) ((hb2 "int" (by decide)).trans (show bootBuiltins ("int" : Str) = some (.type "int") by decide +kernel)) ?_) (by decide))
        refine PyProof.Rows.callWith_type1 ?_ (by rfl) (by rfl)
        show wpAny _ _ (spliced ((false, eval (.Name f p3) _) :: backTo p4 (starEach [] _))) _ _ s3
        refine Calls.spliced_cons (wpAny_Name (wpAny_loadName_local (by exact hkind) hf hn hm (Calls.spliced_nil ?_)) hdf)
        exact call_int_bool ⟨⟨b, _, rfl, rfl⟩, s3.heap, s3.toks + 1, rfl, fun _ _ e => e⟩
      · -- the sum
        refine Calls.spliced_nil ?_
        have kp : ∀ b o, s1.heap.get? b = some o → h'.get? b = some o := fun b o e => hk b o (fun hm => by
          rw [List.mem_singleton.mp hm] at e
          exact Nat.lt_irrefl _ (Heap.lt_size e)) (Heap.get?_push_of_some _ e)
        have I2 : Inv X pins σ H' { s1 with heap := h', toks := tk } := I1.kept kp
        have hys : ys.toList.length = ns.length := by rw [← hF2.length, List.filter_eq_self.mpr (fun _ _ => rfl), hvl, List.size_toArray]; exact hlen
        have hyv : ∀ (j : Nat) (y : Value), ys.toList[j]? = some y → ∃ t, y = .int (ns.getD j 0) t := fun j y e => by
          rw [List.filter_eq_self.mpr (fun _ _ => rfl)] at hF2
          have key : ∀ {l : List Value} {l' : List Value} (j : Nat) (y : Value), Paired (fun v y => ∃ b t, v = Value.bool b ∧ y = Value.int (if b then 1 else 0) t) l l' → l'[j]? = some y → ∃ u b t, l[j]? = some u ∧ u = Value.bool b ∧ y = Value.int (if b then 1 else 0) t := by
            intro l l' j y P e
            induction P generalizing j with
            | nil => simp at e
            | cons h t ih =>
              cases j with
              | zero => simp at e; subst e; obtain ⟨b, t, e1, e2⟩ := h; exact ⟨_, b, t, rfl, e1, e2⟩
              | succ j => simpa using ih j (by simpa using e)
          obtain ⟨u, b, t, e1, e2, e3⟩ := key j y hF2 e
          have hPj := hvP j u e1
          obtain ⟨b', e4, e5⟩ := hget j u (by simpa using hPj)
          rw [e2] at e4
          cases e4
          exact ⟨t, by rw [e3, e5]⟩
        have hx2 : h'.get? a = some oe := kp a oe hx1
        have lD : D < h'.objs.size := by
          obtain ⟨o, e, _⟩ := hlD
          exact Heap.lt_size e
        refine call_sum_walkG (wpAny_pyIter_list hlD ?_)
        refine ⟨_, _, _, _, _, _, fun i => ns.getD i 0, rfl, walks_hot (A := X.A.in1) hp.hd hd1 hc1 h'.objs.size D (Nat.ne_of_lt lD) (Nat.ne_of_lt (Heap.lt_size hx2)) ys, ⟨⟨_, Heap.get?_push_size _ rfl, rfl, rfl⟩, hlD.at fun o e => Heap.get?_push_of_some _ e, Heap.get?_push_of_some _ hx2⟩, fun b hb => ?_, fun j y e => hyv j y (by simpa using e), fun h2 tk2 t2 hk2 => ?_⟩
        · simp only [Heap.size_push]
          rcases List.mem_cons.mp hb with rfl | hb
          · exact Nat.lt_succ_self _
          · rcases List.mem_cons.mp hb with rfl | hb
            · exact Nat.lt_succ_of_lt lD
            · rw [List.mem_singleton.mp hb]
              exact Nat.lt_succ_of_lt (Heap.lt_size hx2)
        · have es : preSum (fun i => ns.getD i 0) ys.size = ns.sum := by
            have : ys.size = ns.length := by rw [← hys, Array.length_toList]
            rw [this, presum_get ns _ (Nat.le_refl _), List.take_length]
          rw [es]
          refine ⟨.int ns.sum, .int ns.sum, F, H', m, I2.kept (t' := tk2) fun b o e => hk2 b o (fun hm => ?_) (Heap.get?_push_of_some _ e), st, Ext.refl _ _ _, ⟨_, rfl⟩, .int _, q⟩
          rw [List.mem_singleton.mp hm] at e
          exact Nat.lt_irrefl _ (Heap.lt_size e)
  · exact h.elim
end
end PL


namespace PL
open PySem PySem.Spec PyProof.Rows L2

/-! ### list.index, flat items -/
def flP : PV → Bool
  | .non => true
  | .bl _ => true
  | .int _ => true
  | .str _ => true
  | _ => false
def fEq : PV → PV → Bool
  | .non, .non => true
  | .bl a, .bl b => a == b
  | .bl a, .int b => (if a then 1 else 0) == b
  | .int a, .bl b => a == (if b then 1 else 0)
  | .int a, .int b => a == b
  | .str a, .str b => a == b
  | _, _ => false
def idxP : List PV → PV → Option Nat
  | [], _ => none
  | q :: qs, p => if fEq q p then some 0 else (idxP qs p).map (· + 1)
theorem idxP_spec : ∀ {ps : List PV} {p : PV} {j : Nat}, idxP ps p = some j → (∃ q, ps[j]? = some q ∧ fEq q p = true) ∧ ∀ (k : Nat) q, k < j → ps[k]? = some q → fEq q p = false
  | q :: qs, p, j, h => by
    simp only [idxP] at h
    split at h
    · cases h
      rename_i e
      exact ⟨⟨q, rfl, e⟩, fun k q hk => absurd hk (Nat.not_lt_zero _)⟩
    · rename_i e
      simp only [Option.map_eq_some_iff] at h
      obtain ⟨i, hi, rfl⟩ := h
      obtain ⟨⟨z, h1, h2⟩, h3⟩ := idxP_spec hi
      refine ⟨⟨z, by simpa using h1, h2⟩, fun k y hk hy => ?_⟩
      cases k with
      | zero => simp at hy; subst hy; exact Bool.eq_false_iff.mpr e
      | succ k => exact h3 k y (by omega) (by simpa using hy)
theorem rep_flat {K : PySem.W.Frag} {F : Hp} {v : V} {p : PV} (r : Rep K F v p) (h : flP p = true) : flatV v = true := by
  cases r <;> first | rfl | cases h
theorem reps_flat {K : PySem.W.Frag} {F : Hp} : ∀ {vs : List V} {ps : List PV}, RepAll K F vs ps → ps.all flP = true → vs.all flatV = true
  | _, _, .nil, _ => rfl
  | _, _, .cons r t, h => by
    simp only [List.all_cons, Bool.and_eq_true] at h ⊢
    exact ⟨rep_flat r h.1, reps_flat t h.2⟩
theorem rep_feq {K : PySem.W.Frag} {F : Hp} {v u : V} {p q : PV} (r : Rep K F v p) (r' : Rep K F u q) (h : flP p = true) (h' : flP q = true) : eqV v u = fEq p q := by
  cases r <;> first | (cases h; done) | (cases r' <;> first | (cases h'; done) | rfl)
section
variable {X : Cx} {B : Bs} {o e : Expr} {to te : DE}
@[simp] def wIndex (to te : DE) : DE := fun ρ m Q R => to ρ m (fun o m1 => match o with
  | .lst ps => te ρ m1 (fun p m2 => ∃ j, flP p = true ∧ ps.all flP = true ∧ idxP ps p = some j ∧ Q (.int (j : Nat)) m2) R
  | _ => False) R
theorem je_index {apos cpos : Pos} (ho : JE X B o to) (he : JE X B e te) (hbase : attributeBase o "index" X.env (eval o X.env) = eval o X.env := by rfl)
    (hfew : ((backTo cpos (starEach [e] X.env)).all (fun x => !x.1) && (backToKw cpos (keywordEach [] X.env)).all (fun x => x.1.isSome)
      && decide (([e] : List Expr).length + ([] : List Keyword).length + (if ([] : List Keyword).isEmpty then 0 else 1) < 30)) = true := by rfl)
    (hline : (apos.endLine == cpos.line) = true := by rfl) (hst : starEach [e] X.env = (false, eval e X.env) :: starEach [] X.env := by rfl) (hplain : (backTo cpos (starEach [] X.env)).any (·.1) = false := by rfl) :
    JE X B (.Call (.Attribute o "index" apos) [e] [] cpos) (wIndex to te) := by
  refine .of fun R tk => ⟨_, pe_bm PySem.F.plainAttrs_list PySem.F.slot_list_index PySem.F.type_list_index mt_index (ho.pe tk) (pa_cons (he.pe tk) pa_nil hst) hbase hfew hline hst hplain, fun F σ H ρ m Q st h => ?_⟩
  refine ⟨F, ρ, m, _, st, h, fun v p F1 H1 m1 st1 ex1 rp1 q => ?_⟩
  cases rp1 with
  | @lst a xs ps hF ra =>
    have hs : SqL X.K H1 a xs := .inl (.inl (st1.sub _ _ hF))
    refine ⟨.inl ⟨rfl, xs, hs⟩, F1, ρ, m1, _, st1, q, fun v2 p2 F2 H2 m2 st2 ex2 rp2 q2 => ?_⟩
    obtain ⟨j, h1, h2, h3, q2⟩ := q2
    obtain ⟨⟨z, e1, e2⟩, e3⟩ := idxP_spec h3
    have ra2 := ra.mono ex2.fz
    obtain ⟨zv, e4, rz⟩ := ra2.get e1
    have fz : flP z = true := List.all_eq_true.mp h2 z (List.mem_of_getElem? e1)
    refine ⟨a, xs, v2, j, zv, rfl, rfl, .inl (.inl (st2.sub _ _ (ex2.fz _ _ hF))), rep_flat rp2 h1, reps_flat ra2 h2, e4, by rw [rep_feq rz rp2 fz h1]; exact e2, fun k z' hk hz' => ?_, .int j, F2, m2, st2, ex1.trans ex2, .int _, q2⟩
    obtain ⟨y, e5, ry⟩ := ra2.get' hz'
    rw [rep_feq ry rp2 (List.all_eq_true.mp h2 y (List.mem_of_getElem? e5)) h1]
    exact e3 k y hk e5
  | _ => exact q.elim
end
end PL


/-! The pure layer: a lambda without parameters, handed to a def that calls it in a try. -/
namespace PL
open PySem PySem.Spec PyProof.Rows L2 HotX L2H

/-! ### what a lambda sees: the values alone -/
@[simp] def vals (ρ : PEnv) : PEnv := ρ.map fun s => match s with | some (.val p) => some (.val p) | _ => none
theorem at_vals : ∀ (ρ : PEnv) (i : Nat), at' (vals ρ) i = match at' ρ i with | some (.val p) => some (.val p) | _ => none
  | [], _ => rfl
  | some (.val p) :: r, 0 => rfl
  | some (.own o) :: r, 0 => rfl
  | none :: r, 0 => rfl
  | x :: r, n + 1 => at_vals r n
section
variable {w : World} {K : PySem.W.Frag} {B : Bs} {F H : Hp} {σ : L2.St} {ρ : PEnv} {m : Mem}
theorem PSt.rebase (st : PSt w K B F σ H ρ m) : PSt w K ⟨B.P, F, H, m, B.T⟩ F σ H (vals ρ) m := by
  have key : ∀ {i : Nat} {v : SV}, (vals ρ)[i]? = some (some v) → ∃ p, v = .val p ∧ ρ[i]? = some (some (.val p)) := fun {i v} h => by
    unfold vals at h
    rw [List.getElem?_map] at h
    cases e : ρ[i]? with
    | none => rw [e] at h; cases h
    | some o =>
      rw [e] at h
      cases o with
      | none => cases h
      | some o => cases o with
        | val p => cases h; exact ⟨p, rfl, rfl⟩
        | own o => cases h
  refine ⟨by unfold vals; rw [List.length_map]; exact st.len, st.sub, st.nt, fun i p h => ?_, fun i o h => ?_, fun i j o o' a _ h => ?_, st.mem, Ext.refl _ _ _, st.tab⟩
  · obtain ⟨q, e, h'⟩ := key h
    cases e
    exact st.val i p h'
  · obtain ⟨q, e, _⟩ := key h
    cases e
  · obtain ⟨q, e, _⟩ := key h
    cases e
theorem GSt.pst {F' H' : Hp} {m' : Mem} (st : PSt w K B F σ H ρ m) (g : GSt w K ⟨B.P, F, H, m, B.T⟩ F' H' m') : PSt w K B F' σ H' ρ m' := st.step g.sub g.nt g.ext g.mem g.tab
/-- the tables may have grown -/
theorem PSt.grown {H1 : Hp} (st : PSt w K B F σ H ρ m) (e : LamX.ExtN H H1) (t : LamX.Tabs B.T H1) : PSt w K B F σ H1 ρ m := by
  have k : ∀ a u, H a = some u → noTbl u → H1 a = some u := fun a u h n => e a u h n
  refine st.step (fun a u h => k a u (st.sub a u h) (st.nt a u h)) st.nt ⟨Same.refl F, fun a u h n _ => k a u h n, fun _ _ _ _ h => h, fun _ _ _ _ h => h, fun a u h n => ⟨u, k a u h n, n⟩⟩ (fun a c h => ?_) t
  obtain ⟨h1, h2⟩ := st.mem a c h
  exact ⟨h1, h2.keep (Same.refl F) k fun b y hb _ => hb⟩
end

/-! ### the lambda's context, its call -/
def lamN (X : Cx) (A : Around) (outer : List Env) (s : Shared) (H : Hp) (E : XK) (scope : Scope) (f c' : Addr) : Cx :=
  (LamX.lamCx X A outer s H E scope f c').wish fun e s' => wpAny (model X.prog X.w) (A.deeper (LamX.lamEnv X scope s.heap.objs.size f c')) (leaving (LamX.lamEnv X scope s.heap.objs.size f c') e) (fun _ s'' => L2N.CX X.prog X.w outer H s E e s'') (fun e' s'' => L2N.CX X.prog X.w outer H s E e' s'') s'
/-- what an exception of it leaves -/
def EL (w : World) (K : PySem.W.Frag) (B : Bs) (Rp : KX) : XK := fun cls d H' => ∃ C F' m', cls = .ref C ∧ d = none ∧ GSt w K B F' H' m' ∧ Rp C m'
def tAct (X : Cx) (B : Bs) (i : Nat) (f c' : Addr) (q : Str) (σ : L2.St) (t : DE) (W : WX) : TE := fun σZ HZ Q => σZ[i]? = some (some (.ref f)) ∧ HZ c' = some (LamX.CodeO c' q) ∧ ∃ F0 ρ m0 Qp Rp, PSt X.w X.K ⟨B.P, F0, HZ, m0, B.T⟩ F0 σ HZ ρ m0 ∧ t ρ m0 Qp Rp ∧
  (∀ v p F' H' m', GSt X.w X.K ⟨B.P, F0, HZ, m0, B.T⟩ F' H' m' → Rep X.K F' v p → Qp p m' → Q v H') ∧ (∀ C F' H' m', GSt X.w X.K ⟨B.P, F0, HZ, m0, B.T⟩ F' H' m' → Rp C m' → W (.ref C) none σZ H')
section
variable {X : Cx} {B : Bs} {pins : List (Addr × Obj)} {σ : L2.St} {H : Hp} {s : Shared}
theorem pe_lam {CXg : CXT} {Eg : XK} {Ng : List Str} {qg : Str} {sg : Scope} {g f c' : Addr} {cdg pm ctv : Value} {params : Arguments} {body : Expr} {scope : Scope} {k i : Nat} {a : Str} {pn : List (Addr × Obj)} {xe : Value → Shared → Prop} {W : WX} {t : DE} {p1 p2 : Pos}
    (I : Inv X pins σ H s) (L : LamX.LamS X.env.scope scope) (hf : s.heap.get? f = some (PySem.W.kla_obj "<lambda>" (X.env.qual ++ "<lambda>") params body scope (cloFrom X.env.cells scope.names []) pm c' ctv)) (hfn : H f = none) (hfr : f ∉ frs X.stack)
    (hbind : bindArgs (PySem.W.kla_fn "<lambda>" (X.env.qual ++ "<lambda>") params body scope (cloFrom X.env.cells scope.names []) pm (.ref c') ctv) ⟨[], []⟩ = pure [])
    (tk : L2N.Takes ((cxOf CXg X.prog X.w X.K X.mg X.base Ng qg sg g cdg X.A X.stack s H Eg).tr pn xe) W) (hr : Room (k + 1) (X.A.deeper (envOfC qg sg s.heap.objs.size g cdg)))
    (hbody : ∀ (A : Around) (outer : List Env) (s : Shared) (H F0 : Hp) (m0 : Mem) (E : XK) (f c' : Addr), Room k (A.deeper (LamX.lamEnv X scope s.heap.objs.size f c')) → JE (lamN X A outer s H E scope f c') ⟨B.P, F0, H, m0, B.T⟩ body t)
    (hN : Ng[i]? = some a) (hv : Vis sg a) (hd : (a == ("__debug__" : Str)) = false) (hcd : (a == ("__classdict__" : Str)) = false) :
    PE ((cxOf CXg X.prog X.w X.K X.mg X.base Ng qg sg g cdg X.A X.stack s H Eg).tr pn xe) (.Call (.Name a p1) [] [] p2) (tAct X B i f c' (X.env.qual ++ "<lambda>") σ t W) := by
  refine ⟨fun pinsZ sZ σZ HZ Q IZ h => ?_⟩
  obtain ⟨hs, hc, F0, ρ, m0, Qp, Rp, st, ht, hq, hx⟩ := h
  refine wpAny_Call_Name_kw (thn ((pe_var (pos := p1) (i := i) hN hv hd hcd).run pinsZ sZ σZ HZ (fun v H1 => v = .ref f ∧ H1 = HZ) IZ ⟨.ref f, hs, rfl, rfl⟩) fun u s1 ⟨v, H1, I1, r1, ev, eH⟩ => ?_)
  subst ev
  rw [eH] at I1
  obtain rfl : u = Value.ref f := r1
  have of1 := I1.base.keep f _ hf hfn hfr (fun z => nomatch (show f ∈ ([] : List Addr) from z))
  refine PySem.W.callWith_F0 ⟨_, _, _, _, of1⟩ ?_
  obtain ⟨⟨oc, vs, t0, hoc, hdc, hvc⟩, _, _⟩ := I1.hok c' _ hc
  have rc : codeAny (model X.prog X.w) (X.A.deeper (envOfC qg sg s.heap.objs.size g cdg)) (.call (.ref f) ⟨[], []⟩) (CR (L2N.CX X.prog X.w) (envOfC qg sg s.heap.objs.size g cdg :: X.stack) X.prog X.w HZ s1 Q (EL X.w X.K ⟨B.P, F0, HZ, m0, B.T⟩ Rp)) s1 := by
    refine PySem.W.kla_callFunE hr.depth of1 rfl L.co L.gen rfl ⟨c', oc, vs, t0, rfl, hoc, hdc, hvc⟩ ?_
    rw [hbind]
    refine wpAny_pure (wpAny_newFunctionEnv (fun y hy => (L.own y hy).2) (fun y hy => absurd hy (by simp)) (fun h₁ hns hsb => ⟨I1.nolimit.fresh _ hsb, ?_⟩) L.kind)
    show codeAny _ _ (.expr body (LamX.lamEnv X scope s1.heap.objs.size f c')) _ _
    have J := (LamX.lam_start2 (E := EL X.w X.K ⟨B.P, F0, HZ, m0, B.T⟩ Rp) (f := f) (c' := c') (tk := s1.toks + ([] : List (Str × Value)).length) I L I1.env0 hr.hd I1.base hns (fun b o e => hsb.extBut b o (Nat.ne_of_lt (Heap.lt_size e)) (Heap.get?_push_of_some _ e))).wish
      (fun e s' => wpAny (model X.prog X.w) ((X.A.deeper (envOfC qg sg s.heap.objs.size g cdg)).deeper (LamX.lamEnv X scope s1.heap.objs.size f c')) (leaving (LamX.lamEnv X scope s1.heap.objs.size f c') e) (fun _ s'' => L2N.CX X.prog X.w (envOfC qg sg s.heap.objs.size g cdg :: X.stack) HZ s1 (EL X.w X.K ⟨B.P, F0, HZ, m0, B.T⟩ Rp) e s'') (fun e' s'' => L2N.CX X.prog X.w (envOfC qg sg s.heap.objs.size g cdg :: X.stack) HZ s1 (EL X.w X.K ⟨B.P, F0, HZ, m0, B.T⟩ Rp) e' s'') s')
    have jb := hbody (X.A.deeper (envOfC qg sg s.heap.objs.size g cdg)) (envOfC qg sg s.heap.objs.size g cdg :: X.stack) s1 HZ F0 m0 (EL X.w X.K ⟨B.P, F0, HZ, m0, B.T⟩ Rp) f c' (hr.deeper _)
    have tkN : L2N.Takes (lamN X (X.A.deeper (envOfC qg sg s.heap.objs.size g cdg)) (envOfC qg sg s.heap.objs.size g cdg :: X.stack) s1 HZ (EL X.w X.K ⟨B.P, F0, HZ, m0, B.T⟩ Rp) scope f c') (WR (lamN X (X.A.deeper (envOfC qg sg s.heap.objs.size g cdg)) (envOfC qg sg s.heap.objs.size g cdg :: X.stack) s1 HZ (EL X.w X.K ⟨B.P, F0, HZ, m0, B.T⟩ Rp) scope f c') ⟨B.P, F0, HZ, m0, B.T⟩ (fun _ => Rp)) :=
      (L2N.takes_of (E := EL X.w X.K ⟨B.P, F0, HZ, m0, B.T⟩ Rp) rfl rfl rfl rfl).imp fun c d σ' H' ⟨F', ρ', m', C, e1, e2, st', q⟩ => ⟨C, F', m', e1, e2, st'.g, q⟩
    refine PySem.W.kla_codeExpr (wpAny_mono (jb.run (fun _ => Rp) tkN [] _ σ F0 HZ ρ m0 Qp J st ht) (fun v s' hq' => ?_) fun e s' hq' => hq')
    obtain ⟨w', p, F', H', m', J', st', ex', rv, rp, q⟩ := hq'
    exact ⟨w', H', J'.os, J'.bare, J'.base, J'.hok, rv, hq w' p F' H' m' st'.g rp q⟩
  refine wpAny_call (codeAny_mono rc fun r s' hq' => ?_)
  cases r with
  | error e => exact tk e s' (L2N.XE.of_call I1 (fun cls d H' ⟨C, F', m', e1, e2, g, q⟩ => by subst e1 e2; exact hx C F' H' m' g q) hq')
  | ok fl =>
    cases fl with
    | ret u => exact I1.after hq'
    | next => exact False.elim hq'
    | brk => exact False.elim hq'
    | cont => exact False.elim hq'
end
end PL


namespace PL
open PySem PySem.Spec PyProof.Rows L2 HotX L2H

/-! ### a def called with the handled exception -/
abbrev psE : List Str := ["_law_e"]
@[simp] def termV (nm : Str) : PV := .tup [.str "error", .str nm]
/-- the exception's object -/
structure ExcO1 (oe : Obj) (C : Addr) : Prop where
  cls : oe.cls = .ref C
  dict : oe.dict = none
  fld : ∃ vs : Array Value, oe.data = .fields vs ∧ vs[2]? = some .none
/-- f(e), e the handled exception: the pair that tells its class -/
structure TermOk (P : Program) (w : World) (K : PySem.W.Frag) (mg : Str → Option Value) (base : Heap) (T : List (Addr × Str)) (NM : Addr → Str → Prop) (k : Nat) (f : Addr) (fd : FuncData) : Prop where
  run : ∀ (A : Around) (outer : List Env) (s : Shared) (H : Hp) (args : Args) (a C : Addr) (oe : Obj) (nm : Str) (F0 : Hp) (m0 : Mem) (Q : VK), RoomH k A → A.handled = some (.ref a) → ExcO1 oe C → PinOk outer H s (a, oe) → Env0 P w K mg base A outer s H → BindsTo s fd args (psE.zip [Value.ref a]) → NM C nm →
    GSt w K ⟨P, F0, H, m0, T⟩ F0 H m0 → (∀ v F' H', GSt w K ⟨P, F0, H, m0, T⟩ F' H' m0 → Rep K F' v (termV nm) → Q v H') → codeAny (model P w) A (.call (.ref f) args) (CR C8.CX0 outer P w H s Q C8.E0) s
section
variable {P : Program} {w : World} {K : PySem.W.Frag} {mg : Str → Option Value} {base : Heap} {T : List (Addr × Str)}
theorem term_ok {qual : Str} {st : Stmt} {f : Addr} {fd : FuncData} {N : List Str} {k : Nat} {NM : Addr → Str → Prop} (F : Fun K "_law_term" qual st f fd) (Sc : FnScope N psE (defScope st))
    (hbody : ∀ (cdv : Value) (A : Around) (outer : List Env) (s : Shared) (H F0 : Hp) (m0 : Mem) (a C : Addr) (oe : Obj) (nm : Str), HotP (cxH C8.CX0 P w K mg base N qual (defScope st) f cdv A outer s H C8.E0 (a, oe)) a oe C → NM C nm → RoomH k (A.deeper (envOfC qual (defScope st) s.heap.objs.size f cdv)) →
      ∃ t, JB (cxH C8.CX0 P w K mg base N qual (defScope st) f cdv A outer s H C8.E0 (a, oe)) ⟨P, F0, H, m0, T⟩ (defBody st) t ∧ ∀ m (D : PEnds), D.rt (termV nm) m → t (startP N [.raw (.ref a)]) m D) :
    TermOk P w K mg base T NM (k + 1) f fd := by
  obtain ⟨oc, od, kV, doc, pm, an, cdv, ct, osl, rfl, lk, hcd⟩ := F.ex
  refine ⟨fun A outer s H args a C oe nm F0 m0 Q hr hh ho hpin e0 hb hn g hQ => ?_⟩
  have KX : K.In s.heap := e0.mod.kin.keeps fun b o e => (e0.bs b o e).1
  have lim : s.heap.NoLimit := e0.mod.nolimit.keeps fun b o e => (e0.bs b o e).1
  have hkind : ∀ y ∈ psE.zip [Value.ref a], (defScope st).names.lookup y.1 = some .local ∨ ((defScope st).names.lookup y.1 = some .cell ∧ ((cellsFrom (s.heap.objs.size + 1) (defScope st).names []).lookup y.1).isSome = true) := fun ⟨n, v⟩ hy => by
    rcases Sc.par n (List.of_mem_zip hy).1 with q | q
    · exact .inl q
    · exact .inr ⟨q, PySem.W.cellsFrom_some _ _ _ (.inl q)⟩
  refine codeAny_call_function hr.depth (KX _ _ lk) rfl Sc.co Sc.gen rfl (PySem.W.codeRec_of KX hcd) (hb _ _ _ _ ?_)
  refine wpAny_newFunctionEnv_cells Sc.kind hkind fun env he s1 x => ?_
  subst he
  refine ⟨lim.keeps x.toInCall.keep, codeAny_func ?_⟩
  have I : Inv (cxH C8.CX0 P w K mg base N qual (defScope st) f cdv A outer s H C8.E0 (a, oe)) [] (L2.start N [.ref a]) H s1 := inv_startH Sc hpin e0 rfl (.cons rfl .nil) x
  obtain ⟨t, hj, hk⟩ := hbody cdv A outer s H F0 m0 a C oe nm ⟨hh, List.mem_cons_self, ho.cls, ho.dict, ho.fld⟩ hn (hr.deeper _)
  have st0 := pst_start (P := P) (w := w) (N := N) (vs := [V.ref a]) (ps := [.raw (.ref a)]) g.sub g.nt g.mem g.tab (.cons (.raw (K := K) _) .nil)
  refine wpAny_mono (hj.run { nx := fun _ _ => False, rt := fun p m' => p = termV nm ∧ m' = m0, ex := pBot } takes_bot [] s1 _ F0 H _ m0 I st0 (hk m0 _ ⟨rfl, rfl⟩)) (fun fl s' hs => ?_) fun e s' hs => hs
  cases fl with
  | ret u =>
    obtain ⟨v, p, σ', F', H', m', J, g', rv, rp, rfl, rfl⟩ := hs
    exact ⟨v, H', J.os, J.bare, J.base, J.hok, rv, hQ v F' H' g' rp⟩
  | next => obtain ⟨_, _, _, _, _, _, _, _, q⟩ := hs; exact q.elim
  | brk => obtain ⟨_, _, _, _, _, _, _, _, q⟩ := hs; exact q.elim
  | cont => obtain ⟨_, _, _, _, _, _, _, _, q⟩ := hs; exact q.elim
end

/-! ### told: try: return deed() / except FilterError as e: return term(e) -/
section
variable {X : Cx} {B : Bs}
theorem takes0N {X : Cx} : L2N.Takes X (fun _ _ _ _ => False) := fun _ _ ⟨_, _, _, _, _, _, _, _, _, _, _, _, _, _, _, _, z⟩ => z.elim
/-- term(e) in the suite -/
theorem pe_term {a C : Addr} {oe : Obj} {nm y : Str} {f : Addr} {fd : FuncData} {k i : Nat} {p1 p2 pos : Pos} {NM : Addr → Str → Prop} {F0 : Hp} {m0 : Mem} {T : List (Addr × Str)} (G : TermOk X.prog X.w X.K X.mg X.base T NM k f fd) (hp : HotP X a oe C) (hn : NM C nm) (hr : RoomH k X.A) (hg : Gl X "_law_term") (hm : X.mg "_law_term" = some (.ref f)) (hk : PySem.W.keepIn X.K (.ref f) = true) (hb : Binds X.K fd psE [])
    (hN : X.N[i]? = some y) (hv : Vis X.env.scope y) (hd : (y == ("__debug__" : Str)) = false) (hcd : (y == ("__classdict__" : Str)) = false) (he : starEach [.Name y p2] X.env = (false, eval (.Name y p2) X.env) :: starEach [] X.env := by rfl) :
    PE X (.Call (.Name "_law_term" p1) [.Name y p2] [] pos) (fun σ H Q => σ[i]? = some (some (.ref a)) ∧ GSt X.w X.K ⟨X.prog, F0, H, m0, T⟩ F0 H m0 ∧ ∀ v F' H', GSt X.w X.K ⟨X.prog, F0, H, m0, T⟩ F' H' m0 → Rep X.K F' v (termV nm) → Q v H') := by
  refine ⟨fun pins s σ H Q I ⟨hσ, g, hQ⟩ => ?_⟩
  refine wpAny_Call_Name_kw (ld_glob I hg hm ?_ (by decide))
  refine PySem.W.callWith_K (h₀ := X.base) I.ok.mod.kin hk ?_ he (by rfl)
  rw [he]
  refine Calls.spliced_cons (thn ((pe_var (pos := p2) (i := i) hN hv hd hcd).run pins s σ H (fun v H' => v = .ref a ∧ H' = H) I ⟨_, hσ, rfl, rfl⟩) fun u s1 ⟨v, H', I1, r1, e1, e3⟩ => ?_)
  subst e1 e3
  obtain rfl : u = Value.ref a := r1
  refine Calls.spliced_nil ⟨I1.kIn, ?_⟩
  have b := hb s1 [.ref a] I1.kIn rfl
  have P1 := I1.pin (a, oe) (List.mem_append_left _ hp.pn)
  have hpin : PinOk X.stack H' s1 (a, oe) := ⟨P1.1, P1.2.1, fun hm => (List.mem_cons.mp (I1.stkSub a hm)).elim P1.2.2.1 P1.2.2.2.1, P1.2.2.2.2⟩
  refine wpAny_call (codeAny_mono (G.run X.A X.stack s1 H' ⟨[.ref a], []⟩ a C oe nm F0 m0 Q hr hp.hd ⟨hp.cls, hp.dict, hp.fld⟩ hpin I1.env0 b hn g hQ) fun r s' hq => ?_)
  cases r with
  | error e => exact (show False from hq).elim
  | ok fl =>
    cases fl with
    | ret u => exact I1.after hq
    | next => exact False.elim hq
    | brk => exact False.elim hq
    | cont => exact False.elim hq
/-- what told's suite reads -/
def tsTold (w : World) (K : PySem.W.Frag) (P : Program) (T : List (Addr × Str)) (NM : Addr → Str → Prop) (a : Addr) (cls : Value) (d : Option Addr) : TS := fun D σZ HZ => ∃ C nm F' m', cls = .ref C ∧ d = none ∧ NM C nm ∧ σZ[1]? = some (some (.ref a)) ∧ GSt w K ⟨P, F', HZ, m', T⟩ F' HZ m' ∧
  ∀ v F'' H'', GSt w K ⟨P, F', HZ, m', T⟩ F'' H'' m' → Rep K F'' v (termV nm) → D.rt v H''
/-- told(lambda: body): its exceptions as a pair -/
@[simp] def wTold (NM : Addr → Str → Prop) (t : DE) : DE := fun ρ m Q _ => t (vals ρ) m Q (fun C m' => ∃ nm, NM C nm ∧ Q (termV nm) m')
structure ToldOk (P : Program) (w : World) (K : PySem.W.Frag) (mg : Str → Option Value) (base : Heap) (T : List (Addr × Str)) (NM : Addr → Str → Prop) (k : Nat) (st : Stmt) : Prop where
  /-- told stands -/
  ex : ∃ (g : Addr) (fd : FuncData), Fun K "_law_told" "_law_told" st g fd ∧ mg "_law_told" = some (.ref g) ∧ Binds K fd ["_law_deed"] []
  sc : FnScope ["_law_deed", "_law_e"] ["_law_deed"] (defScope st)
  /-- term stands -/
  tm : ∃ (f : Addr) (fd : FuncData), TermOk P w K mg base T NM k f fd ∧ mg "_law_term" = some (.ref f) ∧ PySem.W.keepIn K (.ref f) = true ∧ Binds K fd psE []
  /-- the class that is caught -/
  fe : ∃ FE : Addr, mg "FilterError" = some (.ref FE) ∧ ∀ C nm, NM C nm → PySem.W.exmOne K (.ref C) (.ref FE) = some true
  hv1 : Vis (defScope st) "_law_deed"
  hv2 : Vis (defScope st) "_law_e"
  loc : (defScope st).names.lookup ("_law_e" : Str) = some .local
  gt : (defScope st).names.lookup ("_law_term" : Str) = some .globalImplicit
  gf : (defScope st).names.lookup ("FilterError" : Str) = some .globalImplicit
  body : ∃ p1 p2 p3 p4 p5 p6 p7 p8 p9 p10, defBody st = [.Try [.Return (some (.Call (.Name "_law_deed" p1) [] [] p2)) p3] [.ExceptHandler (some (.Name "FilterError" p4)) (some "_law_e") [.Return (some (.Call (.Name "_law_term" p5) [.Name "_law_e" p6] [] p7)) p8] p9] [] [] p10]
theorem je_told {NM : Addr → Str → Prop} {k j : Nat} {st : Stmt} {c P0 : Addr} {params : Arguments} {body : Expr} {scope : Scope} {t : DE} {p lpos pos : Pos} (G : ToldOk X.prog X.w X.K X.mg X.base B.T NM k st) (hP : B.P = X.prog)
    (TB : LamX.TabB X.base X.mg c P0) (hcode : X.env.code = .ref c) (hmT : (P0, X.env.qual ++ "<lambda>") ∈ B.T) (hu : ∀ p ∈ B.T, p.1 = P0 → p.2 = X.env.qual ++ "<lambda>") (hr : Room (j + 2) X.A) (hkj : k ≤ j) (L : LamX.LamS X.env.scope scope) (hdef : defaultsOf params X.env = ([], []))
    (hbind : ∀ (q : Str) (cl : List (Str × Addr)) (pm cv ctv : Value), bindArgs (PySem.W.kla_fn "<lambda>" q params body scope cl pm cv ctv) ⟨[], []⟩ = pure [])
    (hbody : ∀ (A : Around) (outer : List Env) (s : Shared) (H F0 : Hp) (m0 : Mem) (E : XK) (f c' : Addr), Room j (A.deeper (LamX.lamEnv X scope s.heap.objs.size f c')) → JE (lamN X A outer s H E scope f c') ⟨B.P, F0, H, m0, B.T⟩ body t)
    (hg : Gl X "_law_told" := by rfl) :
    JE X B (.Call (.Name "_law_told" p) [.Lambda params body scope lpos] [] pos) (wTold NM t) := by
  obtain ⟨g, fd, FG, hm, hb⟩ := G.ex
  have hk := FG.kp
  obtain ⟨oc, od, kV, doc, pm, an, cdv, ct, osl, rfl, lk, hcg⟩ := FG.ex
  refine ⟨fun R tk pins s σ F H ρ m Q I st0 h => ?_⟩
  refine wpAny_Call_Name_kw (ld_glob I hg hm ?_ (by decide))
  refine PySem.W.callWith_K (h₀ := X.base) I.ok.mod.kin hk ?_ (by rfl) (by rfl)
  show wpAny _ _ (spliced ((false, eval (.Lambda params body scope lpos) X.env) :: backTo pos (starEach [] X.env))) _ _ s
  refine Calls.spliced_cons (LamX.lam_make2 I TB hcode hmT hu st0.tab hdef (L.has I.ok) fun f c' pm' ctv H1 s' I1 eN T1 hf hfn hfr hco => ?_)
  refine Calls.spliced_nil ⟨I1.kIn, ?_⟩
  have st1 : PSt X.w X.K B F σ H1 ρ m := st0.grown eN T1
  · have rc : codeAny (model X.prog X.w) X.A (.call (.ref g) ⟨[.ref f], []⟩) (CR C8.CX0 X.stack X.prog X.w H1 s' (fun v H' => ∃ p F' m', GSt X.w X.K ⟨B.P, F, H1, m, B.T⟩ F' H' m' ∧ Rep X.K F' v p ∧ Q p m') C8.E0) s' := by
      refine LamX.run_ofS (k := j + 1) (N := ["_law_deed", "_law_e"]) (ps := ["_law_deed"]) (us := [.ref f]) (vs := [.ref f]) lk hcg G.sc hr I1.env0 (hb s' [.ref f] I1.kIn rfl) (.cons rfl .nil) rfl fun hr' => ?_
      obtain ⟨f2, fd2, GT, hmt, hkt, hbt⟩ := G.tm
      obtain ⟨FE, hmf, hex⟩ := G.fe
      obtain ⟨p1, p2, p3, p4, p5, p6, p7, p8, p9, p10, eb⟩ := G.body
      rw [eb]
      refine ⟨_, pss_one (L2N.ps_try_as (X := cxOf C8.CX0 X.prog X.w X.K X.mg X.base ["_law_deed", "_law_e"] "_law_told" (defScope st) g cdv X.A X.stack s' H1 C8.E0) (i := 1) (c := .ref FE) (Wout := fun _ _ _ _ => False)
        (tb := fun W D σZ HZ => tAct X B 0 f c' (X.env.qual ++ "<lambda>") σ t W σZ HZ D.rt)
        (ts := tsTold X.w X.K X.prog B.T NM) rfl rfl G.sc.nd rfl G.loc ⟨G.gf, by decide, .inl hmf⟩ takes0N (fun W pn xe tkW _ => ?_) (fun a oe cls d pn hz hfl => ?_)), ?_⟩
      · -- deed()
        have hp := pe_lam (B := B) (i := 0) (p1 := p1) (p2 := p2) I1 L hf hfn hfr (hbind _ _ _ _ _) tkW (k := j) hr' hbody rfl G.hv1 (by decide) (by decide)
        have hq := pss_one (ps_ret (pos := p3) hp)
        exact ⟨fun pins' s2 σ' H' D I' h' => hq.run pins' s2 σ' H' D I' h'⟩
      · -- term(e)
        refine ⟨fun pins' s2 σ' H' D I' h' => ?_⟩
        obtain ⟨C, nm, F', m', e1, e2, hn, hs1, g', hk'⟩ := h'
        have hp : HotP ((cxOf C8.CX0 X.prog X.w X.K X.mg X.base ["_law_deed", "_law_e"] "_law_told" (defScope st) g cdv X.A X.stack s' H1 C8.E0).suite a ((a, oe) :: pn)) a oe C := by
          obtain ⟨vs, hvs⟩ := hfl
          exact ⟨rfl, List.mem_cons_self, hz.1.trans e1, hz.2.1.trans e2, vs, hvs, hz.2.2 vs hvs⟩
        have hpe := pe_term (X := (cxOf C8.CX0 X.prog X.w X.K X.mg X.base ["_law_deed", "_law_e"] "_law_told" (defScope st) g cdv X.A X.stack s' H1 C8.E0).suite a ((a, oe) :: pn)) (y := "_law_e") (i := 1) (p1 := p5) (p2 := p6) (pos := p7) (F0 := F') (m0 := m') GT hp hn ⟨(hr'.mono (show k ≤ j + 1 by omega)).dp, (hr'.mono (show k ≤ j + 1 by omega)).un⟩ G.gt hmt hkt hbt rfl G.hv2 (by decide) (by decide)
        exact (pss_one (ps_ret (pos := p8) hpe)).run pins' s2 σ' H' D I' ⟨hs1, g', fun v F'' H'' g'' rp => hk' v F'' H'' g'' rp⟩
      · refine ⟨rfl, hco, F, vals ρ, m, _, _, st1.rebase, h, fun v p F' H' m' g' rp q => ⟨p, F', m', g', rp, q⟩, fun C F' H' m' g' ⟨nm, hn, q⟩ => ⟨true, hex C nm hn, fun _ a ha => ⟨C, nm, F', m', rfl, rfl, hn, rfl, ?_, fun v F'' H'' g'' rp => ⟨_, F'', m', ?_, rp, q⟩⟩, fun z => nomatch z⟩⟩
        · exact ⟨g'.sub, g'.nt, g'.mem, Ext.refl _ _ _, g'.tab⟩
        · exact ⟨g''.sub, g''.nt, g''.mem, g'.ext.trans g''.ext, g''.tab⟩
    refine wpAny_call (codeAny_mono rc fun r s2 hq => ?_)
    cases r with
    | error e => exact (show False from hq).elim
    | ok fl =>
      cases fl with
      | ret u =>
        obtain ⟨v, H', I2, r2, p, F', m', g', rp, q⟩ := I1.after hq
        have exA : Ext F H m F H1 m := ⟨Same.refl F, fun a u e n _ => eN a u e n, fun _ _ _ _ z => z, fun _ _ _ _ z => z, fun a u e n => ⟨u, eN a u e n, n⟩⟩
        exact ⟨v, p, F', H', m', I2, GSt.pst st1 g', exA.trans g'.ext, r2, rp, q⟩
      | next => exact False.elim hq
      | brk => exact False.elim hq
      | cont => exact False.elim hq
end
end PL


namespace PL
open PySem PySem.Spec PyProof.Rows L2

theorem hu1 {X : Cx} {A : Around} {k : Nat} (hr : Room k A) (h : X.A = A := by rfl) : X.A.units + 1 < cLine := by
  subst h
  have := hr.un
  omega

/-! ### a try whose body raises nothing -/
section
variable {X : Cx} {B : Bs} {pos : Pos}
@[simp] def wTryq (t : DS) : DS := fun ρ m D => t ρ m { D with ex := pBot }
theorem js_tryq {body : List Stmt} {h₀ : ExceptHandler} {hs : List ExceptHandler} {t : DS} (hb : JB X.nox B body t) : JS X B (.Try body (h₀ :: hs) [] [] pos) (wTryq t) := by
  refine ⟨fun D tk pins s σ F H ρ m I st h => ?_⟩
  have pr := ps_try_thru0 (X := X) (h₀ := h₀) (hs := hs) (pos := pos) (hb.pss (Ex := pBot) takes_bot)
  refine thn (pr.run pins s σ H { nx := fun σ' H' => ∃ F' ρ' m', PSt X.w X.K B F' σ' H' ρ' m' ∧ Same F F' ∧ D.nx ρ' m', rt := fun v H' => ∃ p F' m', GSt X.w X.K B F' H' m' ∧ Rep X.K F' v p ∧ D.rt p m', bk := fun σ' H' => ∃ F' ρ' m', PSt X.w X.K B F' σ' H' ρ' m' ∧ Same F F' ∧ D.bk ρ' m', ct := fun σ' H' => ∃ F' ρ' m', PSt X.w X.K B F' σ' H' ρ' m' ∧ Same F F' ∧ D.ct ρ' m' } I
    ⟨F, ρ, m, { D with ex := pBot }, rfl, st, h, fun σ' F' H' ρ' m' st' e q => ⟨F', ρ', m', st', e, q⟩, fun v p F' H' m' g rp q => ⟨p, F', m', g, rp, q⟩, fun σ' F' H' ρ' m' st' e q => ⟨F', ρ', m', st', e, q⟩, fun σ' F' H' ρ' m' st' e q => ⟨F', ρ', m', st', e, q⟩⟩) fun fl s1 q => ?_
  cases fl with
  | next => obtain ⟨σ', H', I', F', ρ', m', st', e, q⟩ := q; exact ⟨σ', F', H', ρ', m', I', st', e, q⟩
  | ret u => obtain ⟨v, σ', H', I', r, p, F', m', g, rp, q⟩ := q; exact ⟨v, p, σ', F', H', m', I', g, r, rp, q⟩
  | brk => obtain ⟨σ', H', I', F', ρ', m', st', e, q⟩ := q; exact ⟨σ', F', H', ρ', m', I', st', e, q⟩
  | cont => obtain ⟨σ', H', I', F', ρ', m', st', e, q⟩ := q; exact ⟨σ', F', H', ρ', m', I', st', e, q⟩
end

theorem je_gint {X : Cx} {B : Bs} {x : Str} {i : Int} {pos : Pos} (h : ∃ t, X.mg x = some (.int i t)) (hg : Gl X x := by rfl) (hd : (x == ("__debug__" : Str)) = false := by decide) : JE X B (.Name x pos) (wC (.int i)) := by
  obtain ⟨t, h⟩ := h
  exact je_glob (v := .int i) h ⟨t, rfl⟩ (fun F => .int i) hg hd
/-- a def, as one that is called -/
theorem cal_of {P : Program} {w : World} {K : PySem.W.Frag} {mg : Str → Option Value} {base : Heap} {T : List (Addr × Str)} {k n : Nat} {x : Str} {S : SpP} {f : Addr} {fd : FuncData} {ps : List Str} (G : FnOk P w K mg base (L2N.CX P w) k f fd ps (spOf w K T n S)) (hm : mg x = some (.ref f)) (hk : PySem.W.keepIn K (.ref f) = true) (hb : Binds K fd ps []) : CalM P w K mg base T k x n S := ⟨f, fd, ps, G, hm, hk, hb⟩
abbrev BN (mg : Str → Option Value) : Prop := ∀ x : Str, x ∈ (["isinstance", "int", "bool", "str", "tuple", "list", "len", "all", "any", "range", "max", "min", "sum", "sorted", "enumerate", "set", "reversed", "ValueError"] : List Str) → mg x = none

/-! ### loops by their invariants -/
theorem forW_inv {g : DG} {tb : DS} {D : PEnds} (Inv : Nat → PEnv → Mem → Prop) : ∀ (ps : List PV) (i : Nat) (ρ : PEnv) (m : Mem),
    (∀ (j : Nat) (x : PV) (ρ : PEnv) (m : Mem) (N : PEnv → Mem → Prop), ps[j]? = some x → Inv (i + j) ρ m → (∀ ρ' m', Inv (i + j + 1) ρ' m' → N ρ' m') → g x ρ fun ρ1 => tb ρ1 m { D with nx := N, ct := N, bk := D.nx }) →
    (∀ ρ m, Inv (i + ps.length) ρ m → D.nx ρ m) → Inv i ρ m → forW g tb ps ρ m D
  | [], i, ρ, m, _, he, h0 => he ρ m h0
  | x :: xs, i, ρ, m, hs, he, h0 => by
    refine hs 0 x ρ m _ rfl h0 fun ρ' m' h' => ?_
    refine forW_inv Inv xs (i + 1) ρ' m' (fun j y ρ m N hy hI hN => ?_) (fun ρ m hI => he ρ m ?_) h'
    · exact hs (j + 1) y ρ m N (by simpa using hy) (by rw [show i + (j + 1) = i + 1 + j by omega]; exact hI) fun ρ' m' h => hN ρ' m' (by rw [show i + 1 + j + 1 = i + (j + 1) + 1 by omega]; exact h)
    · rw [show i + (x :: xs).length = i + 1 + xs.length by rw [List.length_cons]; omega]; exact hI
theorem compW_inv {g : DG} {c : DT} {t : DE} {ρw : PEnv} {Q : List PV → Mem → Prop} (Inv : Nat → List PV → Mem → Prop) : ∀ (ps : List PV) (i : Nat) (acc : List PV) (m : Mem),
    (∀ (j : Nat) (x : PV) (acc : List PV) (m : Mem) (N : List PV → Mem → Prop), ps[j]? = some x → Inv (i + j) acc m → (∀ acc' m', Inv (i + j + 1) acc' m' → N acc' m') → g x ρw fun ρ2 => c ρ2 m (fun b m3 => match b with
      | true => t ρ2 m3 (fun y m4 => N (acc ++ [y]) m4) xBot
      | false => N acc m3) xBot) →
    (∀ acc m, Inv (i + ps.length) acc m → Q acc m) → Inv i acc m → compW g c t ρw ps acc m Q
  | [], i, acc, m, _, he, h0 => he acc m h0
  | x :: xs, i, acc, m, hs, he, h0 => by
    refine hs 0 x acc m (fun acc m => compW g c t ρw xs acc m Q) rfl h0 fun acc' m' h' => ?_
    refine compW_inv Inv xs (i + 1) acc' m' (fun j y acc m N hy hI hN => ?_) (fun acc m hI => he acc m ?_) h'
    · exact hs (j + 1) y acc m N (by simpa using hy) (by rw [show i + (j + 1) = i + 1 + j by omega]; exact hI) fun acc' m' h => hN acc' m' (by rw [show i + 1 + j + 1 = i + (j + 1) + 1 by omega]; exact h)
    · rw [show i + (x :: xs).length = i + 1 + xs.length by rw [List.length_cons]; omega]; exact hI
/-- the memory stays: a filter and a map -/
theorem compW_map {g : DG} {c : DT} {t : DE} {ρw : PEnv} {Q : List PV → Mem → Prop} {m : Mem} (p : PV → Bool) (f : PV → PV) : ∀ (ps acc : List PV),
    (∀ (x : PV) (N : List PV → Mem → Prop) (acc : List PV), x ∈ ps → N (if p x then acc ++ [f x] else acc) m → g x ρw fun ρ2 => c ρ2 m (fun b m3 => match b with
      | true => t ρ2 m3 (fun y m4 => N (acc ++ [y]) m4) xBot
      | false => N acc m3) xBot) → Q (acc ++ (ps.filter p).map f) m → compW g c t ρw ps acc m Q
  | [], acc, _, h => by simpa [compW] using h
  | x :: xs, acc, hs, h => by
    refine hs x (fun acc m => compW g c t ρw xs acc m Q) acc (List.mem_cons_self) ?_
    refine compW_map p f xs _ (fun y N acc hy hN => hs y N acc (List.mem_cons_of_mem _ hy) hN) ?_
    by_cases e : p x = true
    · simpa [e, List.filter_cons] using h
    · simpa [e, List.filter_cons] using h
end PL


/-! The pure layer: equality and depth of values, plainly. -/
namespace PL
open PySem PySem.Spec PyProof.Rows L2

def peqs (xs ys : List PV) : Bool := PyData.eqvAll (toDs xs) (toDs ys)
def deps (xs : List PV) : Nat := PyData.depthAll (toDs xs)
@[simp] theorem dep_non : dep .non = 0 := rfl
@[simp] theorem dep_bl (b : Bool) : dep (.bl b) = 0 := rfl
@[simp] theorem dep_int (i : Int) : dep (.int i) = 0 := rfl
@[simp] theorem dep_str (x : Str) : dep (.str x) = 0 := rfl
@[simp] theorem dep_tup (xs : List PV) : dep (.tup xs) = deps xs + 1 := by simp [dep, deps, toD, PyData.depth]
@[simp] theorem dep_lst (xs : List PV) : dep (.lst xs) = deps xs + 1 := by simp [dep, deps, toD, PyData.depth]
@[simp] theorem deps_nil : deps [] = 0 := rfl
@[simp] theorem deps_cons (x : PV) (xs : List PV) : deps (x :: xs) = max (dep x) (deps xs) := by simp [dep, deps, toDs, PyData.depthAll]
@[simp] theorem deps_def (xs : List PV) : PyData.depthAll (toDs xs) = deps xs := rfl
theorem deps_le {n : Nat} : ∀ {xs : List PV}, deps xs ≤ n ↔ ∀ x ∈ xs, dep x ≤ n
  | [] => by simp
  | x :: xs => by simp [Nat.max_le, deps_le]
@[simp] theorem okD_non : okD .non = true := by simp [okD]
@[simp] theorem okD_bl (b : Bool) : okD (.bl b) = true := by simp [okD]
@[simp] theorem okD_int (i : Int) : okD (.int i) = true := by simp [okD]
@[simp] theorem okD_str (x : Str) : okD (.str x) = PyData.strOk x := by simp [okD]
@[simp] theorem okD_tup (xs : List PV) : okD (.tup xs) = okDs xs := by simp [okD]
@[simp] theorem okD_lst (xs : List PV) : okD (.lst xs) = okDs xs := by simp [okD]
@[simp] theorem okD_scr (ns : List Int) : okD (.scr ns) = true := by simp [okD]
@[simp] theorem okDs_nil : okDs [] = true := by simp [okDs]
@[simp] theorem okDs_cons (x : PV) (xs : List PV) : okDs (x :: xs) = (okD x && okDs xs) := by simp [okDs]
theorem okDs_all : ∀ {xs : List PV}, okDs xs = true ↔ ∀ x ∈ xs, okD x = true
  | [] => by simp
  | x :: xs => by simp [okDs_all]
@[simp] theorem peq_nn : peq .non .non = true := rfl
@[simp] theorem peq_ii (i j : Int) : peq (.int i) (.int j) = (i == j) := by simp [peq, toD, PyData.eqv]
@[simp] theorem peq_ss (x y : Str) : peq (.str x) (.str y) = (x == y) := by simp [peq, toD, PyData.eqv]
@[simp] theorem peq_bb (a b : Bool) : peq (.bl a) (.bl b) = (a == b) := by simp [peq, toD, PyData.eqv]
@[simp] theorem peq_tt (xs ys : List PV) : peq (.tup xs) (.tup ys) = peqs xs ys := by simp [peq, peqs, toD, PyData.eqv]
@[simp] theorem peq_ll (xs ys : List PV) : peq (.lst xs) (.lst ys) = peqs xs ys := by simp [peq, peqs, toD, PyData.eqv]
@[simp] theorem peq_ni (i : Int) : peq .non (.int i) = false := by simp [peq, toD, PyData.eqv]
@[simp] theorem peq_in (i : Int) : peq (.int i) .non = false := by simp [peq, toD, PyData.eqv]
@[simp] theorem peq_ns (i : Str) : peq .non (.str i) = false := by simp [peq, toD, PyData.eqv]
@[simp] theorem peq_sn (i : Str) : peq (.str i) .non = false := by simp [peq, toD, PyData.eqv]
@[simp] theorem peq_nb (i : Bool) : peq .non (.bl i) = false := by simp [peq, toD, PyData.eqv]
@[simp] theorem peq_bn (i : Bool) : peq (.bl i) .non = false := by simp [peq, toD, PyData.eqv]
@[simp] theorem peq_nt (i : List PV) : peq .non (.tup i) = false := by simp [peq, toD, PyData.eqv]
@[simp] theorem peq_tn (i : List PV) : peq (.tup i) .non = false := by simp [peq, toD, PyData.eqv]
@[simp] theorem peq_nl (i : List PV) : peq .non (.lst i) = false := by simp [peq, toD, PyData.eqv]
@[simp] theorem peq_ln (i : List PV) : peq (.lst i) .non = false := by simp [peq, toD, PyData.eqv]
@[simp] theorem peq_is (i : Int) (x : Str) : peq (.int i) (.str x) = false := by simp [peq, toD, PyData.eqv]
@[simp] theorem peq_si (i : Int) (x : Str) : peq (.str x) (.int i) = false := by simp [peq, toD, PyData.eqv]
@[simp] theorem peq_it (i : Int) (x : List PV) : peq (.int i) (.tup x) = false := by simp [peq, toD, PyData.eqv]
@[simp] theorem peq_ti (i : Int) (x : List PV) : peq (.tup x) (.int i) = false := by simp [peq, toD, PyData.eqv]
@[simp] theorem peq_il (i : Int) (x : List PV) : peq (.int i) (.lst x) = false := by simp [peq, toD, PyData.eqv]
@[simp] theorem peq_li (i : Int) (x : List PV) : peq (.lst x) (.int i) = false := by simp [peq, toD, PyData.eqv]
@[simp] theorem peq_st (i : Str) (x : List PV) : peq (.str i) (.tup x) = false := by simp [peq, toD, PyData.eqv]
@[simp] theorem peq_ts (i : Str) (x : List PV) : peq (.tup x) (.str i) = false := by simp [peq, toD, PyData.eqv]
@[simp] theorem peq_sl (i : Str) (x : List PV) : peq (.str i) (.lst x) = false := by simp [peq, toD, PyData.eqv]
@[simp] theorem peq_ls (i : Str) (x : List PV) : peq (.lst x) (.str i) = false := by simp [peq, toD, PyData.eqv]
@[simp] theorem peq_sb (i : Str) (x : Bool) : peq (.str i) (.bl x) = false := by simp [peq, toD, PyData.eqv]
@[simp] theorem peq_bs (i : Str) (x : Bool) : peq (.bl x) (.str i) = false := by simp [peq, toD, PyData.eqv]
@[simp] theorem peq_tb (i : List PV) (x : Bool) : peq (.tup i) (.bl x) = false := by simp [peq, toD, PyData.eqv]
@[simp] theorem peq_bt (i : List PV) (x : Bool) : peq (.bl x) (.tup i) = false := by simp [peq, toD, PyData.eqv]
@[simp] theorem peq_tl (i x : List PV) : peq (.tup i) (.lst x) = false := by simp [peq, toD, PyData.eqv]
@[simp] theorem peq_lt (i x : List PV) : peq (.lst x) (.tup i) = false := by simp [peq, toD, PyData.eqv]
@[simp] theorem peqs_nil : peqs [] [] = true := by simp [peqs, toDs, PyData.eqvAll]
@[simp] theorem peqs_cons (x y : PV) (xs ys : List PV) : peqs (x :: xs) (y :: ys) = (peq x y && peqs xs ys) := by simp [peqs, peq, toDs, PyData.eqvAll]
@[simp] theorem peqs_cn (x : PV) (xs : List PV) : peqs (x :: xs) [] = false := by simp [peqs, toDs, PyData.eqvAll]
@[simp] theorem peqs_nc (x : PV) (xs : List PV) : peqs [] (x :: xs) = false := by simp [peqs, toDs, PyData.eqvAll]
@[simp] theorem peq_scr_nil (ns : List Int) : peq (.scr ns) (.lst []) = ns.isEmpty := by
  cases ns <;> simp [peq, toD, toDs, PyData.eqv, PyData.eqvAll]
mutual
/-- no bools, nothing that isn't data -/
def cln : PV → Bool
  | .non | .int _ | .str _ => true
  | .tup xs | .lst xs => clns xs
  | _ => false
def clns : List PV → Bool
  | [] => true
  | x :: xs => cln x && clns xs
end
@[simp] theorem cln_non : cln .non = true := by simp [cln]
@[simp] theorem cln_int (i : Int) : cln (.int i) = true := by simp [cln]
@[simp] theorem cln_str (i : Str) : cln (.str i) = true := by simp [cln]
@[simp] theorem cln_tup (i : List PV) : cln (.tup i) = clns i := by simp [cln]
@[simp] theorem cln_lst (i : List PV) : cln (.lst i) = clns i := by simp [cln]
@[simp] theorem clns_nil : clns [] = true := by simp [clns]
@[simp] theorem clns_cons (x : PV) (xs : List PV) : clns (x :: xs) = (cln x && clns xs) := by simp [clns]
theorem clns_all : ∀ {xs : List PV}, clns xs = true ↔ ∀ x ∈ xs, cln x = true
  | [] => by simp
  | x :: xs => by simp [clns_all]
mutual
theorem peq_iff : ∀ {p q : PV}, cln p = true → cln q = true → (peq p q = true ↔ p = q)
  | .non, q, _, h => by cases q <;> simp_all [cln]
  | .int i, q, _, h => by cases q <;> simp_all [cln]
  | .str x, q, _, h => by cases q <;> simp_all [cln]
  | .tup xs, .tup ys, h1, h2 => by simpa using peqs_iff (by simpa using h1) (by simpa using h2)
  | .lst xs, .lst ys, h1, h2 => by simpa using peqs_iff (by simpa using h1) (by simpa using h2)
  | .tup xs, .non, _, _ => by simp
  | .tup xs, .int _, _, _ => by simp
  | .tup xs, .str _, _, _ => by simp
  | .tup xs, .lst _, _, _ => by simp
  | .lst xs, .non, _, _ => by simp
  | .lst xs, .int _, _, _ => by simp
  | .lst xs, .str _, _, _ => by simp
  | .lst xs, .tup _, _, _ => by simp
  | .tup xs, .bl _, _, h => by simp [cln] at h
  | .tup xs, .scr _, _, h => by simp [cln] at h
  | .tup xs, .raw _, _, h => by simp [cln] at h
  | .lst xs, .bl _, _, h => by simp [cln] at h
  | .lst xs, .scr _, _, h => by simp [cln] at h
  | .lst xs, .raw _, _, h => by simp [cln] at h
  | .bl _, _, h, _ => by simp [cln] at h
  | .scr _, _, h, _ => by simp [cln] at h
  | .raw _, _, h, _ => by simp [cln] at h
theorem peqs_iff : ∀ {ps qs : List PV}, clns ps = true → clns qs = true → (peqs ps qs = true ↔ ps = qs)
  | [], [], _, _ => by simp
  | [], _ :: _, _, _ => by simp
  | _ :: _, [], _, _ => by simp
  | p :: ps, q :: qs, h1, h2 => by
    simp only [clns_cons, Bool.and_eq_true] at h1 h2
    simp only [peqs_cons, Bool.and_eq_true, peq_iff h1.1 h2.1, peqs_iff h1.2 h2.2, List.cons.injEq]
end
theorem peq_false {p q : PV} (h1 : cln p = true) (h2 : cln q = true) : peq p q = false ↔ p ≠ q := by
  rw [← Bool.not_eq_true, peq_iff h1 h2]
theorem blsOf_map : ∀ bs : List Bool, blsOf (bs.map PV.bl) = some bs
  | [] => rfl
  | b :: bs => by simp [blsOf, blsOf_map bs]
theorem blsOf_mapf {α : Type} (f : α → Bool) (xs : List α) : blsOf (xs.map fun x => PV.bl (f x)) = some (xs.map f) := by
  rw [← blsOf_map, List.map_map]; rfl
end PL


/-! PLv: the end: the start's promise, defs by the head's facts. -/
namespace PL
open PySem PySem.Spec PyProof.Rows L2
theorem fun_of {K : PySem.W.Frag} {x q : Str} {st : Stmt} {f : Addr} {fd : FuncData} (F : FunD K x q (defArgs st) (defBody st) (defScope st) [] [] f fd) : Fun K x q st f fd := by
  obtain ⟨oc, od, dV, kV, doc, pm, an, cdv, ct, osl, e, lk, hc, hd, hk⟩ := F.ex
  rcases hd with ⟨_, rfl⟩ | ⟨h, _⟩
  · exact ⟨⟨oc, od, kV, doc, pm, an, cdv, ct, osl, e, lk, hc⟩, F.kp⟩
  · exact absurd rfl h
theorem code_of {K : PySem.W.Frag} {x q : Str} {st : Stmt} {p : Str × Option Str} {fd : FuncData} (F : Fun K x q st (He.fAd K p) fd) : fd.code = .ref (He.codeOf K p) := by
  obtain ⟨oc, od, kV, doc, pm, an, cdv, ct, osl, rfl, lk, hc⟩ := F.ex
  obtain ⟨c, rfl⟩ := He.codeIn_ref hc
  rw [He.codeOf_eq lk rfl]
theorem scr_start {K : PySem.W.Frag} {H : Hp} {a : Addr} {xs : List V} (h : SqL K H a xs) : ∃ F : Hp, Same F H ∧ (∀ a o, F a = some o → noTbl o) ∧ SqL K F a xs := by
  have key : ∀ u : HO, noTbl u → H a = some u → ∃ F : Hp, Same F H ∧ (∀ a o, F a = some o → noTbl o) ∧ F a = some u := fun u nt hu => by
    refine ⟨fun b => if b = a then some u else none, fun b o e => ?_, fun b o e => ?_, if_pos rfl⟩
    · have e' : (if b = a then some u else none) = some o := e
      split at e'
      · rename_i q
        rw [q, hu, e']
      · cases e'
    · have e' : (if b = a then some u else none) = some o := e
      split at e'
      · cases e'
        exact nt
      · cases e'
  rcases h with (h | ⟨o, h⟩) | h
  · obtain ⟨F, h1, h2, h3⟩ := key _ (fun ps z => (by cases z)) h
    exact ⟨F, h1, h2, .inl (.inl h3)⟩
  · obtain ⟨F, h1, h2, h3⟩ := key _ (fun ps z => (by cases z)) h
    exact ⟨F, h1, h2, .inl (.inr ⟨o, h3⟩)⟩
  · exact ⟨fun _ => none, fun b o e => (by cases e), fun b o e => (by cases e), .inr h⟩
theorem sp_start {w : World} {K : PySem.W.Frag} {T : List (Addr × Str)} {S : SpP} {H : Hp} {a : Addr} {ns : List Int} (hT : ∀ p ∈ T, H p.1 = some (.tbl #[])) (hS : SqL K H a (ns.map V.int)) (h : S [.scr ns] (fun _ => none) (fun p _ => p = .bl true) (fun _ _ => False)) :
    spOf w K T 1 S [.ref a] H (fun v _ => v = .bl true) fun _ _ _ => False := by
  obtain ⟨F, h1, h2, h3⟩ := scr_start hS
  refine ⟨F, fun _ => none, [.scr ns], fun p _ => p = .bl true, fun _ _ => False, rfl, h1, h2, fun a c e => (by cases e), fun p hp => LamX.TabS.nil (hT p hp), .cons (.scr h3) .nil, h, fun v p F' H' m' _ _ _ _ _ r q => ?_, fun C F' H' m' _ _ _ _ _ q => q⟩
  subst q
  cases r
  rfl
theorem cxF {P : Program} {w : World} {H : Hp} {s : Shared} {e : Value} {s' : Shared} (h : L2N.CX P w [] H s (fun _ _ _ => False) e s') : False := by
  obtain ⟨_, _, _, _, _, q⟩ := h
  exact q.2.2.2.2.2.2.2.elim
/-! ### the facts of the errors' classes -/
def ecB (K : PySem.W.Frag) (D : Addr) : Bool := decide (PySem.W.findIn K (.ref D) "__getattribute__" = some (some (.builtin "BaseException.__getattribute__"))) && (decide (PySem.W.findIn K (.ref D) "__getattr__" = some none) && (decide (PySem.W.subIn K (.ref D) (.type "BaseException") = some true) && (PySem.W.hasDictIn K D && (decide (PySem.W.findIn K (.ref D) "__class__" = some (some (.builtin "object.__class__"))) && (decide (PySem.W.specialIn K (.builtin "object.__class__") "__get__" = some (some (.builtin "getset_descriptor.__get__"))) && (decide (PySem.W.takesIn K (.builtin "object.__class__") = some true) && decide (PySem.W.mroIn K D (.type "object") = some true)))))))
theorem ecB_ok {K : PySem.W.Frag} {D : Addr} (h : ecB K D = true) : ExcC K D := by
  obtain ⟨h1, h⟩ := He.ba h
  obtain ⟨h2, h⟩ := He.ba h
  obtain ⟨h3, h⟩ := He.ba h
  obtain ⟨h4, h⟩ := He.ba h
  obtain ⟨h5, h⟩ := He.ba h
  obtain ⟨h6, h⟩ := He.ba h
  obtain ⟨h7, h8⟩ := He.ba h
  exact ⟨of_decide_eq_true h1, of_decide_eq_true h2, of_decide_eq_true h3, h4, of_decide_eq_true h5, of_decide_eq_true h6, of_decide_eq_true h7, of_decide_eq_true h8⟩
end PL


namespace PL
open PySem PySem.Spec PyProof.Rows L2
def top (i : Nat) : Stmt := PySem.Challenge.pw_nullfilters_k17_whole_sets.main.body.getD i (.Pass ⟨0, 0, 0, 0⟩)
section
variable {P : Program} {w : World} {K : PySem.W.Frag} {mg : Str → Option Value} {base : Heap} {T : List (Addr × Str)} {C_FilterError C_InvalidWidth C_InvalidPredicate C_InvalidRow C_InvalidTable C_InvalidColumn C_InvalidPath C_InvalidRule C_NotPlain C_Rejected C_NothingToUndo C_InvalidText : Addr}
abbrev s_is_whole : Stmt := top 15
theorem sc_is_whole : FnScope ["value", "low", "high"] ["value", "low", "high"] (defScope s_is_whole) := ⟨rfl, rfl, rfl, by decide +kernel, rfl, by decide +kernel, by decide +kernel⟩
def isWhole (p : PV) (lo hi : Int) : Bool := match p with
  | .int i => decide (lo ≤ i) && decide (i ≤ hi)
  | _ => false
@[simp] def S_is_whole : SpP := fun ps m Q R => match ps with
  | [p, .int lo, .int hi] => noRaw p ∧ Q (.bl (isWhole p lo hi)) m
  | _ => False
theorem ok_is_whole {f : Addr} {fd : FuncData} (F : Fun K "is_whole" "is_whole" s_is_whole f fd) (bn : BN mg)  :
    FnOk P w K mg base (L2N.CX P w) 1 f fd ["value", "low", "high"] (spOf w K T 3 S_is_whole) := by
  have sc := sc_is_whole
  refine fn_ok F sc fun cdv A outer s H H0 F0 m0 E hr => ⟨_, (jb_one (js_ret (je_and (je_isi isT_int (bn _ (by decide)) (bn _ (by decide)) (je_var 0)) (je_and (je_not (je_isi isT_bool (bn _ (by decide)) (bn _ (by decide)) (je_var 0))) (je_one (je_chain o_le o_le (je_var 1) (je_var 0) (je_var 2))))))), ?_⟩
  intro qs m Q R h hl; clear hl
  unfold S_is_whole at h
  split at h
  · rename_i p lo hi
    obtain ⟨hp, h⟩ := h
    cases p with
    | raw v => exact hp.elim
    | int i =>
      simp
      by_cases h1 : lo ≤ i <;> by_cases h2 : i ≤ hi <;> simpa [isWhole, h1, h2] using h
    | _ => simpa [isWhole] using h
  · exact h.elim
abbrev s_need_width : Stmt := top 16
theorem sc_need_width : FnScope ["width"] ["width"] (defScope s_need_width) := ⟨rfl, rfl, rfl, by decide +kernel, rfl, by decide +kernel, by decide +kernel⟩
@[simp] def S_need_width (IW : Addr) : SpP := fun ps m Q R => match ps with
  | [p] => noRaw p ∧ (isWhole p 1 3 = true → Q .non m) ∧ (isWhole p 1 3 = false → R IW m)
  | _ => False
theorem ok_need_width {f : Addr} {fd : FuncData} (F : Fun K "need_width" "need_width" s_need_width f fd) (bn : BN mg) (d_is_whole : CalM P w K mg base T 1 "is_whole" 3 S_is_whole) (x_InvalidWidth : ExcP K mg "InvalidWidth" C_InvalidWidth) :
    FnOk P w K mg base (L2N.CX P w) 2 f fd ["width"] (spOf w K T 1 (S_need_width C_InvalidWidth)) := by
  have sc := sc_need_width
  refine fn_ok F sc fun cdv A outer s H H0 F0 m0 E hr => ⟨_, (jb_one (js_if (jt_not (jt_val (je_call d_is_whole (hr.mono (by decide)) (ja_cons (je_var 0) (ja_cons je_int (ja_cons je_int ja_nil)))))) (jb_one (js_raise x_InvalidWidth rfl)) jb_nil)), ?_⟩
  intro qs m Q R h hl; clear hl
  unfold S_need_width at h
  split at h
  · rename_i p
    obtain ⟨hp, h1, h2⟩ := h
    cases e : isWhole p 1 3 with
    | true => simpa [e] using ⟨hp, h1 e⟩
    | false => simpa [e] using ⟨hp, h2 e⟩
  · exact h.elim
abbrev s_is_value : Stmt := top 17
theorem sc_is_value : FnScope ["value"] ["value"] (defScope s_is_value) := ⟨rfl, rfl, rfl, by decide +kernel, rfl, by decide +kernel, by decide +kernel⟩
def G_GREATEST (mg : Str → Option Value) : Prop := ∃ t, mg "GREATEST" = some (.int 1000000000000 t)
def isVal (p : PV) : Bool := match p with
  | .non => true
  | p => isWhole p (-1000000000000) 1000000000000
@[simp] def S_is_value : SpP := fun ps m Q R => match ps with
  | [p] => noRaw p ∧ Q (.bl (isVal p)) m
  | _ => False
theorem ok_is_value {f : Addr} {fd : FuncData} (F : Fun K "is_value" "is_value" s_is_value f fd) (bn : BN mg) (d_is_whole : CalM P w K mg base T 1 "is_whole" 3 S_is_whole) (g_GREATEST : G_GREATEST mg) :
    FnOk P w K mg base (L2N.CX P w) 2 f fd ["value"] (spOf w K T 1 S_is_value) := by
  have sc := sc_is_value
  refine fn_ok F sc fun cdv A outer s H H0 F0 m0 E hr => ⟨_, (jb_one (js_ret (je_or (je_cmp o_is (je_var 0) je_non) (je_one (je_call d_is_whole (hr.mono (by decide)) (ja_cons (je_var 0) (ja_cons (je_neg (je_gint g_GREATEST)) (ja_cons (je_gint g_GREATEST) ja_nil)))))))), ?_⟩
  intro qs m Q R h hl; clear hl
  unfold S_is_value at h
  split at h
  · rename_i p
    obtain ⟨hp, h⟩ := h
    cases p with
    | raw v => exact hp.elim
    | non => simpa [isVal] using h
    | _ => simpa [isVal] using h
  · exact h.elim
abbrev s_need_row : Stmt := top 18
theorem sc_need_row : FnScope ["width", "row", "value"] ["width", "row"] (defScope s_need_row) := ⟨rfl, rfl, rfl, by decide +kernel, rfl, by decide +kernel, by decide +kernel⟩
def rowOk (w : Int) (p : PV) : Bool := match p with
  | .tup xs => decide ((xs.length : Int) = w) && xs.all isVal
  | _ => false
def noRaws (p : PV) : Prop := noRaw p ∧ ∀ xs, p = .tup xs → xs.length ≤ 1000000 ∧ ∀ x ∈ xs, noRaw x
@[simp] def S_need_row (IR : Addr) : SpP := fun ps m Q R => match ps with
  | [.int w, p] => noRaws p ∧ (rowOk w p = true → Q .non m) ∧ (rowOk w p = false → R IR m)
  | _ => False
theorem ok_need_row {f : Addr} {fd : FuncData} (F : Fun K "need_row" "need_row" s_need_row f fd) (bn : BN mg) (d_is_value : CalM P w K mg base T 2 "is_value" 1 S_is_value) (x_InvalidRow : ExcP K mg "InvalidRow" C_InvalidRow) :
    FnOk P w K mg base (L2N.CX P w) 3 f fd ["width", "row"] (spOf w K T 2 (S_need_row C_InvalidRow)) := by
  have sc := sc_need_row
  refine fn_ok F sc fun cdv A outer s H H0 F0 m0 E hr => ⟨_, (jb_one (js_if (JW.jt (jw_or (jt_not (jt_val (je_isi isT_tup (bn _ (by decide)) (bn _ (by decide)) (je_var 1)))) (jw_or (jt_cmp (o_ne (rm_of hr)) (je_callB c_len (bn _ (by decide)) (ja_cons (je_var 1) ja_nil)) (je_var 0)) (jw_or1 (jt_not (jt_val (je_callB (c_all rfl) (bn _ (by decide)) (ja_cons (je_lc (own := [("value", 2)]) rfl sc.nd (ji_tup (je_var 1)) (blkOk_by (show blkC ["width", "row", "value"] (defScope s_need_row) _ [("value", 2)] = true by decide +kernel)) (fun _ _ _ _ _ => (jg_name 2 sc.nd)) (fun _ _ _ _ _ => jts_nil) (fun _ _ _ _ _ => (je_call d_is_value (hr.mono (by decide)) (ja_cons (je_var 2) ja_nil)))) ja_nil)))))))) (jb_one (js_raise x_InvalidRow rfl)) jb_nil)), ?_⟩
  intro qs m Q R h hl; clear hl
  unfold S_need_row at h
  split at h
  · rename_i w p
    obtain ⟨hp, h1, h2⟩ := h
    cases p with
    | raw v => exact hp.1.elim
    | tup xs =>
      obtain ⟨hz, hx⟩ := hp.2 xs rfl
      by_cases e : (xs.length : Int) = w
      · simp [e]
        refine ⟨hz, compW_map (fun _ => true) (fun x => .bl (isVal x)) xs [] (fun x N acc hm hN => ?_) ⟨xs.map isVal, ?_, ?_⟩⟩
        · have := hx x hm
          simp only [noRaw] at this
          simpa using ⟨this, hN⟩
        · rw [List.filter_eq_self.mpr (fun _ _ => rfl)]; exact blsOf_mapf _ _
        · cases e2 : xs.all isVal with
          | true => simpa [List.all_map, Function.comp_def, e2] using h1 (by simp [rowOk, e, e2])
          | false => simpa [List.all_map, Function.comp_def, e2] using h2 (by simp [rowOk, e2])
      · have e3 : ((xs.length : Int) == w) = false := by simpa using e
        simpa [rowOk, e, e3] using h2
    | _ => simpa [rowOk] using h2
  · exact h.elim
abbrev s_need_table : Stmt := top 20
theorem sc_need_table : FnScope ["width", "rows", "row"] ["width", "rows"] (defScope s_need_table) := ⟨rfl, rfl, rfl, by decide +kernel, rfl, by decide +kernel, by decide +kernel⟩
/-- for good rows, or too many -/
@[simp] def S_need_table (IT : Addr) : SpP := fun ps m Q R => match ps with
  | [.int w, .lst xs] => (20 < xs.length → R IT m) ∧ (xs.length ≤ 20 → (∀ x ∈ xs, noRaws x ∧ rowOk w x = true) ∧ Q .non m)
  | _ => False
theorem ok_need_table {f : Addr} {fd : FuncData} (F : Fun K "need_table" "need_table" s_need_table f fd) (bn : BN mg) (d_need_row : CalM P w K mg base T 3 "need_row" 2 (S_need_row C_InvalidRow)) (x_InvalidTable : ExcP K mg "InvalidTable" C_InvalidTable) (x_InvalidRow : ExcP K mg "InvalidRow" C_InvalidRow) :
    FnOk P w K mg base (L2N.CX P w) 4 f fd ["width", "rows"] (spOf w K T 2 (S_need_table C_InvalidTable)) := by
  have sc := sc_need_table
  refine fn_ok F sc fun cdv A outer s H H0 F0 m0 E hr => ⟨_, (jb_cons (js_if (JW.jt (jw_or (jt_not (jt_val (je_isi isT_lst (bn _ (by decide)) (bn _ (by decide)) (je_var 1)))) (jw_or1 (jt_cmp o_gt (je_callB c_len (bn _ (by decide)) (ja_cons (je_var 1) ja_nil)) je_int)))) (jb_one (js_raise x_InvalidTable rfl)) jb_nil)
  (jb_one (js_for passes_own rfl (ji_list (je_var 1)) (jg_name 2 sc.nd) (jb_one (js_tryq (jb_one (js_expr (je_call d_need_row (hr.mono (by decide)) (ja_cons (je_var 0) (ja_cons (je_var 2) ja_nil)))))))))), ?_⟩
  intro qs m Q R h hl; clear hl
  unfold S_need_table at h
  split at h
  · rename_i w xs
    obtain ⟨h1, h2⟩ := h
    by_cases e : 20 < xs.length
    · have e' : (20 : Int) < xs.length := by omega
      simpa [e'] using h1 e
    · have e' : ¬ (20 : Int) < xs.length := by omega
      obtain ⟨hr', hQ⟩ := h2 (by omega)
      simp [e']
      refine ⟨by omega, forW_inv (fun _ ρ m' => m' = m ∧ ∃ v, ρ = [some (.val (.int w)), some (.val (.lst xs)), v]) xs 0 _ _ ?_ ?_ ⟨rfl, _, rfl⟩⟩
      · rintro j x ρ m' N hx ⟨rfl, v, rfl⟩ hN
        obtain ⟨g1, g2⟩ := hr' x (List.mem_of_getElem? hx)
        simpa [g1, g2] using hN _ _ ⟨rfl, _, rfl⟩
      · rintro ρ m' ⟨rfl, v, rfl⟩
        exact hQ
  · exact h.elim
abbrev s_unlike : Stmt := top 21
theorem sc_unlike : FnScope ["rows", "found", "row"] ["rows"] (defScope s_unlike) := ⟨rfl, rfl, rfl, by decide +kernel, rfl, by decide +kernel, by decide +kernel⟩
/-! ### rows as plain lists -/
abbrev Row := List (Option Int)
def oP : Option Int → PV
  | none => .non
  | some i => .int i
def rowP (r : Row) : PV := .tup (r.map oP)
def uniq (l : List Row) : List Row := l.foldl (fun acc r => if r ∈ acc then acc else acc ++ [r]) []
def oKey : Option Int → Option Key
  | none => none
  | some i => some (.inl i)
theorem oKey_inj {a b : Option Int} (h : oKey a = oKey b) : a = b := by
  cases a <;> cases b <;> simp_all [oKey]
theorem oKeys_inj : ∀ {a b : Row}, a.map oKey = b.map oKey → a = b
  | [], [], _ => rfl
  | [], _ :: _, h => by simp at h
  | _ :: _, [], h => by simp at h
  | x :: xs, y :: ys, h => by
    simp only [List.map_cons, List.cons.injEq] at h
    rw [oKey_inj h.1, oKeys_inj h.2]
theorem pvKs_row : ∀ r : Row, pvKs (r.map oP) = some (r.map oKey)
  | [] => rfl
  | x :: r => by cases x <;> simp [pvKs, oP, oKey, pvKs_row r]
theorem kPV_row (r : Row) : (r.map oKey).map kPV = r.map oP := by
  rw [List.map_map]
  apply List.map_congr_left
  intro x _
  cases x <;> rfl
def entR (r : Row) : List (Option Key) × PV := (r.map oKey, .bl true)
theorem pput_row (acc : List Row) (r : Row) : pput (acc.map entR) (r.map oKey) (.bl true) = (if r ∈ acc then acc else acc ++ [r]).map entR := by
  have e : ((acc.map entR).any fun kv => decide (kv.1 = r.map oKey)) = decide (r ∈ acc) := by
    rw [List.any_map]
    induction acc with
    | nil => rfl
    | cons a acc ih =>
      rw [List.any_cons, ih]
      by_cases h : a = r
      · simp [entR, h]
      · have h2 : ¬ a.map oKey = r.map oKey := fun z => h (oKeys_inj z)
        have h3 : ¬ r = a := fun z => h z.symm
        simp [entR, h2, h3]
  unfold pput
  rw [e]
  by_cases h : r ∈ acc
  · simp only [h, decide_true, if_true]
    rw [List.map_map]
    apply List.map_congr_left
    intro x _
    by_cases h2 : x.map oKey = r.map oKey <;> simp [entR, h2]
  · simp [h, entR]
theorem uniq_len (l : List Row) : (uniq l).length ≤ l.length := by
  have key : ∀ (l acc : List Row), (l.foldl (fun acc r => if r ∈ acc then acc else acc ++ [r]) acc).length ≤ acc.length + l.length := by
    intro l
    induction l with
    | nil => intro acc; simp
    | cons r l ih =>
      intro acc
      refine Nat.le_trans (ih _) ?_
      show (if r ∈ acc then acc else acc ++ [r]).length + l.length ≤ _
      split <;> simp <;> omega
  have := key l []
  simpa [uniq] using this
@[simp] def S_unlike : SpP := fun ps m Q R => match ps with
  | [.lst xs] => ∃ rows : List Row, xs = rows.map rowP ∧ rows.length ≤ 1000 ∧ Q (.lst ((uniq rows).map rowP)) m
  | _ => False
theorem ok_unlike {f : Addr} {fd : FuncData} (F : Fun K "unlike" "unlike" s_unlike f fd) (bn : BN mg)  :
    FnOk P w K mg base (L2N.CX P w) 1 f fd ["rows"] (spOf w K T 1 S_unlike) := by
  have sc := sc_unlike
  refine fn_ok F sc fun cdv A outer s H H0 F0 m0 E hr => ⟨_, (jb_cons (js_dnew 1 (.dcT []) rfl sc.nd)
  (jb_cons (js_for passes_own rfl (ji_list (je_var 0)) (jg_name 2 sc.nd) (jb_one (js_dput 1 rfl (hu1 hr) (je_var 2) je_bl)))
  (jb_one (js_ret (je_dlist 1 rfl rfl (bn _ (by decide))))))), ?_⟩
  intro qs m Q R h hl; clear hl
  unfold S_unlike at h
  split at h
  · obtain ⟨rows, rfl, hz, hQ⟩ := h
    simp
    refine ⟨by omega, forW_inv (fun j ρ m' => m' = m ∧ ∃ v, ρ = [some (.val (.lst (rows.map rowP))), some (.own (.dcT ((uniq (rows.take j)).map entR))), v]) (rows.map rowP) 0 _ _ ?_ ?_ ⟨rfl, none, rfl⟩⟩
    · rintro j x ρ m' N hx ⟨rfl, v, rfl⟩ hN
      rw [List.getElem?_map] at hx
      cases hr' : rows[j]? with
      | none => rw [hr'] at hx; cases hx
      | some r =>
        rw [hr'] at hx
        cases hx
        have hlt := (List.getElem?_eq_some_iff.mp hr').1
        have hu := uniq_len (rows.take (0 + j))
        rw [List.length_take] at hu
        have e : (uniq (rows.take (0 + j + 1))) = (if r ∈ uniq (rows.take (0 + j)) then uniq (rows.take (0 + j)) else uniq (rows.take (0 + j)) ++ [r]) := by
          simp only [Nat.zero_add]
          unfold uniq
          rw [List.take_succ, hr', List.foldl_append]
          rfl
        have hlen : ((uniq (rows.take (0 + j))).map entR).length < 1000000 := by rw [List.length_map]; omega
        simp only [wPut, wVar, at', rowP, wC, pPut, pvT, pvKs_row, hlen, if_true, pput_row, put, gN, wSeq]
        exact ⟨_, rfl, hN _ _ ⟨rfl, _, by rw [e]⟩⟩
    · rintro ρ m' ⟨rfl, v, rfl⟩
      simp
      have e : (rows.take (0 + (rows.map rowP).length)) = rows := by rw [List.length_map, Nat.zero_add, List.take_length]
      have e2 : (uniq rows).map ((fun kv => PV.tup (kv.1.map kPV)) ∘ entR) = (uniq rows).map rowP := by
        apply List.map_congr_left
        intro r _
        simp only [Function.comp, entR, kPV_row, rowP]
      rw [e2]
      exact hQ
  · exact h.elim
abbrev s_distinct : Stmt := top 22
theorem sc_distinct : FnScope ["width", "rows"] ["width", "rows"] (defScope s_distinct) := ⟨rfl, rfl, rfl, by decide +kernel, rfl, by decide +kernel, by decide +kernel⟩
/-- good rows of a width -/
def goodT (w : Int) (xs : List PV) : Prop := ∀ x ∈ xs, noRaws x ∧ rowOk w x = true
@[simp] def S_distinct (IW IT : Addr) : SpP := fun ps m Q R => match ps with
  | [.int w, .lst xs] => isWhole (.int w) 1 3 = true ∧ xs.length ≤ 20 ∧ goodT w xs ∧ ∃ rows : List Row, xs = rows.map rowP ∧ Q (.lst ((uniq rows).map rowP)) m
  | _ => False
theorem ok_distinct {f : Addr} {fd : FuncData} (F : Fun K "distinct" "distinct" s_distinct f fd) (bn : BN mg) (d_need_width : CalM P w K mg base T 2 "need_width" 1 (S_need_width C_InvalidWidth)) (d_need_table : CalM P w K mg base T 4 "need_table" 2 (S_need_table C_InvalidTable)) (d_unlike : CalM P w K mg base T 1 "unlike" 1 S_unlike) :
    FnOk P w K mg base (L2N.CX P w) 5 f fd ["width", "rows"] (spOf w K T 2 (S_distinct C_InvalidWidth C_InvalidTable)) := by
  have sc := sc_distinct
  refine fn_ok F sc fun cdv A outer s H H0 F0 m0 E hr => ⟨_, (jb_cons (js_expr (je_call d_need_width (hr.mono (by decide)) (ja_cons (je_var 0) ja_nil)))
  (jb_cons (js_expr (je_call d_need_table (hr.mono (by decide)) (ja_cons (je_var 0) (ja_cons (je_var 1) ja_nil))))
  (jb_one (js_ret (je_call d_unlike (hr.mono (by decide)) (ja_cons (je_var 1) ja_nil)))))), ?_⟩
  intro qs m Q R h hl; clear hl
  unfold S_distinct at h
  split at h
  · obtain ⟨h1, h2, h3, rows, rfl, hQ⟩ := h
    have h4 : ¬ 20 < rows.length := by rw [List.length_map] at h2; omega
    have h5 : rows.length ≤ 1000 := by rw [List.length_map] at h2; omega
    simp [h1, h2, h4]
    rw [List.length_map] at h2
    exact fun _ => ⟨fun r hr' => h3 (rowP r) (List.mem_map.mpr ⟨r, hr', rfl⟩), rows, rfl, h5, hQ⟩
  · exact h.elim
abbrev s_need_two : Stmt := top 23
theorem sc_need_two : FnScope ["width", "rows", "others"] ["width", "rows", "others"] (defScope s_need_two) := ⟨rfl, rfl, rfl, by decide +kernel, rfl, by decide +kernel, by decide +kernel⟩
/-- two tables of a width: what is asked of them, in this order -/
def twoS (IW IT : Addr) (w : Int) (xs ys : List PV) (m : Mem) (R : KX) (fin : Prop) : Prop :=
  (isWhole (.int w) 1 3 = false → R IW m) ∧ (isWhole (.int w) 1 3 = true → (20 < xs.length → R IT m) ∧ (xs.length ≤ 20 → goodT w xs ∧ (20 < ys.length → R IT m) ∧ (ys.length ≤ 20 → goodT w ys ∧ fin)))
theorem twoS.imp {IW IT : Addr} {w : Int} {xs ys : List PV} {m : Mem} {R : KX} {fin fin' : Prop} (h : twoS IW IT w xs ys m R fin) (k : xs.length ≤ 20 → ys.length ≤ 20 → fin → fin') : twoS IW IT w xs ys m R fin' :=
  ⟨h.1, fun hw => ⟨(h.2 hw).1, fun hx => ⟨((h.2 hw).2 hx).1, ((h.2 hw).2 hx).2.1, fun hy => ⟨(((h.2 hw).2 hx).2.2 hy).1, k hx hy (((h.2 hw).2 hx).2.2 hy).2⟩⟩⟩⟩
@[simp] def S_need_two (IW IT : Addr) : SpP := fun ps m Q R => match ps with
  | [.int w, .lst xs, .lst ys] => twoS IW IT w xs ys m R (Q .non m)
  | _ => False
theorem ok_need_two {f : Addr} {fd : FuncData} (F : Fun K "need_two" "need_two" s_need_two f fd) (bn : BN mg) (d_need_width : CalM P w K mg base T 2 "need_width" 1 (S_need_width C_InvalidWidth)) (d_need_table : CalM P w K mg base T 4 "need_table" 2 (S_need_table C_InvalidTable)) :
    FnOk P w K mg base (L2N.CX P w) 5 f fd ["width", "rows", "others"] (spOf w K T 3 (S_need_two C_InvalidWidth C_InvalidTable)) := by
  have sc := sc_need_two
  refine fn_ok F sc fun cdv A outer s H H0 F0 m0 E hr => ⟨_, (jb_cons (js_expr (je_call d_need_width (hr.mono (by decide)) (ja_cons (je_var 0) ja_nil)))
  (jb_cons (js_expr (je_call d_need_table (hr.mono (by decide)) (ja_cons (je_var 0) (ja_cons (je_var 1) ja_nil))))
  (jb_one (js_expr (je_call d_need_table (hr.mono (by decide)) (ja_cons (je_var 0) (ja_cons (je_var 2) ja_nil))))))), ?_⟩
  intro qs m Q R h hl; clear hl
  unfold S_need_two at h
  split at h
  · rename_i w xs ys
    obtain ⟨h1, h2⟩ := h
    simp
    refine ⟨fun hw => ⟨(h2 hw).1, fun hx => ⟨((h2 hw).2 hx).1, ((h2 hw).2 hx).2.1, fun hy => ((h2 hw).2 hx).2.2 hy⟩⟩, h1⟩
  · exact h.elim
abbrev s_union : Stmt := top 24
theorem sc_union : FnScope ["width", "rows", "others"] ["width", "rows", "others"] (defScope s_union) := ⟨rfl, rfl, rfl, by decide +kernel, rfl, by decide +kernel, by decide +kernel⟩
@[simp] def S_union (IW IT : Addr) : SpP := fun ps m Q R => match ps with
  | [.int w, .lst xs, .lst ys] => twoS IW IT w xs ys m R (∃ rows others : List Row, xs = rows.map rowP ∧ ys = others.map rowP ∧ Q (.lst ((uniq (rows ++ others)).map rowP)) m)
  | _ => False
theorem ok_union {f : Addr} {fd : FuncData} (F : Fun K "union" "union" s_union f fd) (bn : BN mg) (d_need_two : CalM P w K mg base T 5 "need_two" 3 (S_need_two C_InvalidWidth C_InvalidTable)) (d_unlike : CalM P w K mg base T 1 "unlike" 1 S_unlike) :
    FnOk P w K mg base (L2N.CX P w) 6 f fd ["width", "rows", "others"] (spOf w K T 3 (S_union C_InvalidWidth C_InvalidTable)) := by
  have sc := sc_union
  refine fn_ok F sc fun cdv A outer s H H0 F0 m0 E hr => ⟨_, (jb_cons (js_expr (je_call d_need_two (hr.mono (by decide)) (ja_cons (je_var 0) (ja_cons (je_var 1) (ja_cons (je_var 2) ja_nil)))))
  (jb_one (js_ret (je_call d_unlike (hr.mono (by decide)) (ja_cons (je_op o_add (je_var 1) (je_var 2)) ja_nil))))), ?_⟩
  intro qs m Q R h hl; clear hl
  unfold S_union at h
  split at h
  · rename_i w xs ys
    simp
    refine h.imp fun hx hy ⟨rows, others, e1, e2, hQ⟩ => ?_
    subst e1 e2
    rw [List.length_map] at hx hy
    simp
    exact ⟨by omega, rows ++ others, by simp, by simp; omega, hQ⟩
  · exact h.elim
abbrev s_intersection : Stmt := top 25
theorem sc_intersection : FnScope ["width", "rows", "others", "row"] ["width", "rows", "others"] (defScope s_intersection) := ⟨rfl, rfl, rfl, by decide +kernel, rfl, by decide +kernel, by decide +kernel⟩
theorem okD_oP (o : Option Int) : okD (oP o) = true := by cases o <;> simp [oP]
theorem dep_oP (o : Option Int) : dep (oP o) = 0 := by cases o <;> simp [oP]
theorem cln_oP (o : Option Int) : cln (oP o) = true := by cases o <;> simp [oP]
theorem okD_row (r : Row) : okD (rowP r) = true := by
  simp only [rowP, okD_tup, okDs_all, List.mem_map]
  rintro x ⟨o, _, rfl⟩
  exact okD_oP o
theorem cln_row (r : Row) : cln (rowP r) = true := by
  simp only [rowP, cln_tup, clns_all, List.mem_map]
  rintro x ⟨o, _, rfl⟩
  exact cln_oP o
theorem deps_row (r : Row) : deps (r.map oP) = 0 := by
  refine Nat.le_zero.mp (deps_le.mpr fun x hx => ?_)
  obtain ⟨o, _, rfl⟩ := List.mem_map.mp hx
  rw [dep_oP]
  exact Nat.le_refl _
theorem dep_row (r : Row) : dep (rowP r) = 1 := by
  simp only [rowP, dep_tup, deps_row]
theorem okDs_rows (l : List Row) : okDs (l.map rowP) = true := by
  simp only [okDs_all, List.mem_map]
  rintro x ⟨r, _, rfl⟩
  exact okD_row r
theorem clns_rows (l : List Row) : clns (l.map rowP) = true := by
  simp only [clns_all, List.mem_map]
  rintro x ⟨r, _, rfl⟩
  exact cln_row r
theorem map_inj {α β : Type} {f : α → β} (hf : ∀ a b, f a = f b → a = b) : ∀ {l l' : List α}, l.map f = l'.map f → l = l'
  | [], [], _ => rfl
  | [], _ :: _, h => by simp at h
  | _ :: _, [], h => by simp at h
  | x :: xs, y :: ys, h => by
    simp only [List.map_cons, List.cons.injEq] at h
    rw [hf _ _ h.1, map_inj hf h.2]
theorem oP_inj {a b : Option Int} (h : oP a = oP b) : a = b := by
  cases a <;> cases b <;> simp_all [oP]
theorem rowP_inj {a b : Row} (h : rowP a = rowP b) : a = b := by
  simp only [rowP, PV.tup.injEq] at h
  exact map_inj (fun _ _ h => oP_inj h) h
theorem rows_inj {a b : List Row} (h : a.map rowP = b.map rowP) : a = b := map_inj (fun _ _ h => rowP_inj h) h
theorem peq_rows (r q : Row) : peq (rowP r) (rowP q) = decide (r = q) := by
  by_cases h : r = q
  · simp only [h, decide_true]; exact (peq_iff (cln_row q) (cln_row q)).mpr rfl
  · simp only [h, decide_false]; exact (peq_false (cln_row r) (cln_row q)).mpr fun z => h (rowP_inj z)
theorem any_rows (l : List Row) (r : Row) : ((l.map rowP).any fun y => peq y (rowP r)) = decide (r ∈ l) := by
  rw [List.any_map]
  induction l with
  | nil => rfl
  | cons a l ih =>
    rw [List.any_cons, ih]
    simp only [Function.comp, peq_rows]
    by_cases h : a = r
    · simp [h]
    · have h2 : ¬ r = a := fun z => h z.symm
      simp [h, h2]
@[simp] def S_intersection (IW IT : Addr) : SpP := fun ps m Q R => match ps with
  | [.int w, .lst xs, .lst ys] => twoS IW IT w xs ys m R (∃ rows others : List Row, xs = rows.map rowP ∧ ys = others.map rowP ∧ Q (.lst (((uniq rows).filter fun r => decide (r ∈ others)).map rowP)) m)
  | _ => False
theorem ok_intersection {f : Addr} {fd : FuncData} (F : Fun K "intersection" "intersection" s_intersection f fd) (bn : BN mg) (d_need_two : CalM P w K mg base T 5 "need_two" 3 (S_need_two C_InvalidWidth C_InvalidTable)) (d_unlike : CalM P w K mg base T 1 "unlike" 1 S_unlike) :
    FnOk P w K mg base (L2N.CX P w) 6 f fd ["width", "rows", "others"] (spOf w K T 3 (S_intersection C_InvalidWidth C_InvalidTable)) := by
  have sc := sc_intersection
  refine fn_ok F sc fun cdv A outer s H H0 F0 m0 E hr => ⟨_, (jb_cons (js_expr (je_call d_need_two (hr.mono (by decide)) (ja_cons (je_var 0) (ja_cons (je_var 1) (ja_cons (je_var 2) ja_nil)))))
  (jb_one (js_ret (je_lc (own := [("row", 3)]) rfl sc.nd (ji_list (je_call d_unlike (hr.mono (by decide)) (ja_cons (je_var 1) ja_nil))) (blkOk_by (show blkC ["width", "rows", "others", "row"] (defScope s_intersection) _ [("row", 3)] = true by decide +kernel)) (fun _ _ _ _ _ => (jg_name 3 sc.nd)) (fun _ _ _ _ _ => (jts_one (jt_cmp (o_in (rm_of hr)) (je_var 3) (je_var 2)))) (fun _ _ _ _ _ => (je_var 3)))))), ?_⟩
  intro qs m Q R h hl; clear hl
  unfold S_intersection at h
  split at h
  · rename_i w xs ys
    simp
    refine h.imp fun hx hy ⟨rows, others, e1, e2, hQ⟩ => ?_
    subst e1 e2
    rw [List.length_map] at hx hy
    have hu := uniq_len rows
    refine ⟨rows, rfl, by omega, by omega, compW_map (fun x => (others.map rowP).any fun y => peq y x) id _ [] (fun x N acc hm hN => ?_) ?_⟩
    · obtain ⟨r, _, rfl⟩ := List.mem_map.mp hm
      have hd : deps (others.map rowP) ≤ 1 := deps_le.mpr fun x hx => by
        obtain ⟨q, _, rfl⟩ := List.mem_map.mp hx
        rw [dep_row]
        exact Nat.le_refl _
      rw [any_rows] at hN
      simp only [gN, put, wipeP, wTst, wOp, wVar, at', gIn, okD_row, okDs_rows, any_rows, bTst, Bool.false_xor, deps_def, dep_row]
      refine ⟨trivial, trivial, by omega, ?_⟩
      by_cases e : r ∈ others <;> simpa [e] using hN
    · simp only [List.nil_append, List.map_id]
      rw [List.filter_map]
      have e : ((fun x => (others.map rowP).any fun y => peq y x) ∘ rowP) = fun r => decide (r ∈ others) := by
        funext r
        exact any_rows others r
      rw [e]
      exact hQ
  · exact h.elim
abbrev s_difference : Stmt := top 26
theorem sc_difference : FnScope ["width", "rows", "others", "row"] ["width", "rows", "others"] (defScope s_difference) := ⟨rfl, rfl, rfl, by decide +kernel, rfl, by decide +kernel, by decide +kernel⟩
@[simp] def S_difference (IW IT : Addr) : SpP := fun ps m Q R => match ps with
  | [.int w, .lst xs, .lst ys] => twoS IW IT w xs ys m R (∃ rows others : List Row, xs = rows.map rowP ∧ ys = others.map rowP ∧ Q (.lst (((uniq rows).filter fun r => !decide (r ∈ others)).map rowP)) m)
  | _ => False
theorem ok_difference {f : Addr} {fd : FuncData} (F : Fun K "difference" "difference" s_difference f fd) (bn : BN mg) (d_need_two : CalM P w K mg base T 5 "need_two" 3 (S_need_two C_InvalidWidth C_InvalidTable)) (d_unlike : CalM P w K mg base T 1 "unlike" 1 S_unlike) :
    FnOk P w K mg base (L2N.CX P w) 6 f fd ["width", "rows", "others"] (spOf w K T 3 (S_difference C_InvalidWidth C_InvalidTable)) := by
  have sc := sc_difference
  refine fn_ok F sc fun cdv A outer s H H0 F0 m0 E hr => ⟨_, (jb_cons (js_expr (je_call d_need_two (hr.mono (by decide)) (ja_cons (je_var 0) (ja_cons (je_var 1) (ja_cons (je_var 2) ja_nil)))))
  (jb_one (js_ret (je_lc (own := [("row", 3)]) rfl sc.nd (ji_list (je_call d_unlike (hr.mono (by decide)) (ja_cons (je_var 1) ja_nil))) (blkOk_by (show blkC ["width", "rows", "others", "row"] (defScope s_difference) _ [("row", 3)] = true by decide +kernel)) (fun _ _ _ _ _ => (jg_name 3 sc.nd)) (fun _ _ _ _ _ => (jts_one (jt_cmp (o_notin (rm_of hr)) (je_var 3) (je_var 2)))) (fun _ _ _ _ _ => (je_var 3)))))), ?_⟩
  intro qs m Q R h hl; clear hl
  unfold S_difference at h
  split at h
  · rename_i w xs ys
    simp
    refine h.imp fun hx hy ⟨rows, others, e1, e2, hQ⟩ => ?_
    subst e1 e2
    rw [List.length_map] at hx hy
    have hu := uniq_len rows
    refine ⟨rows, rfl, by omega, by omega, compW_map (fun x => !(others.map rowP).any fun y => peq y x) id _ [] (fun x N acc hm hN => ?_) ?_⟩
    · obtain ⟨r, _, rfl⟩ := List.mem_map.mp hm
      have hd : deps (others.map rowP) ≤ 1 := deps_le.mpr fun x hx => by
        obtain ⟨q, _, rfl⟩ := List.mem_map.mp hx
        rw [dep_row]
        exact Nat.le_refl _
      rw [any_rows] at hN
      simp only [gN, put, wipeP, wTst, wOp, wVar, at', gIn, okD_row, okDs_rows, any_rows, bTst, Bool.true_xor, deps_def, dep_row]
      refine ⟨trivial, trivial, by omega, ?_⟩
      by_cases e : r ∈ others <;> simpa [e] using hN
    · simp only [List.nil_append, List.map_id]
      rw [List.filter_map]
      have e : ((fun x => !(others.map rowP).any fun y => peq y x) ∘ rowP) = fun r => !decide (r ∈ others) := by
        funext r
        exact congrArg not (any_rows others r)
      rw [e]
      exact hQ
  · exact h.elim
abbrev s__law_cell : Stmt := top 28
theorem sc__law_cell : FnScope ["_law_script", "_law_k"] ["_law_script", "_law_k"] (defScope s__law_cell) := ⟨rfl, rfl, rfl, by decide +kernel, rfl, by decide +kernel, by decide +kernel⟩
@[simp] def S__law_cell : SpP := fun ps m Q R => match ps with
  | [.scr ns, .int k] => 0 ≤ k ∧ ns.length ≤ 1000 ∧ ∀ z, Q (.int z) m
  | _ => False
theorem atI_some {α : Type} {xs : List α} {i : Int} (h0 : 0 ≤ i) (h1 : i < xs.length) : ∃ x, atI xs i = some x ∧ xs[i.toNat]? = some x := by
  have h2 : i.toNat < xs.length := by omega
  refine ⟨xs[i.toNat], ?_, List.getElem?_eq_getElem h2⟩
  unfold atI ixN
  rw [if_pos h0, if_pos h1]
  exact List.getElem?_eq_getElem h2
theorem log2_small {n : Nat} (h : n < 2 ^ 20) : n.log2 < 9000 := by
  by_cases e : n = 0
  · subst e; decide
  · exact Nat.lt_of_lt_of_le ((Nat.log2_lt e).mpr h) (by decide)
theorem divW {i j : Int} (h0 : 0 < j) (h1 : j < 1048576) : CDivW i j := ⟨h0, log2_small (by omega)⟩
theorem ok__law_cell {f : Addr} {fd : FuncData} (F : Fun K "_law_cell" "_law_cell" s__law_cell f fd) (bn : BN mg)  :
    FnOk P w K mg base (L2N.CX P w) 1 f fd ["_law_script", "_law_k"] (spOf w K T 2 S__law_cell) := by
  have sc := sc__law_cell
  refine fn_ok F sc fun cdv A outer s H H0 F0 m0 E hr => ⟨_, (jb_cons (js_if (jt_cmp (o_eq (rm_of hr)) (je_var 0) (je_lst ja_nil)) (jb_one (js_ret (je_op o_mul (je_var 1) je_int))) jb_nil)
  (jb_one (js_ret (je_op o_add (je_ix (je_var 0) (je_op o_mod (je_var 1) (je_callB c_len (bn _ (by decide)) (ja_cons (je_var 0) ja_nil)))) (je_op o_mul (je_op o_div (je_var 1) (je_callB c_len (bn _ (by decide)) (ja_cons (je_var 0) ja_nil))) je_int))))), ?_⟩
  intro qs m Q R h hl; clear hl
  unfold S__law_cell at h
  split at h
  · rename_i ns k
    obtain ⟨h0, hz, hQ⟩ := h
    cases ns with
    | nil =>
      simp
      exact ⟨Nat.le_trans (Nat.min_le_right _ _) (by decide), CMul.ok (.inr ⟨by decide, by decide⟩), hQ _⟩
    | cons n ns =>
      simp only [List.length_cons] at hz
      have hp : (0 : Int) < (ns.length : Int) + 1 := by omega
      obtain ⟨x, hx, _⟩ := atI_some (xs := n :: ns) (i := k % ((ns.length : Int) + 1)) (Int.emod_nonneg _ (by omega)) (by simpa using Int.emod_lt_of_pos k hp)
      simp [hp, hx]
      exact ⟨Nat.le_trans (Nat.min_le_right _ _) (by decide), divW hp (by omega), CMul.ok (.inr ⟨by decide, by decide⟩), hQ _⟩
  · exact h.elim
abbrev s__law_drawn : Stmt := top 29
theorem sc__law_drawn : FnScope ["_law_cell_here", "_law_k", "_law_more"] ["_law_cell_here", "_law_k"] (defScope s__law_drawn) := ⟨rfl, rfl, rfl, by decide +kernel, rfl, by decide +kernel, by decide +kernel⟩
@[simp] def S__law_drawn : SpP := fun ps m Q R => match ps with
  | [.int c, .int k] => ∀ z, 0 ≤ z → Q (.int z) m
  | _ => False
theorem mulBits {a b : Int} {i j : Nat} (ha : a.natAbs < 2 ^ i) (hb : b.natAbs < 2 ^ j) (h : i + j ≤ 1000) : IntMulOk a b :=
  IntMulOk.of_le (intBits_le_iff.mpr ha) (intBits_le_iff.mpr hb) (by omega)
theorem ok__law_drawn {f : Addr} {fd : FuncData} (F : Fun K "_law_drawn" "_law_drawn" s__law_drawn f fd) (bn : BN mg)  :
    FnOk P w K mg base (L2N.CX P w) 1 f fd ["_law_cell_here", "_law_k"] (spOf w K T 2 S__law_drawn) := by
  have sc := sc__law_drawn
  refine fn_ok F sc fun cdv A outer s H H0 F0 m0 E hr => ⟨_, (jb_cons (js_set 2 sc.nd (je_op o_mod (je_op o_add (je_op o_mul (je_var 0) je_int) (je_op o_mul (je_op o_add (je_var 1) je_int) je_int)) je_int))
  (jb_cons (js_set 2 sc.nd (je_op o_mod (je_op o_mul (je_var 2) (je_var 2)) je_int))
  (jb_cons (js_set 2 sc.nd (je_op o_mul (je_op o_mul (je_op o_add (je_op o_mod (je_var 2) je_int) je_int) (je_op o_add (je_op o_div (je_var 2) je_int) je_int)) (je_var 2)))
  (jb_one (js_ret (je_op o_mod (je_var 2) je_int)))))), ?_⟩
  intro qs m Q R h hl; clear hl
  unfold S__law_drawn at h
  split at h
  · rename_i c k
    simp
    refine ⟨CMul.ok (.inr ⟨by decide, by decide⟩), CMul.ok (.inr ⟨by decide, by decide⟩), ?_⟩
    have a0 := Int.emod_nonneg (c * 6364136223846793005 + (k + 1) * 1442695040888963407) (show (340282366920938463463374607431768211507 : Int) ≠ 0 by decide)
    have a1 := Int.emod_lt_of_pos (c * 6364136223846793005 + (k + 1) * 1442695040888963407) (show (0 : Int) < 340282366920938463463374607431768211507 by decide)
    generalize (c * 6364136223846793005 + (k + 1) * 1442695040888963407) % 340282366920938463463374607431768211507 = a at *
    refine ⟨mulBits (i := 130) (j := 130) (by omega) (by omega) (by decide), ?_⟩
    have b0 := Int.emod_nonneg (a * a) (show (340282366920938463463374607431768211297 : Int) ≠ 0 by decide)
    have b1 := Int.emod_lt_of_pos (a * a) (show (0 : Int) < 340282366920938463463374607431768211297 by decide)
    generalize a * a % 340282366920938463463374607431768211297 = b at *
    refine ⟨⟨by decide, by decide +kernel⟩, ?_⟩
    have c0 := Int.emod_nonneg b (show (18446744073709551557 : Int) ≠ 0 by decide)
    have c1 := Int.emod_lt_of_pos b (show (0 : Int) < 18446744073709551557 by decide)
    have d0 : 0 ≤ b / 18446744073709551557 := by omega
    have d1 : b / 18446744073709551557 < 340282366920938463463374607431768211297 := by omega
    generalize b % 18446744073709551557 = x at *
    generalize b / 18446744073709551557 = y at *
    have e : ((x + 1) * (y + 1)).natAbs < 2 ^ 262 := by
      rw [Int.natAbs_mul]
      calc (x + 1).natAbs * (y + 1).natAbs < 2 ^ 131 * 2 ^ 131 := Nat.mul_lt_mul'' (by omega) (by omega)
        _ = 2 ^ 262 := by decide
    refine ⟨mulBits (i := 130) (j := 130) (by omega) (by omega) (by decide), mulBits (i := 262) (j := 130) e (by omega) (by decide), h _ (Int.emod_nonneg _ (by decide))⟩
  · exact h.elim
abbrev s__law_roll : Stmt := top 30
theorem sc__law_roll : FnScope ["_law_dice", "_law_many", "_law_told_here"] ["_law_dice", "_law_many"] (defScope s__law_roll) := ⟨rfl, rfl, rfl, by decide +kernel, rfl, by decide +kernel, by decide +kernel⟩
@[simp] def S__law_roll : SpP := fun ps m Q R => match ps with
  | [.raw (.ref a), .int many] => m a = some .dice ∧ 0 < many ∧ many ≤ 1000000 ∧ ∀ r, 0 ≤ r → r < many → Q (.int r) m
  | _ => False
theorem ok__law_roll {f : Addr} {fd : FuncData} (F : Fun K "_law_roll" "_law_roll" s__law_roll f fd) (bn : BN mg) (d__law_drawn : CalM P w K mg base T 1 "_law_drawn" 2 S__law_drawn) :
    FnOk P w K mg base (L2N.CX P w) 2 f fd ["_law_dice", "_law_many"] (spOf w K T 2 S__law_roll) := by
  have sc := sc__law_roll
  refine fn_ok F sc fun cdv A outer s H H0 F0 m0 E hr => ⟨_, (jb_cons (js_if (jt_cmp o_ge (je_dice0 0) (je_op o_pow je_int je_int)) (jb_cons (js_set 2 sc.nd (je_op o_mod (je_dice0 0) (je_var 1)))
  (jb_cons (js_dice0 0 (je_op o_div (je_dice0 0) (je_var 1)))
  (jb_one (js_ret (je_var 2))))) jb_nil)
  (jb_cons (js_dice1 0 (je_op o_add (je_dice1 0) je_int))
  (jb_one (js_ret (je_op o_mod (je_op o_div (je_call d__law_drawn (hr.mono (by decide)) (ja_cons (je_dice0 0) (ja_cons (je_dice1 0) ja_nil))) je_int) (je_var 1)))))), ?_⟩
  intro qs m Q R h hl; clear hl
  unfold S__law_roll at h
  split at h
  · rename_i a many
    obtain ⟨hm, h0, h1, hQ⟩ := h
    have hd : CPow 10 18 := ⟨by decide, by decide, by decide⟩
    have r0 : ∀ z : Int, 0 ≤ z % many := fun z => Int.emod_nonneg z (by omega)
    have r1 : ∀ z : Int, z % many < many := fun z => Int.emod_lt_of_pos z h0
    simp [hm, hd, h0]
    intro z
    by_cases e : (1000000000000000000 : Int) ≤ z
    · simp [e]
      intros
      exact ⟨divW h0 (by omega), hQ _ (r0 _) (r1 _)⟩
    · simp [e]
      intros
      exact ⟨divW (by decide) (by decide), hQ _ (r0 _) (r1 _)⟩
  · exact h.elim
abbrev s__law_rounds : Stmt := top 31
theorem sc__law_rounds : FnScope ["_law_script", "_law_most", "_law_k"] ["_law_script", "_law_most"] (defScope s__law_rounds) := ⟨rfl, rfl, rfl, by decide +kernel, rfl, by decide +kernel, by decide +kernel⟩
@[simp] def S__law_rounds : SpP := fun ps m Q R => match ps with
  | [.scr ns, .int most] => ns.length ≤ 63 ∧ 1 ≤ most ∧ most ≤ 63 ∧ ∀ (as : List Addr) (m' : Mem), as.length ≤ 63 → (∀ a ∈ as, m' a = some .dice) → Q (.lst (as.map fun a => .raw (.ref a))) m'
  | _ => False
theorem ok__law_rounds {f : Addr} {fd : FuncData} (F : Fun K "_law_rounds" "_law_rounds" s__law_rounds f fd) (bn : BN mg) (d__law_cell : CalM P w K mg base T 1 "_law_cell" 2 S__law_cell) :
    FnOk P w K mg base (L2N.CX P w) 2 f fd ["_law_script", "_law_most"] (spOf w K T 2 S__law_rounds) := by
  have sc := sc__law_rounds
  refine fn_ok F sc fun cdv A outer s H H0 F0 m0 E hr => ⟨_, (jb_one (js_ret (je_lc (own := [("_law_k", 2)]) rfl sc.nd (ji_rng1 (bn _ (by decide)) (ja_cons (je_callB (c_max rfl) (bn _ (by decide)) (ja_cons je_int (ja_cons (je_callB (c_min rfl) (bn _ (by decide)) (ja_cons (je_var 1) (ja_cons (je_callB c_len (bn _ (by decide)) (ja_cons (je_var 0) ja_nil)) ja_nil))) ja_nil))) ja_nil)) (blkOk_by (show blkC ["_law_script", "_law_most", "_law_k"] (defScope s__law_rounds) _ [("_law_k", 2)] = true by decide +kernel)) (fun _ _ _ _ _ => (jg_name 2 sc.nd)) (fun _ _ _ _ _ => jts_nil) (fun _ _ _ _ _ => (je_mkdice (ja_cons (je_call d__law_cell (hr.mono (by decide)) (ja_cons (je_var 0) (ja_cons (je_var 2) ja_nil))) (ja_cons je_int ja_nil))))))), ?_⟩
  intro qs m Q R h hl; clear hl
  unfold S__law_rounds at h
  split at h
  · rename_i ns most
    obtain ⟨h0, h1, h2, hQ⟩ := h
    simp
    refine ⟨by omega, compW_inv (fun j acc m' => ∃ as : List Addr, as.length = j ∧ acc = as.map (fun a => PV.raw (.ref a)) ∧ ∀ a ∈ as, m' a = some .dice) _ 0 [] m ?_ ?_ ⟨[], rfl, rfl, fun a h => nomatch h⟩⟩
    · rintro j x acc m' N hx ⟨as, hl, rfl, ha⟩ hN
      obtain ⟨k, hk, rfl⟩ := List.mem_map.mp (List.mem_of_getElem? hx)
      simp
      refine ⟨by omega, fun a hf => ?_⟩
      refine hN _ _ ⟨as ++ [a], by simp; omega, by simp, fun b hb => ?_⟩
      rcases List.mem_append.mp hb with hb | hb
      · have ne : b ≠ a := fun z => by have := ha b hb; rw [z, hf] at this; cases this
        rw [mset_ne ne]
        exact ha b hb
      · rw [List.mem_singleton.mp hb, mset_same]
    · rintro acc m' ⟨as, hl, rfl, ha⟩
      refine hQ as m' ?_ ha
      simp [rngP] at hl
      omega
  · exact h.elim
abbrev s__law_any_table : Stmt := top 34
theorem sc__law_any_table : FnScope ["_law_dice", "_law_width", "_law_rows", "_law_turn", "_law_column"] ["_law_dice", "_law_width"] (defScope s__law_any_table) := ⟨rfl, rfl, rfl, by decide +kernel, rfl, by decide +kernel, by decide +kernel⟩
/-- rows of a width, of small values -/
def smallT (w : Int) (rows : List Row) : Prop := ∀ r ∈ rows, (r.length : Int) = w ∧ ∀ o ∈ r, ∀ i, o = some i → -10 ≤ i ∧ i ≤ 10
@[simp] def S__law_any_table : SpP := fun ps m Q R => match ps with
  | [.raw (.ref a), .int w] => m a = some .dice ∧ 0 ≤ w ∧ w ≤ 3 ∧ ∀ rows : List Row, rows.length ≤ 8 → smallT w rows → Q (.lst (rows.map rowP)) m
  | _ => False
theorem ok__law_any_table {f : Addr} {fd : FuncData} (F : Fun K "_law_any_table" "_law_any_table" s__law_any_table f fd) (bn : BN mg) (d__law_roll : CalM P w K mg base T 2 "_law_roll" 2 S__law_roll) :
    FnOk P w K mg base (L2N.CX P w) 3 f fd ["_law_dice", "_law_width"] (spOf w K T 2 S__law_any_table) := by
  have sc := sc__law_any_table
  refine fn_ok F sc fun cdv A outer s H H0 F0 m0 E hr => ⟨_, (jb_cons (js_ownL 2 sc.nd (jn_lst ja_nil))
  (jb_cons (js_for passes_own rfl (ji_rng1 (bn _ (by decide)) (ja_cons (je_call d__law_roll (hr.mono (by decide)) (ja_cons (je_var 0) (ja_cons je_int ja_nil))) ja_nil)) (jg_name 3 sc.nd) (jb_one (js_app 2 (je_callTy c_tuple (bn _ (by decide)) (ja_cons (je_lc (own := [("_law_column", 4)]) rfl sc.nd (ji_rng1 (bn _ (by decide)) (ja_cons (je_var 1) ja_nil)) (blkOk_by (show blkC ["_law_dice", "_law_width", "_law_rows", "_law_turn", "_law_column"] (defScope s__law_any_table) _ [("_law_column", 4)] = true by decide +kernel)) (fun _ _ _ _ _ => (jg_name 4 sc.nd)) (fun _ _ _ _ _ => jts_nil) (fun _ _ _ _ _ => (je_ix (je_lst (ja_cons je_non (ja_cons je_int (ja_cons je_int (ja_cons (je_neg je_int) ja_nil))))) (je_call d__law_roll (hr.mono (by decide)) (ja_cons (je_var 0) (ja_cons je_int ja_nil)))))) ja_nil)))))
  (jb_frz 2 (jb_one (js_ret (je_var 2)))))), ?_⟩
  intro qs m Q R h hl; clear hl
  unfold S__law_any_table at h
  split at h
  · rename_i a w
    obtain ⟨hm, h0, h1, hQ⟩ := h
    simp [hm]
    intro n n0 n1
    refine ⟨by omega, forW_inv (fun j ρ m' => m' = m ∧ j ≤ 8 ∧ ∃ v1 v2, ∃ rows : List Row, rows.length = j ∧ smallT w rows ∧ ρ = [some (.val (.raw (.ref a))), some (.val (.int w)), some (.own (.lst (rows.map rowP))), v1, v2]) _ 0 _ _ ?_ ?_ ⟨rfl, by omega, _, _, [], rfl, (fun r h => nomatch h), rfl⟩⟩
    · rintro j x ρ m' N hx ⟨rfl, hj, v1, v2, rows, hl, hr', rfl⟩ hN
      have hjn := (List.getElem?_eq_some_iff.mp hx).1
      simp [rngP] at hjn
      simp
      refine ⟨by omega, compW_inv (fun j acc m2 => m2 = m' ∧ ∃ r : Row, r.length = j ∧ acc = r.map oP ∧ ∀ o ∈ r, ∀ i, o = some i → -10 ≤ i ∧ i ≤ 10) _ 0 [] m' ?_ ?_ ⟨rfl, [], rfl, rfl, (fun o h => nomatch h)⟩⟩
      · rintro j2 y acc m2 N2 hy ⟨rfl, r, hrl, rfl, hro⟩ hN2
        simp [hm]
        intro z z0 z1
        have hz : z = 0 ∨ z = 1 ∨ z = 2 ∨ z = 3 := by omega
        have step : ∀ o : Option Int, (∀ i, o = some i → -10 ≤ i ∧ i ≤ 10) → N2 (r.map oP ++ [oP o]) m2 := fun o ho => hN2 _ _ ⟨rfl, r ++ [o], by simp; omega, by simp, fun o' h' i e => by
          rcases List.mem_append.mp h' with h' | h'
          · exact hro o' h' i e
          · rw [List.mem_singleton.mp h'] at e
            exact ho i e⟩
        rcases hz with rfl | rfl | rfl | rfl
        · exact ⟨_, rfl, step none fun i e => nomatch e⟩
        · exact ⟨_, rfl, step (some 0) fun i e => by cases e; omega⟩
        · exact ⟨_, rfl, step (some 1) fun i e => by cases e; omega⟩
        · exact ⟨_, rfl, step (some (-1)) fun i e => by cases e; omega⟩
      · rintro acc m2 ⟨rfl, r, hrl, rfl, hro⟩
        simp [rngP] at hrl
        refine ⟨by omega, hN _ _ ⟨rfl, by omega, _, _, rows ++ [r], by simp; omega, fun r' h' => ?_, by simp [rowP]; exact ⟨rfl, rfl⟩⟩⟩
        rcases List.mem_append.mp h' with h' | h'
        · exact hr' r' h'
        · rw [List.mem_singleton.mp h']
          exact ⟨by omega, hro⟩
    · rintro ρ m' ⟨rfl, hj, v1, v2, rows, hl, hr', rfl⟩
      simp
      exact hQ rows (by omega) hr'
  · exact h.elim
abbrev s__law_unlike : Stmt := top 35
theorem sc__law_unlike : FnScope ["_law_rows", "_law_at", "_law_row"] ["_law_rows"] (defScope s__law_unlike) := ⟨rfl, rfl, rfl, by decide +kernel, rfl, by decide +kernel, by decide +kernel⟩
def unlikeL (rows : List Row) : List Row := ((List.range rows.length).filter fun i => !decide (rows.getD i [] ∈ rows.take i)).map fun i => rows.getD i []
@[simp] def S__law_unlike : SpP := fun ps m Q R => match ps with
  | [.lst xs] => ∃ rows : List Row, xs = rows.map rowP ∧ rows.length ≤ 1000 ∧ Q (.lst ((unlikeL rows).map rowP)) m
  | _ => False
theorem cut_to {α : Type} (xs : List α) {i : Nat} : cutP xs none (some (i : Int)) = xs.take i := by
  unfold cutP
  rw [HT.sIx_none, HT.sIx_nat, List.drop_zero, Nat.sub_zero]
  by_cases h : i ≤ xs.length
  · rw [Nat.min_eq_left h]
  · rw [Nat.min_eq_right (by omega), List.take_length, List.take_of_length_le (by omega)]
/-! the law's way and the program's way are one -/
theorem uniq_snoc (l : List Row) (r : Row) : uniq (l ++ [r]) = if r ∈ uniq l then uniq l else uniq l ++ [r] := by
  unfold uniq
  rw [List.foldl_append]
  rfl
theorem snoc_ind {α : Type} {p : List α → Prop} (h0 : p []) (h1 : ∀ l x, p l → p (l ++ [x])) (l : List α) : p l := by
  have : ∀ l : List α, p l.reverse := by
    intro l
    induction l with
    | nil => exact h0
    | cons x l ih => rw [List.reverse_cons]; exact h1 _ _ ih
  simpa using this l.reverse
theorem mem_uniq (l : List Row) (r : Row) : r ∈ uniq l ↔ r ∈ l := by
  induction l using snoc_ind with
  | h0 => simp [uniq]
  | h1 l x ih =>
    rw [uniq_snoc]
    split
    · rename_i h
      rw [ih, List.mem_append, List.mem_singleton]
      refine ⟨.inl, fun h' => h'.elim id fun e => ?_⟩
      subst e
      exact ih.mp h
    · simp [ih]
theorem unlike_uniq (l : List Row) : unlikeL l = uniq l := by
  induction l using snoc_ind with
  | h0 => rfl
  | h1 l x ih =>
    rw [uniq_snoc, ← ih]
    have e : unlikeL (l ++ [x]) = unlikeL l ++ (if x ∈ l then [] else [x]) := by
      unfold unlikeL
      rw [List.length_append, List.length_singleton, List.range_succ, List.filter_append, List.map_append]
      have a1 : (List.range l.length).filter (fun i => !decide ((l ++ [x]).getD i [] ∈ (l ++ [x]).take i)) = (List.range l.length).filter (fun i => !decide (l.getD i [] ∈ l.take i)) := by
        apply List.filter_congr
        intro i hi
        have hi' := List.mem_range.mp hi
        have e3 : (l ++ [x]).getD i [] = l.getD i [] := by simp only [List.getD, List.getElem?_append_left hi']
        rw [List.take_append_of_le_length (by omega), e3]
      have a2 : ∀ is : List Nat, (∀ i ∈ is, i < l.length) → is.map (fun i => (l ++ [x]).getD i []) = is.map fun i => l.getD i [] := fun is h => by
        apply List.map_congr_left
        intro i hi
        simp [List.getD, List.getElem?_append_left (h i hi)]
      rw [a1, a2 _ fun i hi => List.mem_range.mp (List.mem_filter.mp hi).1]
      congr 1
      by_cases h : x ∈ l <;> simp [List.getD, h]
    rw [e]
    have m : x ∈ unlikeL l ↔ x ∈ l := by rw [ih]; exact mem_uniq l x
    by_cases h : x ∈ l
    · simp [h, m.mpr h]
    · simp [h, m]
theorem ok__law_unlike {f : Addr} {fd : FuncData} (F : Fun K "_law_unlike" "_law_unlike" s__law_unlike f fd) (bn : BN mg)  :
    FnOk P w K mg base (L2N.CX P w) 1 f fd ["_law_rows"] (spOf w K T 1 S__law_unlike) := by
  have sc := sc__law_unlike
  refine fn_ok F sc fun cdv A outer s H H0 F0 m0 E hr => ⟨_, (jb_one (js_ret (je_lc (own := [("_law_at", 1), ("_law_row", 2)]) rfl sc.nd (ji_enum (bn _ (by decide)) (ja_cons (je_var 0) ja_nil)) (blkOk_by (show blkC ["_law_rows", "_law_at", "_law_row"] (defScope s__law_unlike) _ [("_law_at", 1), ("_law_row", 2)] = true by decide +kernel)) (fun _ _ _ _ _ => (jg_tup (n := 2) rfl (jgs_cons (jg_name 1 sc.nd) (jgs_cons (jg_name 2 sc.nd) jgs_nil)))) (fun _ _ _ _ _ => (jts_one (jt_cmp (o_notin (rm_of hr)) (je_var 2) (je_sl (je_var 0) jo_none (jo_some (je_var 1)))))) (fun _ _ _ _ _ => (je_var 2))))), ?_⟩
  intro qs m Q R h hl; clear hl
  unfold S__law_unlike at h
  split at h
  · obtain ⟨rows, rfl, hz, hQ⟩ := h
    simp
    have key : ∀ i, i < rows.length → (rows.map rowP).getD i .non = rowP (rows.getD i []) := fun i hi => by
      simp [List.getD, List.getElem?_eq_getElem hi]
    refine ⟨by omega, compW_map (fun x => match x with | .tup [.int i, q] => !((rows.take i.toNat).map rowP).any (fun y => peq y q) | _ => false) (fun x => match x with | .tup [_, q] => q | _ => .non) _ [] (fun x N acc hm hN => ?_) ?_⟩
    · obtain ⟨i, hi, rfl⟩ := List.mem_map.mp hm
      have hi' : i < rows.length := by simpa using hi
      rw [key i hi'] at hN ⊢
      simp only [Int.toNat_natCast, any_rows] at hN
      have hd : deps ((rows.take i).map rowP) ≤ 1 := deps_le.mpr fun x hx => by
        obtain ⟨q, _, rfl⟩ := List.mem_map.mp hx
        rw [dep_row]
        exact Nat.le_refl _
      simp only [gT, gsCons, gsNil, gN, put, wTst, wOp, wVar, at', wSl, wNoPart, wPart, gSl, cut_to, ← List.map_take, gIn, okD_row, okDs_rows, any_rows, bTst, deps_def, dep_row, Bool.true_xor]
      refine ⟨rfl, trivial, trivial, by omega, ?_⟩
      cases e : decide (rows.getD i [] ∈ List.take i rows) <;> simpa only [e, Bool.not_true, Bool.not_false, if_true, Bool.false_eq_true, if_false] using hN
    · have e1 : enumP (rows.map rowP) = (List.range rows.length).map fun (i : Nat) => PV.tup [.int (i : Int), rowP (rows.getD i [])] := by
        unfold enumP
        rw [List.length_map]
        apply List.map_congr_left
        intro i hi
        rw [key i (List.mem_range.mp hi)]
      rw [e1, List.nil_append, List.filter_map, List.map_map]
      have e2 : ((fun x => match x with | PV.tup [.int i, q] => !((rows.take i.toNat).map rowP).any (fun y => peq y q) | _ => false) ∘ fun i : Nat => PV.tup [.int (i : Int), rowP (rows.getD i [])]) = fun i => !decide (rows.getD i [] ∈ rows.take i) := by
        funext i
        simp only [Function.comp, Int.toNat_natCast, any_rows]
      rw [e2]
      unfold unlikeL at hQ
      rw [List.map_map] at hQ
      exact hQ
  · exact h.elim
abbrev s__law_term : Stmt := top 32
theorem sc__law_term : FnScope ["_law_e", "_law_flags", "_law_kinds", "_law_flag"] ["_law_e"] (defScope s__law_term) := ⟨rfl, rfl, rfl, by decide +kernel, rfl, by decide +kernel, by decide +kernel⟩
/-- the classes of the errors, as term asks for them -/
abbrev errNames : List Str := ["InvalidWidth", "InvalidPredicate", "InvalidRow", "InvalidTable", "InvalidColumn", "InvalidPath", "InvalidRule", "NotPlain", "Rejected", "NothingToUndo", "InvalidText"]
/-- C is the j-th of them -/
structure TermC (K : PySem.W.Frag) (cs : List Addr) (C : Addr) (j : Nat) : Prop where
  lt : j < 11
  ec : ExcC K C
  kt : ∀ (i : Nat) (D : Addr), cs[i]? = some D → PySem.W.kitOne K (.ref C) (.ref D) = some (i == j)
  ve : PySem.W.kitOne K (.ref C) (.type "ValueError") = some true
def NMof (K : PySem.W.Frag) (cs : List Addr) (FE : Addr) : Addr → Str → Prop := fun C nm => ∃ j, TermC K cs C j ∧ nm = errNames.getD j "" ∧ PySem.W.exmOne K (.ref C) (.ref FE) = some true
theorem rm_ofH {A : Around} {k : Nat} (hr : L2H.RoomH k A) : A.units + 180 < cLine := by have := hr.un; omega
theorem ok__law_term {f FE : Addr} {fd : FuncData} (F : Fun K "_law_term" "_law_term" s__law_term f fd) (bn : BN mg) (g_InvalidWidth : mg "InvalidWidth" = some (.ref C_InvalidWidth)) (g_InvalidPredicate : mg "InvalidPredicate" = some (.ref C_InvalidPredicate)) (g_InvalidRow : mg "InvalidRow" = some (.ref C_InvalidRow)) (g_InvalidTable : mg "InvalidTable" = some (.ref C_InvalidTable))
    (g_InvalidColumn : mg "InvalidColumn" = some (.ref C_InvalidColumn)) (g_InvalidPath : mg "InvalidPath" = some (.ref C_InvalidPath)) (g_InvalidRule : mg "InvalidRule" = some (.ref C_InvalidRule)) (g_NotPlain : mg "NotPlain" = some (.ref C_NotPlain)) (g_Rejected : mg "Rejected" = some (.ref C_Rejected)) (g_NothingToUndo : mg "NothingToUndo" = some (.ref C_NothingToUndo)) (g_InvalidText : mg "InvalidText" = some (.ref C_InvalidText)) :
    TermOk P w K mg base T (NMof K [C_InvalidWidth, C_InvalidPredicate, C_InvalidRow, C_InvalidTable, C_InvalidColumn, C_InvalidPath, C_InvalidRule, C_NotPlain, C_Rejected, C_NothingToUndo, C_InvalidText] FE) 1 f fd := by
  have sc := sc__law_term
  refine term_ok F sc fun cdv A outer s H F0 m0 a C oe nm hp ⟨j, tc, hnm, _⟩ hr => ?_
  have ec := tc.ec
  have k_InvalidWidth := tc.kt 0 _ rfl
  have k_InvalidPredicate := tc.kt 1 _ rfl
  have k_InvalidRow := tc.kt 2 _ rfl
  have k_InvalidTable := tc.kt 3 _ rfl
  have k_InvalidColumn := tc.kt 4 _ rfl
  have k_InvalidPath := tc.kt 5 _ rfl
  have k_InvalidRule := tc.kt 6 _ rfl
  have k_NotPlain := tc.kt 7 _ rfl
  have k_Rejected := tc.kt 8 _ rfl
  have k_NothingToUndo := tc.kt 9 _ rfl
  have k_InvalidText := tc.kt 10 _ rfl
  have k_ValueError := tc.ve
  refine ⟨_, (jb_cons (js_set 1 sc.nd (je_lst (ja_cons (je_isE 0 hp ec (k_InvalidWidth) (bn _ (by decide)) (fun I q => ld_glob I rfl g_InvalidWidth q (by decide))) (ja_cons (je_isE 0 hp ec (k_InvalidPredicate) (bn _ (by decide)) (fun I q => ld_glob I rfl g_InvalidPredicate q (by decide))) (ja_cons (je_isE 0 hp ec (k_InvalidRow) (bn _ (by decide)) (fun I q => ld_glob I rfl g_InvalidRow q (by decide))) ja_nil)))))
  (jb_cons (js_set 1 sc.nd (je_op o_add (je_var 1) (je_lst (ja_cons (je_isE 0 hp ec (k_InvalidTable) (bn _ (by decide)) (fun I q => ld_glob I rfl g_InvalidTable q (by decide))) (ja_cons (je_isE 0 hp ec (k_InvalidColumn) (bn _ (by decide)) (fun I q => ld_glob I rfl g_InvalidColumn q (by decide))) (ja_cons (je_isE 0 hp ec (k_InvalidPath) (bn _ (by decide)) (fun I q => ld_glob I rfl g_InvalidPath q (by decide))) ja_nil))))))
  (jb_cons (js_set 1 sc.nd (je_op o_add (je_var 1) (je_lst (ja_cons (je_isE 0 hp ec (k_InvalidRule) (bn _ (by decide)) (fun I q => ld_glob I rfl g_InvalidRule q (by decide))) (ja_cons (je_isE 0 hp ec (k_NotPlain) (bn _ (by decide)) (fun I q => ld_glob I rfl g_NotPlain q (by decide))) (ja_cons (je_isE 0 hp ec (k_Rejected) (bn _ (by decide)) (fun I q => ld_glob I rfl g_Rejected q (by decide))) ja_nil))))))
  (jb_cons (js_set 1 sc.nd (je_op o_add (je_var 1) (je_lst (ja_cons (je_isE 0 hp ec (k_NothingToUndo) (bn _ (by decide)) (fun I q => ld_glob I rfl g_NothingToUndo q (by decide))) (ja_cons (je_isE 0 hp ec (k_InvalidText) (bn _ (by decide)) (fun I q => ld_glob I rfl g_InvalidText q (by decide))) ja_nil)))))
  (jb_cons (js_set 2 sc.nd (je_lst (ja_cons je_str (ja_cons je_str (ja_cons je_str (ja_cons je_str (ja_cons je_str (ja_cons je_str ja_nil))))))))
  (jb_cons (js_set 2 sc.nd (je_op o_add (je_var 2) (je_lst (ja_cons je_str (ja_cons je_str (ja_cons je_str (ja_cons je_str (ja_cons je_str ja_nil))))))))
  (jb_cons (js_if (JW.jt (jw_or (jt_cmp (o_ne (rm_ofH hr)) (je_sumB 1 hp (bn _ (by decide)) (bn _ (by decide)) (by decide +kernel) (by decide +kernel) rfl (by decide +kernel) rfl rfl (by decide)) je_int) (jw_or1 (jt_not (jt_val (je_isE 0 hp ec (k_ValueError) (bn _ (by decide)) (fun I q => ld_blt I rfl (bn _ (by decide)) (by decide +kernel) q (by decide) (by decide)))))))) (jb_one (js_ret (je_tup (ja_cons je_str (ja_cons je_str ja_nil))))) jb_nil)
  (jb_one (js_ret (je_tup (ja_cons je_str (ja_cons (je_ix (je_var 2) (je_index (je_var 1) je_bl)) ja_nil)))))))))))), ?_⟩
  intro m D hD
  subst hnm
  have hj := tc.lt
  have cases11 : j = 0 ∨ j = 1 ∨ j = 2 ∨ j = 3 ∨ j = 4 ∨ j = 5 ∨ j = 6 ∨ j = 7 ∨ j = 8 ∨ j = 9 ∨ j = 10 := by omega
  clear k_InvalidWidth k_InvalidPredicate k_InvalidRow k_InvalidTable k_InvalidColumn k_InvalidPath k_InvalidRule k_NotPlain k_Rejected k_NothingToUndo k_InvalidText k_ValueError ec tc hj
  refine ⟨rfl, rfl, rfl, Nat.le_of_ble_eq_true rfl, rfl, rfl, rfl, Nat.le_of_ble_eq_true rfl, Nat.le_of_ble_eq_true rfl, rfl, rfl, rfl, Nat.le_of_ble_eq_true rfl, Nat.le_of_ble_eq_true rfl, rfl, rfl, Nat.le_of_ble_eq_true rfl, Nat.le_of_ble_eq_true rfl, by decide, by decide, by decide, ?_⟩
  rcases cases11 with rfl | rfl | rfl | rfl | rfl | rfl | rfl | rfl | rfl | rfl | rfl
  all_goals exact ⟨_, rfl, rfl, rfl, by decide, rfl, _, rfl, rfl, rfl, _, rfl, by decide, hD⟩
abbrev s__law_told : Stmt := top 33
theorem sc__law_told : FnScope ["_law_deed", "_law_e"] ["_law_deed"] (defScope s__law_told) := ⟨rfl, rfl, rfl, by decide +kernel, rfl, by decide +kernel, by decide +kernel⟩
theorem told_mk {NM : Addr → Str → Prop} {k : Nat} {g f FE : Addr} {fd fd' : FuncData} (F : Fun K "_law_told" "_law_told" s__law_told g fd) (hm : mg "_law_told" = some (.ref g)) (hb : Binds K fd ["_law_deed"] []) (tm : TermOk P w K mg base T NM k f fd') (hf : mg "_law_term" = some (.ref f)) (hk : PySem.W.keepIn K (.ref f) = true) (hb' : Binds K fd' psE [])
    (hfe : mg "FilterError" = some (.ref FE)) (hex : ∀ C nm, NM C nm → PySem.W.exmOne K (.ref C) (.ref FE) = some true) : ToldOk P w K mg base T NM k s__law_told :=
  ⟨⟨g, fd, F, hm, hb⟩, sc__law_told, ⟨f, fd', tm, hf, hk, hb'⟩, ⟨FE, hfe, hex⟩, .inl rfl, .inl rfl, rfl, rfl, rfl, ⟨_, _, _, _, _, _, _, _, _, _, rfl⟩⟩
abbrev s_law : Stmt := top 36
theorem sc_law : FnScope ["_law_script", "_law_dice", "_law_width", "_law_rows", "_law_others", "_law_one", "_law_other", "_law_both", "_law_common", "_law_rest", "_law_row", "_law_bad"] ["_law_script"] (defScope s_law) := ⟨rfl, rfl, rfl, by decide +kernel, rfl, by decide +kernel, by decide +kernel⟩
/-! the law, plainly -/
theorem uniq_app (l k : List Row) : uniq (l ++ k) = uniq l ++ (uniq k).filter fun r => !decide (r ∈ l) := by
  induction k using snoc_ind with
  | h0 => simp [uniq]
  | h1 k x ih =>
    rw [← List.append_assoc, uniq_snoc, uniq_snoc, ih]
    have hm : x ∈ uniq l ++ (uniq k).filter (fun r => !decide (r ∈ l)) ↔ x ∈ l ∨ x ∈ k := by
      rw [← ih, mem_uniq, List.mem_append]
    by_cases hk : x ∈ k
    · rw [if_pos (hm.mpr (.inr hk)), if_pos ((mem_uniq k x).mpr hk)]
    · have hk' : ¬ x ∈ uniq k := fun z => hk ((mem_uniq k x).mp z)
      rw [if_neg hk', List.filter_append]
      by_cases hl : x ∈ l
      · rw [if_pos (hm.mpr (.inl hl))]
        simp [hl]
      · rw [if_neg fun z => (hm.mp z).elim hl hk]
        simp [hl]
theorem filt_in (l : List Row) : (uniq l).filter (fun r => decide (r ∈ l)) = uniq l := List.filter_eq_self.mpr fun r h => by simpa using (mem_uniq l r).mp h
theorem filt_out (l : List Row) : (uniq l).filter (fun r => !decide (r ∈ l)) = [] := List.filter_eq_nil_iff.mpr fun r h => by simpa using (mem_uniq l r).mp h
theorem filt_len (l : List Row) (p : Row → Bool) : (l.filter p).length + (l.filter fun r => !p r).length = l.length := by
  induction l with
  | nil => rfl
  | cons a l ih => cases h : p a <;> simp [h] <;> omega
theorem len_law (l k : List Row) : (uniq (l ++ k)).length = ((uniq l).filter fun r => decide (r ∈ k)).length + ((uniq l).filter fun r => !decide (r ∈ k)).length + ((uniq k).filter fun r => !decide (r ∈ l)).length := by
  rw [uniq_app, List.length_append, ← filt_len (uniq l) fun r => decide (r ∈ k)]
theorem good_small {w : Int} {rows : List Row} (h : smallT w rows) (hw : w ≤ 3) : goodT w (rows.map rowP) := fun x hx => by
  obtain ⟨r, hr, rfl⟩ := List.mem_map.mp hx
  obtain ⟨h1, h2⟩ := h r hr
  refine ⟨⟨trivial, fun xs e => ?_⟩, ?_⟩
  · simp only [rowP, PV.tup.injEq] at e
    subst e
    refine ⟨by rw [List.length_map]; omega, fun x hx => ?_⟩
    obtain ⟨o, _, rfl⟩ := List.mem_map.mp hx
    cases o <;> trivial
  · simp only [rowOk, rowP, List.length_map, Bool.and_eq_true, decide_eq_true_eq, List.all_eq_true]
    refine ⟨h1, fun x hx => ?_⟩
    obtain ⟨o, ho, rfl⟩ := List.mem_map.mp hx
    cases o with
    | none => rfl
    | some i =>
      obtain ⟨a, b⟩ := h2 _ ho i rfl
      simp only [oP, isVal, isWhole, Bool.and_eq_true, decide_eq_true_eq]
      omega
theorem twoS_ok {IW IT : Addr} {w : Int} {xs ys : List PV} {m : Mem} {R : KX} {fin : Prop} (hw : isWhole (.int w) 1 3 = true) (hx : xs.length ≤ 20) (gx : goodT w xs) (hy : ys.length ≤ 20) (gy : goodT w ys) (h : fin) : twoS IW IT w xs ys m R fin :=
  ⟨fun z => absurd (hw.symm.trans z) (by decide), fun _ => ⟨fun z => absurd z (by omega), fun _ => ⟨gx, fun z => absurd z (by omega), fun _ => ⟨gy, h⟩⟩⟩⟩
theorem twoS_bad2 {IW IT : Addr} {w : Int} {xs ys : List PV} {m : Mem} {R : KX} {fin : Prop} (hw : isWhole (.int w) 1 3 = true) (hx : xs.length ≤ 20) (gx : goodT w xs) (hy : 20 < ys.length) (h : R IT m) : twoS IW IT w xs ys m R fin :=
  ⟨fun z => absurd (hw.symm.trans z) (by decide), fun _ => ⟨fun z => absurd z (by omega), fun _ => ⟨gx, fun _ => h, fun z => absurd z (by omega)⟩⟩⟩
theorem twoS_bad1 {IW IT : Addr} {w : Int} {xs ys : List PV} {m : Mem} {R : KX} {fin : Prop} (hw : isWhole (.int w) 1 3 = true) (hx : 20 < xs.length) (h : R IT m) : twoS IW IT w xs ys m R fin :=
  ⟨fun z => absurd (hw.symm.trans z) (by decide), fun _ => ⟨fun _ => h, fun z => absurd z (by omega)⟩⟩
theorem twoS_badw {IW IT : Addr} {w : Int} {xs ys : List PV} {m : Mem} {R : KX} {fin : Prop} (hw : isWhole (.int w) 1 3 = false) (h : R IW m) : twoS IW IT w xs ys m R fin :=
  ⟨fun _ => h, fun z => absurd (hw.symm.trans z) (by decide)⟩
theorem gNe_same {p q : PV} {Q : PV → Prop} (h : p = q) (c : cln p = true) (o : okD p = true) (d : dep p ≤ 150) (k : Q (.bl false)) : gNe p q Q := by
  subst h
  refine ⟨o, o, Nat.le_trans (Nat.min_le_left _ _) d, ?_⟩
  rw [(peq_iff c c).mpr rfl]
  exact k
theorem dep_rows (l : List Row) : deps (l.map rowP) ≤ 1 := deps_le.mpr fun x hx => by
  obtain ⟨q, _, rfl⟩ := List.mem_map.mp hx
  rw [dep_row]
  exact Nat.le_refl _
theorem gNe_rows {l l' : List Row} {Q : PV → Prop} (h : l = l') (k : Q (.bl false)) : gNe (.lst (l.map rowP)) (.lst (l'.map rowP)) Q :=
  gNe_same (by rw [h]) (by rw [cln_lst]; exact clns_rows l) (by rw [okD_lst]; exact okDs_rows l) (by rw [dep_lst]; have := dep_rows l; omega) k
theorem compW_in {i j : Nat} {ρw : PEnv} {others rows : List Row} {m : Mem} {Q : List PV → Mem → Prop} (neg : Bool) (hi : ∀ v, at' (put ρw i (some v)) i = some v) (hj : ∀ v, at' (put ρw i (some v)) j = some (.val (.lst (others.map rowP))))
    (h : Q ((rows.filter fun r => xor neg (decide (r ∈ others))).map rowP) m) : compW (gN i) (wTst (wOp (gIn neg) (wVar i) (wVar j))) (wVar i) ρw (rows.map rowP) [] m Q := by
  refine compW_map (fun x => xor neg ((others.map rowP).any fun y => peq y x)) id _ [] (fun x N acc hm hN => ?_) ?_
  · obtain ⟨r, _, rfl⟩ := List.mem_map.mp hm
    have hd := dep_rows others
    rw [any_rows] at hN
    simp only [gN, wTst, wOp, wVar, hi, hj, gIn, okD_row, okDs_rows, any_rows, bTst, deps_def, dep_row]
    refine ⟨trivial, trivial, by omega, ?_⟩
    cases e : xor neg (decide (r ∈ others)) <;> simpa [e] using hN
  · simp only [List.nil_append, List.map_id]
    rw [List.filter_map]
    have e : ((fun x => xor neg ((others.map rowP).any fun y => peq y x)) ∘ rowP) = fun r => xor neg (decide (r ∈ others)) := by
      funext r
      simp only [Function.comp, any_rows]
    rw [e]
    exact h
theorem len_rep {α : Type} (a : α) (n : Nat) : (List.replicate n [a]).flatten.length = n := by
  induction n with
  | zero => rfl
  | succ n ih => simp [List.replicate_succ, ih]
def S_law : SpP := fun ps m Q R => match ps with
  | [.scr ns] => ns.length ≤ 63 ∧ ∀ m', Q (.bl true) m'
  | _ => False
abbrev lawQ : Str := (envOfC "law" (defScope s_law) 0 0 .none).qual ++ "<lambda>"
theorem ok_law {f c P0 : Addr} {fd : FuncData} {NM : Addr → Str → Prop} (F : Fun K "law" "law" s_law f fd) (bn : BN mg) (d__law_rounds : CalM P w K mg base T 2 "_law_rounds" 2 S__law_rounds) (d_difference : CalM P w K mg base T 6 "difference" 3 (S_difference C_InvalidWidth C_InvalidTable)) (d__law_roll : CalM P w K mg base T 2 "_law_roll" 2 S__law_roll) (d__law_any_table : CalM P w K mg base T 3 "_law_any_table" 2 S__law_any_table) (d_union : CalM P w K mg base T 6 "union" 3 (S_union C_InvalidWidth C_InvalidTable)) (d_intersection : CalM P w K mg base T 6 "intersection" 3 (S_intersection C_InvalidWidth C_InvalidTable)) (d__law_unlike : CalM P w K mg base T 1 "_law_unlike" 1 S__law_unlike) (d_distinct : CalM P w K mg base T 5 "distinct" 2 (S_distinct C_InvalidWidth C_InvalidTable)) (told : ToldOk P w K mg base T NM 1 s__law_told) (TB : LamX.TabB base mg c P0) (hcode : fd.code = .ref c) (hmT : (P0, lawQ) ∈ T) (hmU : ∀ p ∈ T, p.1 = P0 → p.2 = lawQ)
    (nmT : NM C_InvalidTable "InvalidTable") (nmW : NM C_InvalidWidth "InvalidWidth") :
    FnOk P w K mg base (L2N.CX P w) 9 f fd ["_law_script"] (spOf w K T 1 S_law) := by
  have sc := sc_law
  refine fn_okC F sc fun cdv A outer s H H0 F0 m0 E hcd hr => ?_
  obtain rfl : cdv = .ref c := hcd.symm.trans hcode
  refine ⟨_, (jb_cons (js_for passes_own rfl (ji_list (je_call d__law_rounds (hr.mono (by decide)) (ja_cons (je_var 0) (ja_cons je_int ja_nil)))) (jg_name 1 sc.nd) (jb_cons (js_set 2 sc.nd (je_op o_add je_int (je_call d__law_roll (hr.mono (by decide)) (ja_cons (je_var 1) (ja_cons je_int ja_nil)))))
  (jb_cons (js_asg (je_tup (ja_cons (je_call d__law_any_table (hr.mono (by decide)) (ja_cons (je_var 1) (ja_cons (je_var 2) ja_nil))) (ja_cons (je_call d__law_any_table (hr.mono (by decide)) (ja_cons (je_var 1) (ja_cons (je_var 2) ja_nil))) ja_nil))) (jg_tup (n := 2) rfl (jgs_cons (jg_name 3 sc.nd) (jgs_cons (jg_name 4 sc.nd) jgs_nil))))
  (jb_cons (js_par 5 6 rfl sc.nd (ja_cons (je_callTy c_list (bn _ (by decide)) (ja_cons (je_var 3) ja_nil)) (ja_cons (je_callTy c_list (bn _ (by decide)) (ja_cons (je_var 4) ja_nil)) ja_nil)))
  (jb_cons (js_par 7 8 rfl sc.nd (ja_cons (je_call d_union (hr.mono (by decide)) (ja_cons (je_var 2) (ja_cons (je_var 3) (ja_cons (je_var 4) ja_nil)))) (ja_cons (je_call d_intersection (hr.mono (by decide)) (ja_cons (je_var 2) (ja_cons (je_var 3) (ja_cons (je_var 4) ja_nil)))) ja_nil)))
  (jb_cons (js_set 9 sc.nd (je_call d_difference (hr.mono (by decide)) (ja_cons (je_var 2) (ja_cons (je_var 3) (ja_cons (je_var 4) ja_nil)))))
  (jb_cons (js_if (jt_cmp (o_ne (rm_of hr)) (je_var 7) (je_call d__law_unlike (hr.mono (by decide)) (ja_cons (je_op o_add (je_var 3) (je_var 4)) ja_nil))) (jb_one (js_ret je_bl)) jb_nil)
  (jb_cons (js_if (jt_cmp (o_ne (rm_of hr)) (je_var 8) (je_lc (own := [("_law_row", 10)]) rfl sc.nd (ji_list (je_call d__law_unlike (hr.mono (by decide)) (ja_cons (je_var 3) ja_nil))) (blkOk_by (show blkC ["_law_script", "_law_dice", "_law_width", "_law_rows", "_law_others", "_law_one", "_law_other", "_law_both", "_law_common", "_law_rest", "_law_row", "_law_bad"] (defScope s_law) _ [("_law_row", 10)] = true by decide +kernel)) (fun _ _ _ _ _ => (jg_name 10 sc.nd)) (fun _ _ _ _ _ => (jts_one (jt_cmp (o_in (rm_of hr)) (je_var 10) (je_var 4)))) (fun _ _ _ _ _ => (je_var 10)))) (jb_one (js_ret je_bl)) jb_nil)
  (jb_cons (js_if (jt_cmp (o_ne (rm_of hr)) (je_var 9) (je_lc (own := [("_law_row", 10)]) rfl sc.nd (ji_list (je_call d__law_unlike (hr.mono (by decide)) (ja_cons (je_var 3) ja_nil))) (blkOk_by (show blkC ["_law_script", "_law_dice", "_law_width", "_law_rows", "_law_others", "_law_one", "_law_other", "_law_both", "_law_common", "_law_rest", "_law_row", "_law_bad"] (defScope s_law) _ [("_law_row", 10)] = true by decide +kernel)) (fun _ _ _ _ _ => (jg_name 10 sc.nd)) (fun _ _ _ _ _ => (jts_one (jt_cmp (o_notin (rm_of hr)) (je_var 10) (je_var 4)))) (fun _ _ _ _ _ => (je_var 10)))) (jb_one (js_ret je_bl)) jb_nil)
  (jb_cons (js_if (jt_cmp (o_ne (rm_of hr)) (je_tup (ja_cons (je_var 3) (ja_cons (je_var 4) ja_nil))) (je_tup (ja_cons (je_var 5) (ja_cons (je_var 6) ja_nil)))) (jb_one (js_ret je_bl)) jb_nil)
  (jb_cons (js_if (jt_cmp (o_ne (rm_of hr)) (je_callB c_len (bn _ (by decide)) (ja_cons (je_var 7) ja_nil)) (je_op o_add (je_op o_add (je_callB c_len (bn _ (by decide)) (ja_cons (je_var 8) ja_nil)) (je_callB c_len (bn _ (by decide)) (ja_cons (je_var 9) ja_nil))) (je_callB c_len (bn _ (by decide)) (ja_cons (je_call d_difference (hr.mono (by decide)) (ja_cons (je_var 2) (ja_cons (je_var 4) (ja_cons (je_var 3) ja_nil)))) ja_nil)))) (jb_one (js_ret je_bl)) jb_nil)
  (jb_cons (js_if (JW.jt (jw_or (jt_cmp (o_ne (rm_of hr)) (je_call d_union (hr.mono (by decide)) (ja_cons (je_var 2) (ja_cons (je_var 3) (ja_cons (je_var 3) ja_nil)))) (je_call d_distinct (hr.mono (by decide)) (ja_cons (je_var 2) (ja_cons (je_var 3) ja_nil)))) (jw_or1 (jt_cmp (o_ne (rm_of hr)) (je_call d_difference (hr.mono (by decide)) (ja_cons (je_var 2) (ja_cons (je_var 3) (ja_cons (je_var 3) ja_nil)))) (je_lst ja_nil))))) (jb_one (js_ret je_bl)) jb_nil)
  (jb_cons (js_if (jt_cmp (o_ne (rm_of hr)) (je_call d_intersection (hr.mono (by decide)) (ja_cons (je_var 2) (ja_cons (je_var 3) (ja_cons (je_var 3) ja_nil)))) (je_call d_distinct (hr.mono (by decide)) (ja_cons (je_var 2) (ja_cons (je_var 3) ja_nil)))) (jb_one (js_ret je_bl)) jb_nil)
  (jb_cons (js_if (jt_cmp (o_ne (rm_of hr)) (je_call d_intersection (hr.mono (by decide)) (ja_cons (je_var 2) (ja_cons (je_var 3) (ja_cons (je_lst ja_nil) ja_nil)))) (je_lst ja_nil)) (jb_one (js_ret je_bl)) jb_nil)
  (jb_cons (js_set 11 sc.nd (je_op o_add (je_var 4) (je_op o_mul (je_lst (ja_cons (je_op o_mul (je_tup (ja_cons je_int ja_nil)) (je_var 2)) ja_nil)) (je_op o_sub je_int (je_callB c_len (bn _ (by decide)) (ja_cons (je_var 4) ja_nil))))))
  (jb_cons (js_if (jt_cmp (o_ne (rm_of hr)) (je_told told rfl TB rfl hmT hmU hr (by decide) (LamX.lamS_by (show LamX.lamSB (defScope s_law) _ = true by decide +kernel)) rfl (fun _ _ _ _ _ => rfl) (fun _ _ _ _ _ _ _ _ _ hr => (je_call d_union (hr.mono (by decide)) (ja_cons (je_var 2) (ja_cons (je_var 3) (ja_cons (je_var 11) ja_nil)))))) (je_tup (ja_cons je_str (ja_cons je_str ja_nil)))) (jb_one (js_ret je_bl)) jb_nil)
  (jb_cons (js_if (jt_cmp (o_ne (rm_of hr)) (je_told told rfl TB rfl hmT hmU hr (by decide) (LamX.lamS_by (show LamX.lamSB (defScope s_law) _ = true by decide +kernel)) rfl (fun _ _ _ _ _ => rfl) (fun _ _ _ _ _ _ _ _ _ hr => (je_call d_difference (hr.mono (by decide)) (ja_cons (je_var 2) (ja_cons (je_var 11) (ja_cons (je_var 3) ja_nil)))))) (je_tup (ja_cons je_str (ja_cons je_str ja_nil)))) (jb_one (js_ret je_bl)) jb_nil)
  (jb_one (js_if (jt_cmp (o_ne (rm_of hr)) (je_told told rfl TB rfl hmT hmU hr (by decide) (LamX.lamS_by (show LamX.lamSB (defScope s_law) _ = true by decide +kernel)) rfl (fun _ _ _ _ _ => rfl) (fun _ _ _ _ _ _ _ _ _ hr => (je_call d_intersection (hr.mono (by decide)) (ja_cons (je_op o_add (je_var 2) je_int) (ja_cons (je_var 3) (ja_cons (je_var 4) ja_nil)))))) (je_tup (ja_cons je_str (ja_cons je_str ja_nil)))) (jb_one (js_ret je_bl)) jb_nil)))))))))))))))))))
  (jb_one (js_ret je_bl))), ?_⟩
  intro qs m Q R h hl; clear hl
  unfold S_law at h
  split at h
  · rename_i ns
    obtain ⟨hn, hQ⟩ := h
    refine ⟨hn, by decide, by decide, fun as m1 hal has => ⟨by rw [List.length_map]; omega, ?_⟩⟩
    refine forW_inv (fun _ ρ m' => m' = m1 ∧ ∃ v1 v2 v3 v4 v5 v6 v7 v8 v9 v10 v11, ρ = [some (.val (.scr ns)), v1, v2, v3, v4, v5, v6, v7, v8, v9, v10, v11]) _ 0 _ _ ?_ ?_ ⟨rfl, _, _, _, _, _, _, _, _, _, _, _, rfl⟩
    · rintro j x ρ m' N hx ⟨rfl, v1, v2, v3, v4, v5, v6, v7, v8, v9, v10, v11, rfl⟩ hN
      obtain ⟨a, ha, rfl⟩ := List.mem_map.mp (List.mem_of_getElem? hx)
      have hd := has a ha
      refine ⟨hd, by decide, by decide, fun r r0 r1 => ?_⟩
      refine ⟨hd, by omega, by omega, fun rows l8 sm => ⟨hd, by omega, by omega, fun others l8' sm' => ?_⟩⟩
      have hw : isWhole (.int (1 + r)) 1 3 = true := by simp only [isWhole, Bool.and_eq_true, decide_eq_true_eq]; omega
      have g1 := good_small sm (by omega)
      have g2 := good_small sm' (by omega)
      have z1 : (rows.map rowP).length ≤ 20 := by rw [List.length_map]; omega
      have z2 : (others.map rowP).length ≤ 20 := by rw [List.length_map]; omega
      refine ⟨Nat.le_of_ble_eq_true rfl, rfl, ?_⟩
      refine twoS_ok hw z1 g1 z2 g2 ?_
      refine ⟨rows, others, rfl, rfl, ?_⟩
      refine twoS_ok hw z1 g1 z2 g2 ?_
      refine ⟨rows, others, rfl, rfl, ?_⟩
      refine twoS_ok hw z1 g1 z2 g2 ?_
      refine ⟨rows, others, rfl, rfl, ?_⟩
      -- union
      refine ⟨by rw [List.length_map, List.length_map]; omega, rows ++ others, (List.map_append).symm, by rw [List.length_append]; omega, gNe_rows (unlike_uniq _).symm ?_⟩
      -- intersection
      refine ⟨rows, rfl, by omega, by rw [List.length_map, unlike_uniq]; have := uniq_len rows; omega, compW_in false (fun _ => rfl) (fun _ => rfl) ?_⟩
      refine gNe_rows (by rw [unlike_uniq]; simp only [Bool.false_xor]) ?_
      -- difference
      refine ⟨rows, rfl, by omega, by rw [List.length_map, unlike_uniq]; have := uniq_len rows; omega, compW_in true (fun _ => rfl) (fun _ => rfl) ?_⟩
      refine gNe_rows (by rw [unlike_uniq]; simp only [Bool.true_xor]) ?_
      -- unchanged
      have d1 := dep_rows rows
      have d2 := dep_rows others
      refine ⟨Nat.le_of_ble_eq_true rfl, Nat.le_of_ble_eq_true rfl, gNe_same rfl (by simp [clns_rows]) (by simp [okDs_rows]) (by simp; omega) ?_⟩
      -- sizes
      refine twoS_ok hw z2 g2 z1 g1 ?_
      refine ⟨others, rows, rfl, rfl, ?_⟩
      have hlen : (((uniq (rows ++ others)).map rowP).length : Int) = (((uniq rows).filter fun r => decide (r ∈ others)).map rowP).length + (((uniq rows).filter fun r => !decide (r ∈ others)).map rowP).length + (((uniq others).filter fun r => !decide (r ∈ rows)).map rowP).length := by
        rw [List.length_map, List.length_map, List.length_map, List.length_map, len_law rows others]
        omega
      refine ⟨rfl, rfl, Nat.zero_le _, ?_⟩
      rw [(peq_iff rfl rfl).mpr (congrArg PV.int hlen)]
      -- with itself
      refine twoS_ok hw z1 g1 z1 g1 ?_
      refine ⟨rows, rows, rfl, rfl, ?_⟩
      refine ⟨hw, z1, g1, rows, rfl, ?_⟩
      refine gNe_rows (by rw [uniq_app, filt_out, List.append_nil]) ?_
      refine twoS_ok hw z1 g1 z1 g1 ?_
      refine ⟨rows, rows, rfl, rfl, ?_⟩
      refine ⟨Nat.zero_le _, ?_⟩
      refine gNe_rows (l' := []) (filt_out rows) ?_
      refine twoS_ok hw z1 g1 z1 g1 ?_
      refine ⟨rows, rows, rfl, rfl, ?_⟩
      refine ⟨hw, z1, g1, rows, rfl, ?_⟩
      refine gNe_rows (filt_in rows) ?_
      -- with none
      refine ⟨Nat.zero_le _, ?_⟩
      refine twoS_ok hw z1 g1 (Nat.zero_le _) (fun x h => nomatch h) ?_
      refine ⟨rows, [], rfl, rfl, ?_⟩
      refine ⟨Nat.zero_le _, ?_⟩
      refine gNe_rows (l' := []) (by simp) ?_
      -- too many rows
      have z3 : (others.map rowP).length ≤ 8 := by rw [List.length_map]; omega
      refine ⟨Nat.le_of_ble_eq_true rfl, by omega, by omega, Nat.le_of_ble_eq_true rfl, (fun z => nomatch z), Nat.le_of_ble_eq_true rfl, by omega, by omega, Nat.le_of_ble_eq_true rfl, by rw [len_rep]; omega, ?_⟩
      have z4 : 20 < (others.map rowP ++ (List.replicate (21 - ((others.map rowP).length : Int)).toNat [PV.tup (List.replicate (1 + r).toNat [PV.int 0]).flatten]).flatten).length := by
        rw [List.length_append, len_rep]; omega
      refine ⟨fun z => absurd (hw.symm.trans z) (by decide), fun _ => ⟨fun z => absurd z (by omega), fun _ => ⟨g1, fun _ => ?_, fun z => absurd z (Nat.not_le.mpr z4)⟩⟩⟩
      refine ⟨"InvalidTable", nmT, ?_⟩
      refine ⟨Nat.le_of_ble_eq_true rfl, ?_⟩
      refine gNe_same rfl (by simp) (by decide +kernel) (by simp) ?_
      refine ⟨fun z => absurd (hw.symm.trans z) (by decide), fun _ => ⟨fun _ => ?_, fun z => absurd z (Nat.not_le.mpr z4)⟩⟩
      refine ⟨"InvalidTable", nmT, ?_⟩
      refine ⟨Nat.le_of_ble_eq_true rfl, ?_⟩
      refine gNe_same rfl (by simp) (by decide +kernel) (by simp) ?_
      have hw4 : isWhole (.int (1 + r + 3)) 1 3 = false := by
        simp only [isWhole, Bool.and_eq_false_iff, decide_eq_false_iff_not]; omega
      refine ⟨fun _ => ?_, fun z => absurd (hw4.symm.trans z) (by decide)⟩
      refine ⟨"InvalidWidth", nmW, ?_⟩
      refine ⟨Nat.le_of_ble_eq_true rfl, ?_⟩
      refine gNe_same rfl (by simp) (by decide +kernel) (by simp) ?_
      exact hN _ _ ⟨rfl, _, _, _, _, _, _, _, _, _, _, _, rfl⟩
    · rintro ρ m' ⟨rfl, v1, v2, v3, v4, v5, v6, v7, v8, v9, v10, v11, rfl⟩
      exact hQ _
  · exact h.elim
end
end PL


namespace PL
open PySem PySem.Spec PyProof.Rows L2
/-! ### the end -/
def dd (i : Nat) (x : Str) : He.DefD := ⟨(x, none), x, x, defArgs (top i), defBody (top i), defScope (top i), [], []⟩
def hfn : List He.DefD := [dd 15 "is_whole", dd 16 "need_width", dd 17 "is_value", dd 18 "need_row", dd 20 "need_table", dd 21 "unlike", dd 22 "distinct", dd 23 "need_two", dd 24 "union", dd 25 "intersection", dd 26 "difference", dd 28 "_law_cell", dd 29 "_law_drawn", dd 30 "_law_roll", dd 31 "_law_rounds", dd 34 "_law_any_table", dd 35 "_law_unlike", dd 32 "_law_term", dd 36 "law", dd 33 "_law_told"]
def hfa0 : List He.Fa := [.glo "is_whole", .glo "need_width", .glo "is_value", .glo "need_row", .glo "need_table", .glo "unlike", .glo "distinct", .glo "need_two", .glo "union", .glo "intersection", .glo "difference", .glo "_law_cell", .glo "_law_drawn", .glo "_law_roll", .glo "_law_rounds", .glo "_law_any_table", .glo "_law_unlike", .glo "_law_term", .glo "law", .glo "_law_told", .glo "InvalidWidth", .exc "InvalidWidth", .glo "InvalidPredicate", .exc "InvalidPredicate", .glo "InvalidRow", .exc "InvalidRow", .glo "InvalidTable", .exc "InvalidTable", .glo "InvalidColumn", .exc "InvalidColumn"]
def hfa1 : List He.Fa := [.glo "InvalidPath", .exc "InvalidPath", .glo "InvalidRule", .exc "InvalidRule", .glo "NotPlain", .exc "NotPlain", .glo "Rejected", .exc "Rejected", .glo "NothingToUndo", .exc "NothingToUndo", .glo "InvalidText", .exc "InvalidText", .glo "FilterError", .exm "InvalidWidth" "FilterError" true, .exm "InvalidPredicate" "FilterError" true, .exm "InvalidRow" "FilterError" true, .exm "InvalidTable" "FilterError" true, .exm "InvalidColumn" "FilterError" true, .exm "InvalidPath" "FilterError" true, .exm "InvalidRule" "FilterError" true, .exm "NotPlain" "FilterError" true, .exm "Rejected" "FilterError" true, .exm "NothingToUndo" "FilterError" true, .exm "InvalidText" "FilterError" true, .int "GREATEST" 1000000000000, .free "isinstance", .free "int", .free "bool", .free "str", .free "tuple"]
def hfa2 : List He.Fa := [.free "list", .free "len", .free "all", .free "any", .free "range", .free "max", .free "min", .free "sum", .free "sorted", .free "enumerate", .free "set", .free "reversed", .free "ValueError"]
def hfa : List He.Fa := hfa0 ++ hfa1 ++ hfa2
abbrev cl (K : PySem.W.Frag) (j : Nat) : Addr := He.ga K (errNames.getD j "")
def hex (K : PySem.W.Frag) : Bool := (List.range 11).all fun j => ecB K (cl K j) && (((List.range 11).all fun i => decide (PySem.W.kitOne K (.ref (cl K j)) (.ref (cl K i)) = some (i == j))) && decide (PySem.W.kitOne K (.ref (cl K j)) (.type "ValueError") = some true))
theorem nm_of {K : PySem.W.Frag} {FE : Addr} (h : hex K = true) (j : Nat) (hj : j < 11) (hx : PySem.W.exmOne K (.ref (cl K j)) (.ref FE) = some true) : NMof K (errNames.map (He.ga K)) FE (cl K j) (errNames.getD j "") := by
  obtain ⟨h1, h2⟩ := He.ba (List.all_eq_true.mp h j (List.mem_range.mpr hj))
  obtain ⟨h3, h4⟩ := He.ba h2
  refine ⟨j, ⟨hj, ecB_ok h1, fun i D hD => ?_, of_decide_eq_true h4⟩, rfl, hx⟩
  rw [List.getElem?_map] at hD
  obtain ⟨x, hx1, rfl⟩ := Option.map_eq_some_iff.mp hD
  obtain ⟨hi, hx2⟩ := List.getElem?_eq_some_iff.mp hx1
  have e : x = errNames.getD i "" := by rw [List.getD_eq_getElem?_getD, hx1]; rfl
  rw [e]
  exact of_decide_eq_true (List.all_eq_true.mp h3 i (List.mem_range.mpr hi))
theorem start_law (ns : List Int) (hl : ns.length ≤ 63) (hb : ∀ z ∈ ns, Builtin.Int.intBits z ≤ 1048576) : S_law [.scr ns] (fun _ => none) (fun p _ => p = .bl true) (fun _ _ => False) := ⟨hl, fun _ => rfl⟩
theorem law_at {w : World} {K : PySem.W.Frag} {mg : Str → Option Value} {fa : Addr} {h : Heap} (X : K.In h) (G : h.Ns mainGlobals mg) (hfa0 : mg ("law" : Str) = some (.ref fa)) (c : He.SaysX hfa hfn [] [("law", none)] hex w h K) :
    LamX.LawAtS PySem.Challenge.rw_nullfilters_k17_whole_sets w K (L2N.CX (PySem.Challenge.rw_nullfilters_k17_whole_sets).prog w) 9 63 "_law_script" mg fa h := by
  obtain ⟨fd_is_whole, FD_is_whole⟩ := c.t.d.def_ 0 (d := dd 15 "is_whole") rfl
  have F_is_whole : Fun K "is_whole" "is_whole" s_is_whole (He.fAd K ("is_whole", none)) fd_is_whole := fun_of FD_is_whole
  have gl_is_whole := He.glo_ok X G (c.t.d.fact 0 (f := .glo "is_whole") rfl)
  obtain ⟨fd_need_width, FD_need_width⟩ := c.t.d.def_ 1 (d := dd 16 "need_width") rfl
  have F_need_width : Fun K "need_width" "need_width" s_need_width (He.fAd K ("need_width", none)) fd_need_width := fun_of FD_need_width
  have gl_need_width := He.glo_ok X G (c.t.d.fact 1 (f := .glo "need_width") rfl)
  obtain ⟨fd_is_value, FD_is_value⟩ := c.t.d.def_ 2 (d := dd 17 "is_value") rfl
  have F_is_value : Fun K "is_value" "is_value" s_is_value (He.fAd K ("is_value", none)) fd_is_value := fun_of FD_is_value
  have gl_is_value := He.glo_ok X G (c.t.d.fact 2 (f := .glo "is_value") rfl)
  obtain ⟨fd_need_row, FD_need_row⟩ := c.t.d.def_ 3 (d := dd 18 "need_row") rfl
  have F_need_row : Fun K "need_row" "need_row" s_need_row (He.fAd K ("need_row", none)) fd_need_row := fun_of FD_need_row
  have gl_need_row := He.glo_ok X G (c.t.d.fact 3 (f := .glo "need_row") rfl)
  obtain ⟨fd_need_table, FD_need_table⟩ := c.t.d.def_ 4 (d := dd 20 "need_table") rfl
  have F_need_table : Fun K "need_table" "need_table" s_need_table (He.fAd K ("need_table", none)) fd_need_table := fun_of FD_need_table
  have gl_need_table := He.glo_ok X G (c.t.d.fact 4 (f := .glo "need_table") rfl)
  obtain ⟨fd_unlike, FD_unlike⟩ := c.t.d.def_ 5 (d := dd 21 "unlike") rfl
  have F_unlike : Fun K "unlike" "unlike" s_unlike (He.fAd K ("unlike", none)) fd_unlike := fun_of FD_unlike
  have gl_unlike := He.glo_ok X G (c.t.d.fact 5 (f := .glo "unlike") rfl)
  obtain ⟨fd_distinct, FD_distinct⟩ := c.t.d.def_ 6 (d := dd 22 "distinct") rfl
  have F_distinct : Fun K "distinct" "distinct" s_distinct (He.fAd K ("distinct", none)) fd_distinct := fun_of FD_distinct
  have gl_distinct := He.glo_ok X G (c.t.d.fact 6 (f := .glo "distinct") rfl)
  obtain ⟨fd_need_two, FD_need_two⟩ := c.t.d.def_ 7 (d := dd 23 "need_two") rfl
  have F_need_two : Fun K "need_two" "need_two" s_need_two (He.fAd K ("need_two", none)) fd_need_two := fun_of FD_need_two
  have gl_need_two := He.glo_ok X G (c.t.d.fact 7 (f := .glo "need_two") rfl)
  obtain ⟨fd_union, FD_union⟩ := c.t.d.def_ 8 (d := dd 24 "union") rfl
  have F_union : Fun K "union" "union" s_union (He.fAd K ("union", none)) fd_union := fun_of FD_union
  have gl_union := He.glo_ok X G (c.t.d.fact 8 (f := .glo "union") rfl)
  obtain ⟨fd_intersection, FD_intersection⟩ := c.t.d.def_ 9 (d := dd 25 "intersection") rfl
  have F_intersection : Fun K "intersection" "intersection" s_intersection (He.fAd K ("intersection", none)) fd_intersection := fun_of FD_intersection
  have gl_intersection := He.glo_ok X G (c.t.d.fact 9 (f := .glo "intersection") rfl)
  obtain ⟨fd_difference, FD_difference⟩ := c.t.d.def_ 10 (d := dd 26 "difference") rfl
  have F_difference : Fun K "difference" "difference" s_difference (He.fAd K ("difference", none)) fd_difference := fun_of FD_difference
  have gl_difference := He.glo_ok X G (c.t.d.fact 10 (f := .glo "difference") rfl)
  obtain ⟨fd__law_cell, FD__law_cell⟩ := c.t.d.def_ 11 (d := dd 28 "_law_cell") rfl
  have F__law_cell : Fun K "_law_cell" "_law_cell" s__law_cell (He.fAd K ("_law_cell", none)) fd__law_cell := fun_of FD__law_cell
  have gl__law_cell := He.glo_ok X G (c.t.d.fact 11 (f := .glo "_law_cell") rfl)
  obtain ⟨fd__law_drawn, FD__law_drawn⟩ := c.t.d.def_ 12 (d := dd 29 "_law_drawn") rfl
  have F__law_drawn : Fun K "_law_drawn" "_law_drawn" s__law_drawn (He.fAd K ("_law_drawn", none)) fd__law_drawn := fun_of FD__law_drawn
  have gl__law_drawn := He.glo_ok X G (c.t.d.fact 12 (f := .glo "_law_drawn") rfl)
  obtain ⟨fd__law_roll, FD__law_roll⟩ := c.t.d.def_ 13 (d := dd 30 "_law_roll") rfl
  have F__law_roll : Fun K "_law_roll" "_law_roll" s__law_roll (He.fAd K ("_law_roll", none)) fd__law_roll := fun_of FD__law_roll
  have gl__law_roll := He.glo_ok X G (c.t.d.fact 13 (f := .glo "_law_roll") rfl)
  obtain ⟨fd__law_rounds, FD__law_rounds⟩ := c.t.d.def_ 14 (d := dd 31 "_law_rounds") rfl
  have F__law_rounds : Fun K "_law_rounds" "_law_rounds" s__law_rounds (He.fAd K ("_law_rounds", none)) fd__law_rounds := fun_of FD__law_rounds
  have gl__law_rounds := He.glo_ok X G (c.t.d.fact 14 (f := .glo "_law_rounds") rfl)
  obtain ⟨fd__law_any_table, FD__law_any_table⟩ := c.t.d.def_ 15 (d := dd 34 "_law_any_table") rfl
  have F__law_any_table : Fun K "_law_any_table" "_law_any_table" s__law_any_table (He.fAd K ("_law_any_table", none)) fd__law_any_table := fun_of FD__law_any_table
  have gl__law_any_table := He.glo_ok X G (c.t.d.fact 15 (f := .glo "_law_any_table") rfl)
  obtain ⟨fd__law_unlike, FD__law_unlike⟩ := c.t.d.def_ 16 (d := dd 35 "_law_unlike") rfl
  have F__law_unlike : Fun K "_law_unlike" "_law_unlike" s__law_unlike (He.fAd K ("_law_unlike", none)) fd__law_unlike := fun_of FD__law_unlike
  have gl__law_unlike := He.glo_ok X G (c.t.d.fact 16 (f := .glo "_law_unlike") rfl)
  obtain ⟨fd__law_term, FD__law_term⟩ := c.t.d.def_ 17 (d := dd 32 "_law_term") rfl
  have F__law_term : Fun K "_law_term" "_law_term" s__law_term (He.fAd K ("_law_term", none)) fd__law_term := fun_of FD__law_term
  have gl__law_term := He.glo_ok X G (c.t.d.fact 17 (f := .glo "_law_term") rfl)
  obtain ⟨fd_law, FD_law⟩ := c.t.d.def_ 18 (d := dd 36 "law") rfl
  have F_law : Fun K "law" "law" s_law (He.fAd K ("law", none)) fd_law := fun_of FD_law
  have gl_law := He.glo_ok X G (c.t.d.fact 18 (f := .glo "law") rfl)
  obtain ⟨fd__law_told, FD__law_told⟩ := c.t.d.def_ 19 (d := dd 33 "_law_told") rfl
  have F__law_told : Fun K "_law_told" "_law_told" s__law_told (He.fAd K ("_law_told", none)) fd__law_told := fun_of FD__law_told
  have gl__law_told := He.glo_ok X G (c.t.d.fact 19 (f := .glo "_law_told") rfl)
  have ee := hfa0.symm.trans gl_law
  cases ee
  have g_InvalidWidth := He.glo_ok X G (c.t.d.fact 20 (f := .glo "InvalidWidth") rfl)
  have ec_InvalidWidth := He.exc_ok (c.t.d.fact 21 (f := .exc "InvalidWidth") rfl)
  have x_InvalidWidth : ExcP K mg "InvalidWidth" (He.ga K "InvalidWidth") := ⟨g_InvalidWidth, ec_InvalidWidth.1, ec_InvalidWidth.2.1, ec_InvalidWidth.2.2.1, ec_InvalidWidth.2.2.2⟩
  have g_InvalidPredicate := He.glo_ok X G (c.t.d.fact 22 (f := .glo "InvalidPredicate") rfl)
  have ec_InvalidPredicate := He.exc_ok (c.t.d.fact 23 (f := .exc "InvalidPredicate") rfl)
  have x_InvalidPredicate : ExcP K mg "InvalidPredicate" (He.ga K "InvalidPredicate") := ⟨g_InvalidPredicate, ec_InvalidPredicate.1, ec_InvalidPredicate.2.1, ec_InvalidPredicate.2.2.1, ec_InvalidPredicate.2.2.2⟩
  have g_InvalidRow := He.glo_ok X G (c.t.d.fact 24 (f := .glo "InvalidRow") rfl)
  have ec_InvalidRow := He.exc_ok (c.t.d.fact 25 (f := .exc "InvalidRow") rfl)
  have x_InvalidRow : ExcP K mg "InvalidRow" (He.ga K "InvalidRow") := ⟨g_InvalidRow, ec_InvalidRow.1, ec_InvalidRow.2.1, ec_InvalidRow.2.2.1, ec_InvalidRow.2.2.2⟩
  have g_InvalidTable := He.glo_ok X G (c.t.d.fact 26 (f := .glo "InvalidTable") rfl)
  have ec_InvalidTable := He.exc_ok (c.t.d.fact 27 (f := .exc "InvalidTable") rfl)
  have x_InvalidTable : ExcP K mg "InvalidTable" (He.ga K "InvalidTable") := ⟨g_InvalidTable, ec_InvalidTable.1, ec_InvalidTable.2.1, ec_InvalidTable.2.2.1, ec_InvalidTable.2.2.2⟩
  have g_InvalidColumn := He.glo_ok X G (c.t.d.fact 28 (f := .glo "InvalidColumn") rfl)
  have ec_InvalidColumn := He.exc_ok (c.t.d.fact 29 (f := .exc "InvalidColumn") rfl)
  have x_InvalidColumn : ExcP K mg "InvalidColumn" (He.ga K "InvalidColumn") := ⟨g_InvalidColumn, ec_InvalidColumn.1, ec_InvalidColumn.2.1, ec_InvalidColumn.2.2.1, ec_InvalidColumn.2.2.2⟩
  have g_InvalidPath := He.glo_ok X G (c.t.d.fact 30 (f := .glo "InvalidPath") rfl)
  have ec_InvalidPath := He.exc_ok (c.t.d.fact 31 (f := .exc "InvalidPath") rfl)
  have x_InvalidPath : ExcP K mg "InvalidPath" (He.ga K "InvalidPath") := ⟨g_InvalidPath, ec_InvalidPath.1, ec_InvalidPath.2.1, ec_InvalidPath.2.2.1, ec_InvalidPath.2.2.2⟩
  have g_InvalidRule := He.glo_ok X G (c.t.d.fact 32 (f := .glo "InvalidRule") rfl)
  have ec_InvalidRule := He.exc_ok (c.t.d.fact 33 (f := .exc "InvalidRule") rfl)
  have x_InvalidRule : ExcP K mg "InvalidRule" (He.ga K "InvalidRule") := ⟨g_InvalidRule, ec_InvalidRule.1, ec_InvalidRule.2.1, ec_InvalidRule.2.2.1, ec_InvalidRule.2.2.2⟩
  have g_NotPlain := He.glo_ok X G (c.t.d.fact 34 (f := .glo "NotPlain") rfl)
  have ec_NotPlain := He.exc_ok (c.t.d.fact 35 (f := .exc "NotPlain") rfl)
  have x_NotPlain : ExcP K mg "NotPlain" (He.ga K "NotPlain") := ⟨g_NotPlain, ec_NotPlain.1, ec_NotPlain.2.1, ec_NotPlain.2.2.1, ec_NotPlain.2.2.2⟩
  have g_Rejected := He.glo_ok X G (c.t.d.fact 36 (f := .glo "Rejected") rfl)
  have ec_Rejected := He.exc_ok (c.t.d.fact 37 (f := .exc "Rejected") rfl)
  have x_Rejected : ExcP K mg "Rejected" (He.ga K "Rejected") := ⟨g_Rejected, ec_Rejected.1, ec_Rejected.2.1, ec_Rejected.2.2.1, ec_Rejected.2.2.2⟩
  have g_NothingToUndo := He.glo_ok X G (c.t.d.fact 38 (f := .glo "NothingToUndo") rfl)
  have ec_NothingToUndo := He.exc_ok (c.t.d.fact 39 (f := .exc "NothingToUndo") rfl)
  have x_NothingToUndo : ExcP K mg "NothingToUndo" (He.ga K "NothingToUndo") := ⟨g_NothingToUndo, ec_NothingToUndo.1, ec_NothingToUndo.2.1, ec_NothingToUndo.2.2.1, ec_NothingToUndo.2.2.2⟩
  have g_InvalidText := He.glo_ok X G (c.t.d.fact 40 (f := .glo "InvalidText") rfl)
  have ec_InvalidText := He.exc_ok (c.t.d.fact 41 (f := .exc "InvalidText") rfl)
  have x_InvalidText : ExcP K mg "InvalidText" (He.ga K "InvalidText") := ⟨g_InvalidText, ec_InvalidText.1, ec_InvalidText.2.1, ec_InvalidText.2.2.1, ec_InvalidText.2.2.2⟩
  have g_GREATEST : G_GREATEST mg := He.int_ok X G (c.t.d.fact 54 (f := .int "GREATEST" 1000000000000) rfl)
  have bn : BN mg := by
    intro x hx
    simp only [List.mem_cons, List.not_mem_nil, or_false] at hx
    rcases hx with rfl | rfl | rfl | rfl | rfl | rfl | rfl | rfl | rfl | rfl | rfl | rfl | rfl | rfl | rfl | rfl | rfl | rfl
    · exact He.free_ok X G (c.t.d.fact 55 (f := .free "isinstance") rfl)
    · exact He.free_ok X G (c.t.d.fact 56 (f := .free "int") rfl)
    · exact He.free_ok X G (c.t.d.fact 57 (f := .free "bool") rfl)
    · exact He.free_ok X G (c.t.d.fact 58 (f := .free "str") rfl)
    · exact He.free_ok X G (c.t.d.fact 59 (f := .free "tuple") rfl)
    · exact He.free_ok X G (c.t.d.fact 60 (f := .free "list") rfl)
    · exact He.free_ok X G (c.t.d.fact 61 (f := .free "len") rfl)
    · exact He.free_ok X G (c.t.d.fact 62 (f := .free "all") rfl)
    · exact He.free_ok X G (c.t.d.fact 63 (f := .free "any") rfl)
    · exact He.free_ok X G (c.t.d.fact 64 (f := .free "range") rfl)
    · exact He.free_ok X G (c.t.d.fact 65 (f := .free "max") rfl)
    · exact He.free_ok X G (c.t.d.fact 66 (f := .free "min") rfl)
    · exact He.free_ok X G (c.t.d.fact 67 (f := .free "sum") rfl)
    · exact He.free_ok X G (c.t.d.fact 68 (f := .free "sorted") rfl)
    · exact He.free_ok X G (c.t.d.fact 69 (f := .free "enumerate") rfl)
    · exact He.free_ok X G (c.t.d.fact 70 (f := .free "set") rfl)
    · exact He.free_ok X G (c.t.d.fact 71 (f := .free "reversed") rfl)
    · exact He.free_ok X G (c.t.d.fact 72 (f := .free "ValueError") rfl)
  have hcode := code_of (p := ("law", none)) F_law
  refine ⟨fd_law, [He.cT K ("law", none)], spOf w K [((He.cT K ("law", none)).2, lawQ)] 1 S_law, fun p hp => ?_, fun p hp => ?_, fun p hp => ?_, fun s u => (FD_law.bindsA (ps := ["_law_script"]) (fun _ _ _ _ _ _ us hl => match us, hl with | [_], _ => rfl) s [u] rfl), fun H a ns hl hb hT hS => ?_, fun base KB GB TB => ?_⟩
  · obtain rfl := List.mem_singleton.mp hp
    exact c.empty _ (List.mem_singleton.mpr rfl)
  · obtain rfl := List.mem_singleton.mp hp
    exact c.out _ (List.mem_singleton.mpr rfl)
  · obtain rfl := List.mem_singleton.mp hp
    exact PySem.W.codeHd_of_K X (c.hd _ (List.mem_singleton.mpr rfl))
  · exact sp_start (fun p hp => by obtain rfl := List.mem_singleton.mp hp; exact hT (He.cT K ("law", none)) (List.mem_singleton.mpr rfl)) hS (start_law ns hl hb)
  have d_is_whole : CalM (PySem.Challenge.rw_nullfilters_k17_whole_sets).prog w K mg base [((He.cT K ("law", none)).2, lawQ)] 1 "is_whole" 3 S_is_whole := cal_of (ok_is_whole F_is_whole bn ) gl_is_whole F_is_whole.kp (F_is_whole.binds fun _ _ _ _ _ _ us hl => match us, hl with | [_, _, _], _ => rfl)
  have d_need_width : CalM (PySem.Challenge.rw_nullfilters_k17_whole_sets).prog w K mg base [((He.cT K ("law", none)).2, lawQ)] 2 "need_width" 1 (S_need_width (He.ga K "InvalidWidth")) := cal_of (ok_need_width F_need_width bn d_is_whole x_InvalidWidth) gl_need_width F_need_width.kp (F_need_width.binds fun _ _ _ _ _ _ us hl => match us, hl with | [_], _ => rfl)
  have d_is_value : CalM (PySem.Challenge.rw_nullfilters_k17_whole_sets).prog w K mg base [((He.cT K ("law", none)).2, lawQ)] 2 "is_value" 1 S_is_value := cal_of (ok_is_value F_is_value bn d_is_whole g_GREATEST) gl_is_value F_is_value.kp (F_is_value.binds fun _ _ _ _ _ _ us hl => match us, hl with | [_], _ => rfl)
  have d_need_row : CalM (PySem.Challenge.rw_nullfilters_k17_whole_sets).prog w K mg base [((He.cT K ("law", none)).2, lawQ)] 3 "need_row" 2 (S_need_row (He.ga K "InvalidRow")) := cal_of (ok_need_row F_need_row bn d_is_value x_InvalidRow) gl_need_row F_need_row.kp (F_need_row.binds fun _ _ _ _ _ _ us hl => match us, hl with | [_, _], _ => rfl)
  have d_need_table : CalM (PySem.Challenge.rw_nullfilters_k17_whole_sets).prog w K mg base [((He.cT K ("law", none)).2, lawQ)] 4 "need_table" 2 (S_need_table (He.ga K "InvalidTable")) := cal_of (ok_need_table F_need_table bn d_need_row x_InvalidTable x_InvalidRow) gl_need_table F_need_table.kp (F_need_table.binds fun _ _ _ _ _ _ us hl => match us, hl with | [_, _], _ => rfl)
  have d_unlike : CalM (PySem.Challenge.rw_nullfilters_k17_whole_sets).prog w K mg base [((He.cT K ("law", none)).2, lawQ)] 1 "unlike" 1 S_unlike := cal_of (ok_unlike F_unlike bn ) gl_unlike F_unlike.kp (F_unlike.binds fun _ _ _ _ _ _ us hl => match us, hl with | [_], _ => rfl)
  have d_distinct : CalM (PySem.Challenge.rw_nullfilters_k17_whole_sets).prog w K mg base [((He.cT K ("law", none)).2, lawQ)] 5 "distinct" 2 (S_distinct (He.ga K "InvalidWidth") (He.ga K "InvalidTable")) := cal_of (ok_distinct F_distinct bn d_need_width d_need_table d_unlike) gl_distinct F_distinct.kp (F_distinct.binds fun _ _ _ _ _ _ us hl => match us, hl with | [_, _], _ => rfl)
  have d_need_two : CalM (PySem.Challenge.rw_nullfilters_k17_whole_sets).prog w K mg base [((He.cT K ("law", none)).2, lawQ)] 5 "need_two" 3 (S_need_two (He.ga K "InvalidWidth") (He.ga K "InvalidTable")) := cal_of (ok_need_two F_need_two bn d_need_width d_need_table) gl_need_two F_need_two.kp (F_need_two.binds fun _ _ _ _ _ _ us hl => match us, hl with | [_, _, _], _ => rfl)
  have d_union : CalM (PySem.Challenge.rw_nullfilters_k17_whole_sets).prog w K mg base [((He.cT K ("law", none)).2, lawQ)] 6 "union" 3 (S_union (He.ga K "InvalidWidth") (He.ga K "InvalidTable")) := cal_of (ok_union F_union bn d_need_two d_unlike) gl_union F_union.kp (F_union.binds fun _ _ _ _ _ _ us hl => match us, hl with | [_, _, _], _ => rfl)
  have d_intersection : CalM (PySem.Challenge.rw_nullfilters_k17_whole_sets).prog w K mg base [((He.cT K ("law", none)).2, lawQ)] 6 "intersection" 3 (S_intersection (He.ga K "InvalidWidth") (He.ga K "InvalidTable")) := cal_of (ok_intersection F_intersection bn d_need_two d_unlike) gl_intersection F_intersection.kp (F_intersection.binds fun _ _ _ _ _ _ us hl => match us, hl with | [_, _, _], _ => rfl)
  have d_difference : CalM (PySem.Challenge.rw_nullfilters_k17_whole_sets).prog w K mg base [((He.cT K ("law", none)).2, lawQ)] 6 "difference" 3 (S_difference (He.ga K "InvalidWidth") (He.ga K "InvalidTable")) := cal_of (ok_difference F_difference bn d_need_two d_unlike) gl_difference F_difference.kp (F_difference.binds fun _ _ _ _ _ _ us hl => match us, hl with | [_, _, _], _ => rfl)
  have d__law_cell : CalM (PySem.Challenge.rw_nullfilters_k17_whole_sets).prog w K mg base [((He.cT K ("law", none)).2, lawQ)] 1 "_law_cell" 2 S__law_cell := cal_of (ok__law_cell F__law_cell bn ) gl__law_cell F__law_cell.kp (F__law_cell.binds fun _ _ _ _ _ _ us hl => match us, hl with | [_, _], _ => rfl)
  have d__law_drawn : CalM (PySem.Challenge.rw_nullfilters_k17_whole_sets).prog w K mg base [((He.cT K ("law", none)).2, lawQ)] 1 "_law_drawn" 2 S__law_drawn := cal_of (ok__law_drawn F__law_drawn bn ) gl__law_drawn F__law_drawn.kp (F__law_drawn.binds fun _ _ _ _ _ _ us hl => match us, hl with | [_, _], _ => rfl)
  have d__law_roll : CalM (PySem.Challenge.rw_nullfilters_k17_whole_sets).prog w K mg base [((He.cT K ("law", none)).2, lawQ)] 2 "_law_roll" 2 S__law_roll := cal_of (ok__law_roll F__law_roll bn d__law_drawn) gl__law_roll F__law_roll.kp (F__law_roll.binds fun _ _ _ _ _ _ us hl => match us, hl with | [_, _], _ => rfl)
  have d__law_rounds : CalM (PySem.Challenge.rw_nullfilters_k17_whole_sets).prog w K mg base [((He.cT K ("law", none)).2, lawQ)] 2 "_law_rounds" 2 S__law_rounds := cal_of (ok__law_rounds F__law_rounds bn d__law_cell) gl__law_rounds F__law_rounds.kp (F__law_rounds.binds fun _ _ _ _ _ _ us hl => match us, hl with | [_, _], _ => rfl)
  have d__law_any_table : CalM (PySem.Challenge.rw_nullfilters_k17_whole_sets).prog w K mg base [((He.cT K ("law", none)).2, lawQ)] 3 "_law_any_table" 2 S__law_any_table := cal_of (ok__law_any_table F__law_any_table bn d__law_roll) gl__law_any_table F__law_any_table.kp (F__law_any_table.binds fun _ _ _ _ _ _ us hl => match us, hl with | [_, _], _ => rfl)
  have d__law_unlike : CalM (PySem.Challenge.rw_nullfilters_k17_whole_sets).prog w K mg base [((He.cT K ("law", none)).2, lawQ)] 1 "_law_unlike" 1 S__law_unlike := cal_of (ok__law_unlike F__law_unlike bn ) gl__law_unlike F__law_unlike.kp (F__law_unlike.binds fun _ _ _ _ _ _ us hl => match us, hl with | [_], _ => rfl)
  have hx := c.more
  have tm := ok__law_term (P := (PySem.Challenge.rw_nullfilters_k17_whole_sets).prog) (w := w) (base := base) (T := [((He.cT K ("law", none)).2, lawQ)]) (FE := He.ga K "FilterError") F__law_term bn g_InvalidWidth g_InvalidPredicate g_InvalidRow g_InvalidTable g_InvalidColumn g_InvalidPath g_InvalidRule g_NotPlain g_Rejected g_NothingToUndo g_InvalidText
  have told := told_mk F__law_told gl__law_told (F__law_told.binds fun _ _ _ _ _ _ us hl => match us, hl with | [_], _ => rfl) tm gl__law_term F__law_term.kp (F__law_term.binds fun _ _ _ _ _ _ us hl => match us, hl with | [_], _ => rfl) (He.glo_ok X G (c.t.d.fact 42 (f := .glo "FilterError") rfl)) (fun C nm ⟨j, tc, _, h⟩ => h)
  have nm_InvalidWidth : NMof K (errNames.map (He.ga K)) (He.ga K "FilterError") (He.ga K "InvalidWidth") "InvalidWidth" := nm_of hx 0 (by decide) (He.exm_ok (c.t.d.fact 43 (f := .exm "InvalidWidth" "FilterError" true) rfl))
  have nm_InvalidPredicate : NMof K (errNames.map (He.ga K)) (He.ga K "FilterError") (He.ga K "InvalidPredicate") "InvalidPredicate" := nm_of hx 1 (by decide) (He.exm_ok (c.t.d.fact 44 (f := .exm "InvalidPredicate" "FilterError" true) rfl))
  have nm_InvalidRow : NMof K (errNames.map (He.ga K)) (He.ga K "FilterError") (He.ga K "InvalidRow") "InvalidRow" := nm_of hx 2 (by decide) (He.exm_ok (c.t.d.fact 45 (f := .exm "InvalidRow" "FilterError" true) rfl))
  have nm_InvalidTable : NMof K (errNames.map (He.ga K)) (He.ga K "FilterError") (He.ga K "InvalidTable") "InvalidTable" := nm_of hx 3 (by decide) (He.exm_ok (c.t.d.fact 46 (f := .exm "InvalidTable" "FilterError" true) rfl))
  have nm_InvalidColumn : NMof K (errNames.map (He.ga K)) (He.ga K "FilterError") (He.ga K "InvalidColumn") "InvalidColumn" := nm_of hx 4 (by decide) (He.exm_ok (c.t.d.fact 47 (f := .exm "InvalidColumn" "FilterError" true) rfl))
  have nm_InvalidPath : NMof K (errNames.map (He.ga K)) (He.ga K "FilterError") (He.ga K "InvalidPath") "InvalidPath" := nm_of hx 5 (by decide) (He.exm_ok (c.t.d.fact 48 (f := .exm "InvalidPath" "FilterError" true) rfl))
  have nm_InvalidRule : NMof K (errNames.map (He.ga K)) (He.ga K "FilterError") (He.ga K "InvalidRule") "InvalidRule" := nm_of hx 6 (by decide) (He.exm_ok (c.t.d.fact 49 (f := .exm "InvalidRule" "FilterError" true) rfl))
  have nm_NotPlain : NMof K (errNames.map (He.ga K)) (He.ga K "FilterError") (He.ga K "NotPlain") "NotPlain" := nm_of hx 7 (by decide) (He.exm_ok (c.t.d.fact 50 (f := .exm "NotPlain" "FilterError" true) rfl))
  have nm_Rejected : NMof K (errNames.map (He.ga K)) (He.ga K "FilterError") (He.ga K "Rejected") "Rejected" := nm_of hx 8 (by decide) (He.exm_ok (c.t.d.fact 51 (f := .exm "Rejected" "FilterError" true) rfl))
  have nm_NothingToUndo : NMof K (errNames.map (He.ga K)) (He.ga K "FilterError") (He.ga K "NothingToUndo") "NothingToUndo" := nm_of hx 9 (by decide) (He.exm_ok (c.t.d.fact 52 (f := .exm "NothingToUndo" "FilterError" true) rfl))
  have nm_InvalidText : NMof K (errNames.map (He.ga K)) (He.ga K "FilterError") (He.ga K "InvalidText") "InvalidText" := nm_of hx 10 (by decide) (He.exm_ok (c.t.d.fact 53 (f := .exm "InvalidText" "FilterError" true) rfl))
  exact ok_law F_law bn d__law_rounds d_difference d__law_roll d__law_any_table d_union d_intersection d__law_unlike d_distinct told (TB (He.cT K ("law", none)) (List.mem_singleton.mpr rfl)) hcode (List.mem_singleton.mpr rfl) (fun p hp _ => by obtain rfl := List.mem_singleton.mp hp; rfl) nm_InvalidTable nm_InvalidWidth
/-! ### the head -/
def hob (s : PySem.W.SharedT) : He.AlX := He.obsX 3 hfa hfn [] [("law", none)] hex (HandSHeadRun.getT s)
abbrev hhk : PySem.W.Hook := He.hookX 3 hfa hfn [] [("law", none)] hex
theorem hob_eq (s : PySem.W.SharedT) : hob s = hhk.obs s.abs := He.obsX_eq (HandSHeadRun.getT_eq s)
abbrev R0 : PySem.W.OpenRow := PySem.W.OpenLaw.row PySem.Challenge.rw_nullfilters_k17_whole_sets
def loose0 : List Str := ["__name__", "FilterError", "InvalidWidth", "InvalidPredicate", "InvalidRow", "InvalidTable", "InvalidColumn", "InvalidPath", "InvalidRule", "NotPlain", "Rejected", "NothingToUndo"]
def loose1 : List Str := ["InvalidText", "GREATEST", "is_whole", "need_width", "is_value", "need_row", "need_table", "unlike", "distinct", "need_two", "union", "intersection"]
def loose2 : List Str := ["difference", "_law_cell", "_law_drawn", "_law_roll", "_law_rounds", "_law_term", "_law_told", "_law_any_table", "_law_unlike"]
def loose : List Str := loose0 ++ loose1 ++ loose2
abbrev qv : Program := PySem.W.view R0.prog [36]
theorem hrun (w : World) : HandSHeadRun.RunEq R0 qv hhk hob 4000 loose w := by
  intro os
  kernel_rfl
end PL
open PySem PySem.W PySem.Calls PyProof.Rows
theorem PySem.Challenge.cw_nullfilters_k17_whole_sets_holds : PySem.Challenge.rw_nullfilters_k17_whole_sets.Holds := by
  w_on; o_law
  refine HandSHeadRun.head_any (r := OpenLaw.row PySem.Challenge.rw_nullfilters_k17_whole_sets) (q := PL.qv) (H := PL.hhk) (ob := PL.hob) (M := 4000) (loose := PL.loose) (d := HandSHeadRun.topDef (OpenLaw.row PySem.Challenge.rw_nullfilters_k17_whole_sets).prog 36) (kwd := []) PL.hob_eq
    (by kernel_rfl) (fun s => by kernel_rfl) PL.hrun (by kernel_rfl) (by kernel_rfl) (by kernel_rfl) (by rfl) (by first | assumption | decide +kernel) (by decide +kernel) ⟨rfl, rfl, rfl, rfl, rfl, by decide +kernel⟩ ?hw ?hc
  case hw => w_witness2
  case hc =>
    refine LamX.walk_ofTsE (l := PySem.Challenge.rw_nullfilters_k17_whole_sets) (n := 63) (k := 9) (x := "_law_script") (CX := fun w => L2N.CX (PySem.Challenge.rw_nullfilters_k17_whole_sets).prog w) rfl (by decide) (by kernel_rfl) ⟨rfl, by decide, by decide⟩ ?F (fun w H s e s' z => PL.cxF z)
    intro w mg fa h Y G hmg0
    obtain ⟨K, KX, c⟩ := Y
    have hmg : mg ("law" : PySem.Str) = some (.ref fa) := by
      have e : (HandSHeadRun.topDef (OpenLaw.row PySem.Challenge.rw_nullfilters_k17_whole_sets).prog 36).name = ("law" : PySem.Str) := by kernel_rfl
      rw [← e]
      exact hmg0
    exact ⟨K, KX, PL.law_at KX G hmg c⟩


