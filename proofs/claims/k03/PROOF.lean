import PyProof.Rows.All
import Wide.All
import OpenK.AllK
import Wide.FinOn
import HandS.ForMost
import HandS.ForExc
import HandS.Flow
import HandS.IsInst
import HandS.Wide
import HandS.Walk
import HandS.Conv
import HandS.TupAny
import HandS.TupMul
import HandS.Deep
import HandS.Style
import KE.GoesEnum
import HandS.ExcOwn
import KE.GoesNew
import KE.GoesEnumKw
import HandS.Zip
import KE.DataIsa
import KE.DataEq
import HandS.TupLe
import KE.KTupSum
import PyProof.ReprRoads
import HandS.ExcInit
import HandS.ExcField
import HandS.WordsExc
import KE.KeyNested
import HandS.TupSets
import HandS.WordsDict
import PySem.Challenge.RW_enoughheard_k03_crowds
set_option Elab.async false
set_option linter.all false
set_option maxRecDepth 100000
set_option maxHeartbeats 4000000
/-! PDCore: what a state means in plain data; the readings of expressions, tests, arguments, statements. -/
namespace PD
open PySem PySem.Spec PyProof.Rows L2

/-! ### data over the heap -/
mutual
/-- the value v stands for the datum d in H -/
inductive DV (K : PySem.W.Frag) (H : Hp) : V → PyData → Prop
  | non : DV K H .non .none
  | bl (c : Bool) : DV K H (.bl c) (.bool c)
  | int (n : Int) : DV K H (.int n) (.int n)
  | str (z : Str) : DV K H (.str z) (.str z)
  | lst {p : Addr} {vs : List V} {es : List PyData} : SqL K H p vs → DVs K H vs es → DV K H (.ref p) (.list es)
  | tup {p : Addr} {vs : List V} {es : List PyData} : SqT K H p vs → DVs K H vs es → DV K H (.ref p) (.tuple es)
  | dct {p : Addr} : H p = some (.dK []) → DV K H (.ref p) (.dict [])
inductive DVs (K : PySem.W.Frag) (H : Hp) : List V → List PyData → Prop
  | nil : DVs K H [] []
  | cons {x : V} {xs : List V} {e : PyData} {es : List PyData} : DV K H x e → DVs K H xs es → DVs K H (x :: xs) (e :: es)
end
theorem seqT_mono {K : PySem.W.Frag} {H H' : Hp} {p : Addr} {vs : List V} (e : Same H H') (h : SqT K H p vs) : SqT K H' p vs := by
  rcases h with (h | ⟨o, h⟩) | h
  · exact .inl (.inl (e _ _ h))
  · exact .inl (.inr ⟨o, e _ _ h⟩)
  · exact .inr h
mutual
theorem DV.mono {K : PySem.W.Frag} {H H' : Hp} (e : Same H H') : ∀ {v : V} {d : PyData}, DV K H v d → DV K H' v d
  | _, _, .non => .non
  | _, _, .bl c => .bl c
  | _, _, .int n => .int n
  | _, _, .str z => .str z
  | _, _, .lst h q => .lst (e.seq h) (DVs.mono e q)
  | _, _, .tup h q => .tup (seqT_mono e h) (DVs.mono e q)
  | _, _, .dct h => .dct (e _ _ h)
theorem DVs.mono {K : PySem.W.Frag} {H H' : Hp} (e : Same H H') : ∀ {vs : List V} {ds : List PyData}, DVs K H vs ds → DVs K H' vs ds
  | _, _, .nil => .nil
  | _, _, .cons h q => .cons (DV.mono e h) (DVs.mono e q)
end
theorem DVs.len {K : PySem.W.Frag} {H : Hp} : ∀ {vs : List V} {ds : List PyData}, DVs K H vs ds → vs.length = ds.length
  | _, _, .nil => rfl
  | _, _, .cons _ q => by rw [List.length_cons, List.length_cons, DVs.len q]
theorem DVs.app {K : PySem.W.Frag} {H : Hp} : ∀ {vs ws : List V} {ds es : List PyData}, DVs K H vs ds → DVs K H ws es → DVs K H (vs ++ ws) (ds ++ es)
  | _, _, _, _, .nil, r => r
  | _, _, _, _, .cons h q, r => .cons h (DVs.app q r)
theorem DVs.at {K : PySem.W.Frag} {H : Hp} : ∀ {vs : List V} {ds : List PyData} {i : Nat} {d : PyData}, DVs K H vs ds → ds[i]? = some d → ∃ v, vs[i]? = some v ∧ DV K H v d
  | _, _, _, _, .nil, e => by simp at e
  | _, _, 0, _, .cons h _, e => by simp at e; subst e; exact ⟨_, rfl, h⟩
  | _, _, i + 1, d, .cons _ q, e => by
    obtain ⟨v, h1, h2⟩ := DVs.at (i := i) (d := d) q (by simpa using e)
    exact ⟨v, by simpa using h1, h2⟩
theorem DVs.at' {K : PySem.W.Frag} {H : Hp} : ∀ {vs : List V} {ds : List PyData} {i : Nat} {v : V}, DVs K H vs ds → vs[i]? = some v → ∃ d, ds[i]? = some d ∧ DV K H v d
  | _, _, _, _, .nil, e => by simp at e
  | _, _, 0, _, .cons h _, e => by simp at e; subst e; exact ⟨_, rfl, h⟩
  | _, _, i + 1, v, .cons _ q, e => by
    obtain ⟨d, h1, h2⟩ := DVs.at' (i := i) (v := v) q (by simpa using e)
    exact ⟨d, by simpa using h1, h2⟩
theorem DVs.set {K : PySem.W.Frag} {H : Hp} {x : V} {d : PyData} (h : DV K H x d) : ∀ {vs : List V} {ds : List PyData} (i : Nat), DVs K H vs ds → DVs K H (vs.set i x) (ds.set i d)
  | _, _, _, .nil => .nil
  | _, _, 0, .cons _ q => .cons h q
  | _, _, i + 1, .cons r q => .cons r (DVs.set h i q)
theorem DVs.take {K : PySem.W.Frag} {H : Hp} : ∀ {vs : List V} {ds : List PyData} (n : Nat), DVs K H vs ds → DVs K H (vs.take n) (ds.take n)
  | _, _, 0, _ => .nil
  | _, _, _ + 1, .nil => .nil
  | _, _, n + 1, .cons h q => .cons h (DVs.take n q)
theorem DVs.drop {K : PySem.W.Frag} {H : Hp} : ∀ {vs : List V} {ds : List PyData} (n : Nat), DVs K H vs ds → DVs K H (vs.drop n) (ds.drop n)
  | _, _, 0, q => q
  | _, _, _ + 1, .nil => .nil
  | _, _, n + 1, .cons _ q => DVs.drop n q
theorem DVs.rev {K : PySem.W.Frag} {H : Hp} : ∀ {vs : List V} {ds : List PyData}, DVs K H vs ds → DVs K H vs.reverse ds.reverse
  | _, _, .nil => .nil
  | _, _, .cons h q => by rw [List.reverse_cons, List.reverse_cons]; exact DVs.app (DVs.rev q) (.cons h .nil)
theorem DVs.ints {K : PySem.W.Frag} {H : Hp} : ∀ {vs : List V} {ns : List Int}, DVs K H vs (ns.map PyData.int) → vs = ns.map V.int
  | _, [], h => by cases h; rfl
  | _, n :: ns, h => by
    rw [List.map_cons] at h
    cases h with
    | cons h q => cases h; rw [DVs.ints q]; rfl
theorem DVs.bools {K : PySem.W.Frag} {H : Hp} : ∀ {vs : List V} {ns : List Bool}, DVs K H vs (ns.map PyData.bool) → vs = ns.map V.bl
  | _, [], h => by cases h; rfl
  | _, n :: ns, h => by
    rw [List.map_cons] at h
    cases h with
    | cons h q => cases h; rw [DVs.bools q]; rfl
theorem DVs.of_ints {K : PySem.W.Frag} {H : Hp} : ∀ (ns : List Int), DVs K H (ns.map V.int) (ns.map PyData.int)
  | [] => .nil
  | n :: ns => .cons (.int n) (DVs.of_ints ns)
section
variable {X : Cx} {pins : List (Addr × Obj)} {σ : L2.St} {H : Hp} {s : Shared}
mutual
theorem DV.reads (I : Inv X pins σ H s) : ∀ {d : PyData} {v : V} {u : Value}, DV X.K H v d → RelV v u → ∃ as, Reads s.heap u d as
  | _, _, _, .non, r => by cases r; exact ⟨_, Reads.none⟩
  | _, _, _, .bl c, r => by cases r; exact ⟨_, Reads.bool c⟩
  | _, _, _, .int n, r => by obtain ⟨t, rfl⟩ := r; exact ⟨_, Reads.int n t⟩
  | _, _, _, .str z, r => by obtain ⟨t, rfl⟩ := r; exact ⟨_, Reads.str z t⟩
  | _, _, _, .lst hs ha, r => by
    cases r
    obtain ⟨its, rv, ⟨o, n, ho, hc, _, hd⟩, _⟩ := I.list hs
    obtain ⟨as, hr⟩ := DVs.reads I ha rv
    exact ⟨_, Reads.list ho hc hd hr⟩
  | _, _, _, .tup hs ha, r => by
    cases r
    obtain ⟨its, rv, ⟨o, ho, hc, n, hd⟩, _⟩ := I.tuple hs
    obtain ⟨as, hr⟩ := DVs.reads I ha rv
    exact ⟨_, Reads.tuple ho hc hd hr⟩
  | _, _, _, .dct h, r => by
    cases r
    obtain ⟨_, _, vs, kv, o, es, ep, ho, hx, hd, _, hl, _⟩ := I.hok _ _ h
    cases kv
    have e0 : es.toList = [] := by
      generalize es.toList = l at hl
      cases hl
      rfl
    have r0 : ∀ l : List Value, l = [] → ReadsAll s.heap l [] [] := fun l e => by subst e; exact ReadsAll.nil
    exact ⟨_, Reads.dict (o := o) (es := es) (n := ep) (kvs := []) ho hx.1 hd (r0 _ (by rw [e0]; rfl)) (r0 _ (by rw [e0]; rfl))⟩
theorem DVs.reads (I : Inv X pins σ H s) : ∀ {ds : List PyData} {vs : List V} {us : List Value}, DVs X.K H vs ds → Vals vs us → ∃ as, ReadsAll s.heap us ds as
  | _, _, _, .nil, r => by cases r; exact ⟨_, ReadsAll.nil⟩
  | _, _, _, .cons h1 h2, r => by
    cases r with
    | cons r1 r2 =>
      obtain ⟨as, q1⟩ := DV.reads I h1 r1
      obtain ⟨bs, q2⟩ := DVs.reads I h2 r2
      exact ⟨_, ReadsAll.cons q1 q2⟩
end
end

/-! ### slots, values, outcomes -/
/-- a slot: nothing known; frozen data; a list of its own (p: it belongs to the caller) -/
inductive Sl where
  | u
  | d (x : PyData)
  | l (p : Bool) (xs : List PyData)
abbrev PEn := List Sl
/-- an expression's value: frozen data; a new list; what slot i holds -/
inductive Val where
  | v (d : PyData)
  | n (xs : List PyData)
  | b (i : Nat)
/-- an exception: its class's name, its fields -/
structure Ex where
  cls : String
  flds : List (Str × PyData)
inductive Out (α : Type) where
  | bad
  | ok (a : α) (r : PEn)
  | exc (e : Ex) (r : PEn)
def Out.bind {α β : Type} (o : Out α) (k : α → PEn → Out β) : Out β := match o with
  | .bad => .bad
  | .ok a r => k a r
  | .exc e r => .exc e r

structure Rel (K : PySem.W.Frag) (F : Hp) (r : PEn) (σ : L2.St) (H : Hp) : Prop where
  len : σ.length = r.length
  sub : Same F H
  dat : ∀ (i : Nat) (d : PyData), r[i]? = some (.d d) → ∃ v, σ[i]? = some (some v) ∧ DV K F v d
  lst : ∀ (i : Nat) (p : Bool) (xs : List PyData), r[i]? = some (.l p xs) → ∃ a vs, σ[i]? = some (some (.ref a)) ∧ F a = none ∧ H a = some (.lst vs) ∧ DVs K F vs xs
  inj : ∀ (i j : Nat) (p q : Bool) (xs ys : List PyData) (a : Addr), r[i]? = some (.l p xs) → r[j]? = some (.l q ys) → σ[i]? = some (some (.ref a)) → σ[j]? = some (some (.ref a)) → i = j
/-- b is a slot's own list -/
def Ow (r : PEn) (σ : L2.St) (b : Addr) : Prop := ∃ (i : Nat) (p : Bool) (xs : List PyData), r[i]? = some (.l p xs) ∧ σ[i]? = some (some (.ref b))
/-- what an expression may do -/
structure Stp (r : PEn) (σ : L2.St) (F H : Hp) (r' : PEn) (F' H' : Hp) : Prop where
  ff : Same F F'
  fn : ∀ b, F b = none → H b ≠ none → ¬ Ow r σ b → F' b = none
  kp : ∀ b o, H b = some o → ¬ Ow r σ b → H' b = some o
  th : ∀ b, H b ≠ none → H' b ≠ none
  ln : r'.length = r.length
  ow : ∀ (i : Nat) (p : Bool) (xs : List PyData), r'[i]? = some (.l p xs) → ∃ ys : List PyData, r[i]? = some (.l p ys)
  pin : ∀ (i : Nat) (xs : List PyData), r[i]? = some (.l true xs) → ∃ ys : List PyData, r'[i]? = some (.l true ys)
  dk : ∀ (i : Nat) (d : PyData), r[i]? = some (.d d) → r'[i]? = some (.d d)
  lk : ∀ (i : Nat) (xs : List PyData), r[i]? = some (.l false xs) → (∃ ys : List PyData, r'[i]? = some (.l false ys)) ∨ ∃ ys : List PyData, r'[i]? = some (.d (.list ys))
section
variable {K : PySem.W.Frag} {F F' F1 H H' H1 H0 : Hp} {r r' r1 : PEn} {σ : L2.St}
theorem Stp.refl : Stp r σ F H r F H := ⟨fun _ _ e => e, fun _ e _ _ => e, fun _ _ e _ => e, fun _ e => e, rfl, fun _ _ xs e => ⟨xs, e⟩, fun _ xs e => ⟨xs, e⟩, fun _ _ e => e, fun _ xs e => .inl ⟨xs, e⟩⟩
theorem Ow.back (s : Stp r σ F H r' F' H') {b : Addr} (o : Ow r' σ b) : Ow r σ b := by
  obtain ⟨i, p, xs, e1, e2⟩ := o
  obtain ⟨ys, e3⟩ := s.ow i p xs e1
  exact ⟨i, p, ys, e3, e2⟩
theorem Stp.trans (s : Stp r σ F H r1 F1 H1) (t : Stp r1 σ F1 H1 r' F' H') : Stp r σ F H r' F' H' where
  ff := s.ff.trans t.ff
  fn := fun b e n o => t.fn b (s.fn b e n o) (s.th b n) fun z => o (z.back s)
  kp := fun b x e o => t.kp b x (s.kp b x e o) fun z => o (z.back s)
  th := fun b n => t.th b (s.th b n)
  ln := t.ln.trans s.ln
  ow := fun i p xs e => by
    obtain ⟨ys, e1⟩ := t.ow i p xs e
    exact s.ow i p ys e1
  pin := fun i xs e => by
    obtain ⟨ys, e1⟩ := s.pin i xs e
    exact t.pin i ys e1
  dk := fun i d e => t.dk i d (s.dk i d e)
  lk := fun i xs e => by
    rcases s.lk i xs e with ⟨ys, e1⟩ | ⟨ys, e1⟩
    · exact t.lk i ys e1
    · exact .inr ⟨ys, t.dk i _ e1⟩
/-- a value of an expression that began at H0 -/
def RV (K : PySem.W.Frag) (r : PEn) (σ : L2.St) (H0 F H : Hp) (x : V) : Val → Prop
  | .v d => DV K F x d
  | .n xs => ∃ a vs, x = .ref a ∧ H0 a = none ∧ F a = none ∧ ¬ Ow r σ a ∧ H a = some (.lst vs) ∧ DVs K F vs xs
  | .b i => σ[i]? = some (some x) ∧ ((∃ d : PyData, r[i]? = some (.d d)) ∨ ∃ (p : Bool) (xs : List PyData), r[i]? = some (.l p xs))
theorem RV.step {x : V} : ∀ {v : Val}, RV K r σ H0 F H x v → Stp r σ F H r' F' H' → RV K r' σ H0 F' H' x v
  | .v d, h, s => DV.mono s.ff h
  | .n xs, ⟨a, vs, e, h0, f, o, h, q⟩, s => ⟨a, vs, e, h0, s.fn a f (by rw [h]; simp) o, fun z => o (z.back s), s.kp a _ h o, DVs.mono s.ff q⟩
  | .b i, ⟨e, h⟩, s => by
    refine ⟨e, ?_⟩
    rcases h with ⟨d, h⟩ | ⟨p, xs, h⟩
    · exact .inl ⟨d, s.dk i d h⟩
    · cases p with
      | true =>
        obtain ⟨ys, h1⟩ := s.pin i xs h
        exact .inr ⟨_, ys, h1⟩
      | false =>
        rcases s.lk i xs h with ⟨ys, h1⟩ | ⟨ys, h1⟩
        · exact .inr ⟨_, ys, h1⟩
        · exact .inl ⟨_, h1⟩
theorem RV.base {x : V} : ∀ {v : Val}, RV K r σ H1 F H x v → (∀ b, H0 b ≠ none → H1 b ≠ none) → RV K r σ H0 F H x v
  | .v d, h, _ => h
  | .n xs, ⟨a, vs, e, h0, f, o, h, q⟩, s => ⟨a, vs, e, by
      cases z : H0 a with
      | none => rfl
      | some w => exact absurd h0 (s a (by rw [z]; simp)), f, o, h, q⟩
  | .b i, h, _ => h
/-- a datum that may be read now -/
inductive DW (K : PySem.W.Frag) (F H : Hp) : V → PyData → Prop
  | fr {x : V} {d : PyData} : DV K F x d → DW K F H x d
  | br {a : Addr} {vs : List V} {xs : List PyData} : H a = some (.lst vs) → DVs K F vs xs → DW K F H (.ref a) (.list xs)
theorem DW.dv {x : V} {d : PyData} (e : Same F H) (h : DW K F H x d) : DV K H x d := by
  cases h with
  | fr h => exact DV.mono e h
  | br h q => exact .lst (.inl (.inl h)) (DVs.mono e q)
theorem DW.list {x : V} {es : List PyData} (e : Same F H) (h : DW K F H x (.list es)) : ∃ a vs, x = .ref a ∧ SqL K H a vs ∧ DVs K F vs es := by
  cases h with
  | fr h =>
    cases h with
    | lst h q => exact ⟨_, _, rfl, e.seq h, q⟩
  | br h q => exact ⟨_, _, rfl, .inl (.inl h), q⟩
theorem DW.tup {x : V} {es : List PyData} (e : Same F H) (h : DW K F H x (.tuple es)) : ∃ a vs, x = .ref a ∧ SqT K H a vs ∧ SqT K F a vs ∧ DVs K F vs es := by
  cases h with
  | fr h =>
    cases h with
    | tup h q => exact ⟨_, _, rfl, seqT_mono e h, h, q⟩
theorem DW.step {x : V} {d : PyData} (f : Same F F') (g : Same H H') (h : DW K F H x d) : DW K F' H' x d := by
  cases h with
  | fr h => exact .fr (DV.mono f h)
  | br h q => exact .br (g _ _ h) (DVs.mono f q)
/-- what a value is now, as a datum -/
def Val.rd (r : PEn) : Val → Option PyData
  | .v d => some d
  | .n xs => some (.list xs)
  | .b i => match r[i]? with
    | some (.d d) => some d
    | some (.l _ xs) => some (.list xs)
    | _ => none
theorem RV.rd {x : V} {v : Val} {d : PyData} (R : Rel K F r σ H) (h : RV K r σ H0 F H x v) (e : v.rd r = some d) : DW K F H x d := by
  cases v with
  | v d' => simp only [Val.rd, Option.some.injEq] at e; subst e; exact .fr h
  | n xs =>
    simp only [Val.rd, Option.some.injEq] at e
    subst e
    obtain ⟨a, vs, rfl, _, _, _, h1, q⟩ := h
    exact .br h1 q
  | b i =>
    obtain ⟨e1, h⟩ := h
    simp only [Val.rd] at e
    rcases h with ⟨d', h⟩ | ⟨p, xs, h⟩
    · rw [h] at e
      simp only [Option.some.injEq] at e
      subst e
      obtain ⟨v, e2, q⟩ := R.dat i _ h
      rw [e1] at e2
      cases e2
      exact .fr q
    · rw [h] at e
      simp only [Option.some.injEq] at e
      subst e
      obtain ⟨a, vs, e2, _, h1, q⟩ := R.lst i p xs h
      rw [e1] at e2
      cases e2
      exact .br h1 q
end

/-! ### outcomes and what is wanted of them -/
/-- the exception e stands as class c and its own dict d -/
def XV (K : PySem.W.Frag) (mg : Str → Option Value) (F H : Hp) (e : Ex) (c : Value) (d : Option Addr) : Prop :=
  mg (Str.ofString e.cls) = some c ∧ ∃ a fs, d = some a ∧ H a = some (.xd fs) ∧ F a = none ∧ fs.length = e.flds.length ∧ ∀ f x, e.flds.lookup f = some x → ∃ v, fs.lookup f = some v ∧ DV K F v x
/-- what is wanted of an outcome at the slots σ -/
def Post (K : PySem.W.Frag) (mg : Str → Option Value) (W : WX) {α : Type} (r : PEn) (σ : L2.St) (F H : Hp) (o : Out α) (q : α → PEn → Hp → Hp → Prop) : Prop := match o with
  | .bad => False
  | .ok a r' => ∀ F' H', Rel K F' r' σ H' → Stp r σ F H r' F' H' → q a r' F' H'
  | .exc e r' => ∀ c d F' H', Rel K F' r' σ H' → Stp r σ F H r' F' H' → XV K mg F' H' e c d → W c d σ H'
section
variable {K : PySem.W.Frag} {mg : Str → Option Value} {W : WX} {α β : Type} {r : PEn} {σ : L2.St} {F H : Hp} {o : Out α} {q : α → PEn → Hp → Hp → Prop}
theorem Post.imp {q' : α → PEn → Hp → Hp → Prop} (h : Post K mg W r σ F H o q) (f : ∀ a r' F' H', Rel K F' r' σ H' → Stp r σ F H r' F' H' → q a r' F' H' → q' a r' F' H') : Post K mg W r σ F H o q' := by
  cases o with
  | bad => exact h
  | ok a r' => exact fun F' H' R S => f a r' F' H' R S (h F' H' R S)
  | exc e r' => exact h
theorem Post.bind {k : α → PEn → Out β} {q : β → PEn → Hp → Hp → Prop} (h : Post K mg W r σ F H (o.bind k) q) : Post K mg W r σ F H o fun a r1 F1 H1 => Post K mg W r1 σ F1 H1 (k a r1) q := by
  cases o with
  | bad => exact h
  | exc e r' => exact h
  | ok a r1 =>
    intro F1 H1 R1 S1
    have h : Post K mg W r σ F H (k a r1) q := h
    cases z : k a r1 with
    | bad => rw [z] at h; exact h
    | ok b r2 => rw [z] at h; exact fun F2 H2 R2 S2 => h F2 H2 R2 (S1.trans S2)
    | exc e r2 => rw [z] at h; exact fun c d F2 H2 R2 S2 => h c d F2 H2 R2 (S1.trans S2)
end
/-- the readings -/
def rdE (K : PySem.W.Frag) (mg : Str → Option Value) (W : WX) (f : PEn → Out Val) : TE := fun σ H Q => ∃ F r, Rel K F r σ H ∧ Post K mg W r σ F H (f r) fun v r' F' H' => ∀ x, RV K r' σ H F' H' x v → Q x H'
def rdT (K : PySem.W.Frag) (mg : Str → Option Value) (W : WX) (f : PEn → Out Bool) : TT := fun σ H Q => ∃ F r, Rel K F r σ H ∧ Post K mg W r σ F H (f r) fun c _ _ H' => Q c H'
/-- new lists stand apart -/
def NDl : List V → List Val → Prop
  | x :: xs, .n _ :: vs => (∀ (j : Nat) (ws : List PyData), vs[j]? = some (.n ws) → xs[j]? ≠ some x) ∧ NDl xs vs
  | _ :: xs, _ :: vs => NDl xs vs
  | _, _ => True
def rdA (K : PySem.W.Frag) (mg : Str → Option Value) (W : WX) (f : PEn → Out (List Val)) : TA := fun σ H Q => ∃ F r, Rel K F r σ H ∧ Post K mg W r σ F H (f r) fun vs r' F' H' => ∀ xs, Paired (RV K r' σ H F' H') xs vs → NDl xs vs → Q xs H'
abbrev JE (X : Cx) (W : WX) (e : Expr) (f : PEn → Out Val) : Prop := PE X e (rdE X.K X.mg W f)
abbrev JT (X : Cx) (W : WX) (e : Expr) (f : PEn → Out Bool) : Prop := PT X e (rdT X.K X.mg W f)
abbrev JA (X : Cx) (W : WX) (es : List Expr) (f : PEn → Out (List Val)) : Prop := PA X es (rdA X.K X.mg W f)
theorem pe_mono {X : Cx} {e : Expr} {t t' : TE} (h : PE X e t) (m : ∀ σ H Q, t' σ H Q → t σ H Q) : PE X e t' := ⟨fun pins s σ H Q I q => h.run pins s σ H Q I (m σ H Q q)⟩
theorem pt_mono {X : Cx} {e : Expr} {t t' : TT} (h : PT X e t) (m : ∀ σ H Q, t' σ H Q → t σ H Q) : PT X e t' := ⟨fun pins s σ H Q I q => h.run pins s σ H Q I (m σ H Q q)⟩
theorem pw_mono {X : Cx} {e : Expr} {t t' : TT} (h : PW X e t) (m : ∀ σ H Q, t' σ H Q → t σ H Q) : PW X e t' := ⟨fun w pins s σ H Q I q => h.run w pins s σ H Q I (m σ H Q q)⟩
theorem pa_mono {X : Cx} {e : List Expr} {t t' : TA} (h : PA X e t) (m : ∀ σ H Q, t' σ H Q → t σ H Q) : PA X e t' := ⟨fun p pins s σ H Q I q => h.run p pins s σ H Q I (m σ H Q q)⟩
theorem ps_mono {X : Cx} {e : Stmt} {t t' : TS} (h : PS X e t) (m : ∀ D σ H, t' D σ H → t D σ H) : PS X e t' := ⟨fun pins s σ H D I q => h.run pins s σ H D I (m D σ H q)⟩
theorem pss_mono {X : Cx} {e : List Stmt} {t t' : TS} (h : PSs X e t) (m : ∀ D σ H, t' D σ H → t D σ H) : PSs X e t' := ⟨fun pins s σ H D I q => h.run pins s σ H D I (m D σ H q)⟩

/-! ### operations by values -/
inductive Rs where
  | v (d : PyData)
  | n (xs : List PyData)
def Rs.val : Rs → Val
  | .v d => .v d
  | .n xs => .n xs
structure Grow (F H F' H' : Hp) : Prop where
  ff : Same F F'
  hh : Same H H'
  sub : Same F' H'
  fn : ∀ b, F b = none → H b ≠ none → F' b = none
def RR (K : PySem.W.Frag) (H F' H' : Hp) (x : V) : Rs → Prop
  | .v d => DV K F' x d
  | .n xs => ∃ a vs, x = .ref a ∧ H a = none ∧ F' a = none ∧ H' a = some (.lst vs) ∧ DVs K F' vs xs
/-- the reading of an operation on data -/
def rdV (K : PySem.W.Frag) (g : List PyData → Option Rs) (xs : List V) (H : Hp) (Q : VK) : Prop :=
  ∃ F ds z, Same F H ∧ Paired (DW K F H) xs ds ∧ g ds = some z ∧ ∀ x F' H', Grow F H F' H' → RR K H F' H' x z → Q x H'
section
variable {K : PySem.W.Frag} {mg : Str → Option Value} {W : WX} {r : PEn} {σ : L2.St} {F H F' H' : Hp}
theorem Grow.refl (e : Same F H) : Grow F H F H := ⟨Same.refl _, Same.refl _, e, fun _ z _ => z⟩
theorem same_upd {H : Hp} {p : Addr} {o : HO} (h : H p = none) : Same H (upd H p o) := fun b u e => by rw [upd_ne (ne_of_none e h)]; exact e
theorem same_upd2 {F H : Hp} {p : Addr} {o : HO} (e : Same F H) (h : F p = none) : Same F (upd H p o) := fun b u q => by rw [upd_ne (ne_of_none q h)]; exact e b u q
theorem same_both {F H : Hp} {p : Addr} {o : HO} (e : Same F H) : Same (upd F p o) (upd H p o) := fun b u q => by
  by_cases z : b = p
  · subst z; rw [upd_same] at q ⊢; exact q
  · rw [upd_ne z] at q ⊢; exact e b u q
/-- a new thing is frozen -/
theorem Grow.new (e : Same F H) {p : Addr} {o : HO} (h : H p = none) : Grow F H (upd F p o) (upd H p o) where
  ff := same_upd (e.free h)
  hh := same_upd h
  sub := same_both e
  fn := fun b z n => by
    rw [upd_ne (fun q => n (by rw [q]; exact h))]
    exact z
/-- a new thing that isn't frozen -/
theorem Grow.free (e : Same F H) {p : Addr} {o : HO} (h : H p = none) : Grow F H F (upd H p o) where
  ff := Same.refl _
  hh := same_upd h
  sub := same_upd2 e (e.free h)
  fn := fun b z n => z
theorem Rel.grow (R : Rel K F r σ H) (g : Grow F H F' H') : Rel K F' r σ H' where
  len := R.len
  sub := g.sub
  dat := fun i d e => by
    obtain ⟨v, e1, q⟩ := R.dat i d e
    exact ⟨v, e1, DV.mono g.ff q⟩
  lst := fun i p xs e => by
    obtain ⟨a, vs, e1, f, h, q⟩ := R.lst i p xs e
    exact ⟨a, vs, e1, g.fn a f (by rw [h]; simp), g.hh _ _ h, DVs.mono g.ff q⟩
  inj := R.inj
theorem Grow.stp (g : Grow F H F' H') : Stp r σ F H r F' H' where
  ff := g.ff
  fn := fun b e n _ => g.fn b e n
  kp := fun b o e _ => g.hh b o e
  th := fun b n => by
    cases z : H b with
    | none => exact absurd z n
    | some o => rw [g.hh b o z]; simp
  ln := rfl
  ow := fun _ _ xs e => ⟨xs, e⟩
  pin := fun _ xs e => ⟨xs, e⟩
  dk := fun _ _ e => e
  lk := fun _ xs e => .inl ⟨xs, e⟩
theorem Rel.owH (R : Rel K F r σ H) {b : Addr} (o : Ow r σ b) : ∃ vs, H b = some (.lst vs) := by
  obtain ⟨i, p, xs, e1, e2⟩ := o
  obtain ⟨a, vs, e3, _, h, _⟩ := R.lst i p xs e1
  rw [e2] at e3
  cases e3
  exact ⟨vs, h⟩
theorem RR.rv (R : Rel K F r σ H) {x : V} {z : Rs} (h : RR K H F' H' x z) : RV K r σ H F' H' x z.val := by
  cases z with
  | v d => exact h
  | n xs =>
    obtain ⟨a, vs, e, h0, f, h, q⟩ := h
    refine ⟨a, vs, e, h0, f, fun o => ?_, h, q⟩
    obtain ⟨ws, e1⟩ := R.owH o
    rw [h0] at e1
    cases e1
/-- from an outcome's wish to an operation's -/
theorem fin_op {g : List PyData → Option Rs} {xs : List V} {ds : List PyData} {z : Rs} {Q : VK} (R : Rel K F r σ H) (h : Paired (DW K F H) xs ds) (e : g ds = some z)
    (q : Post K mg W r σ F H (.ok z.val r) fun v r' F' H' => ∀ x, RV K r' σ H F' H' x v → Q x H') : rdV K g xs H Q :=
  ⟨F, ds, z, R.sub, h, e, fun x F' H' G rr => q F' H' (R.grow G) G.stp x (RR.rv R rr)⟩
end
end PD

/-! PDExpr: expressions: names, constants, operations, displays, tests. -/
namespace PD
open PySem PySem.Spec PyProof.Rows L2
section
variable {X : Cx} {W : WX} {a b c e : Expr} {pos pos' p p2 : Pos}

/-! ### names, constants -/
def eVar (i : Nat) : PEn → Out Val := fun r => match r[i]? with
  | some (.d d) => .ok (.v d) r
  | some (.l _ _) => .ok (.b i) r
  | _ => .bad
theorem j_var {i : Nat} {x : Str} (hN : X.N[i]? = some x) (hv : Vis X.env.scope x) (hd : (x == ("__debug__" : Str)) = false := by decide) (hcd : (x == ("__classdict__" : Str)) = false := by decide) : JE X W (.Name x pos) (eVar i) := by
  refine pe_mono (pe_var hN hv hd hcd) fun σ H Q h => ?_
  obtain ⟨F, r, R, q⟩ := h
  unfold eVar at q
  cases z : r[i]? with
  | none => rw [z] at q; exact q.elim
  | some y =>
    rw [z] at q
    cases y with
    | u => exact q.elim
    | d d =>
      obtain ⟨v, e1, hd⟩ := R.dat i d z
      exact ⟨v, e1, q F H R Stp.refl v hd⟩
    | l p xs =>
      obtain ⟨v, vs, e1, f, h, hd⟩ := R.lst i p xs z
      exact ⟨.ref v, e1, q F H R Stp.refl (.ref v) ⟨e1, .inr ⟨p, xs, z⟩⟩⟩
def eC (d : PyData) : PEn → Out Val := fun r => .ok (.v d) r
theorem j_of_const {v : V} {d : PyData} (h : PE X e (tC v)) (hd : ∀ F, DV X.K F v d) : JE X W e (eC d) := by
  refine pe_mono h fun σ H Q h => ?_
  obtain ⟨F, r, R, q⟩ := h
  exact q F H R Stp.refl v (hd F)
theorem j_int {i j} : JE X W (.Constant (.int i) j pos) (eC (.int i)) := j_of_const pe_int fun _ => .int i
theorem j_bool {b j} : JE X W (.Constant (.bool b) j pos) (eC (.bool b)) := j_of_const pe_bl fun _ => .bl b
theorem j_none {j} : JE X W (.Constant .none j pos) (eC .none) := j_of_const pe_non fun _ => .non
theorem j_str {x j} : JE X W (.Constant (.str x) j pos) (eC (.str x)) := j_of_const pe_str fun _ => .str x

/-! ### operations -/
def op1 (g : PyData → Option Rs) (x : Val) : PEn → Out Val := fun r => match x.rd r with
  | some d => match g d with
    | some z => .ok z.val r
    | none => .bad
  | none => .bad
def op2 (g : PyData → PyData → Option Rs) (x y : Val) : PEn → Out Val := fun r => match x.rd r, y.rd r with
  | some d, some e => match g d e with
    | some z => .ok z.val r
    | none => .bad
  | _, _ => .bad
def rds (r : PEn) : List Val → Option (List PyData)
  | [] => some []
  | x :: xs => match x.rd r, rds r xs with
    | some d, some ds => some (d :: ds)
    | _, _ => none
def opN (g : List PyData → Option Rs) (xs : List Val) : PEn → Out Val := fun r => match rds r xs with
  | some ds => match g ds with
    | some z => .ok z.val r
    | none => .bad
  | none => .bad
def eOp1 (g : PyData → Option Rs) (fa : PEn → Out Val) : PEn → Out Val := fun r => (fa r).bind (op1 g)
def eOp2 (g : PyData → PyData → Option Rs) (fa fb : PEn → Out Val) : PEn → Out Val := fun r => (fa r).bind fun x r1 => (fb r1).bind fun y r2 => op2 g x y r2
def eOpN (g : List PyData → Option Rs) (fs : PEn → Out (List Val)) : PEn → Out Val := fun r => (fs r).bind (opN g)
def on1 (g : PyData → Option Rs) : List PyData → Option Rs
  | [d] => g d
  | _ => none
def on2 (g : PyData → PyData → Option Rs) : List PyData → Option Rs
  | [d, e] => g d e
  | _ => none
abbrev rd1 (K : PySem.W.Frag) (g : PyData → Option Rs) : V → Hp → VK → Prop := fun x H Q => rdV K (on1 g) [x] H Q
abbrev rd2 (K : PySem.W.Frag) (g : PyData → PyData → Option Rs) : R2 := fun x y H Q => rdV K (on2 g) [x, y] H Q
theorem fin1 {K : PySem.W.Frag} {mg : Str → Option Value} {r : PEn} {σ : L2.St} {F H H0 : Hp} {g : PyData → Option Rs} {x : V} {v : Val} {Q : VK} (R : Rel K F r σ H) (rx : RV K r σ H0 F H x v)
    (q : Post K mg W r σ F H (op1 g v r) fun v r' F' H' => ∀ x, RV K r' σ H F' H' x v → Q x H') : rd1 K g x H Q := by
  unfold op1 at q
  cases z : v.rd r with
  | none => rw [z] at q; exact q.elim
  | some d =>
    rw [z] at q
    cases w : g d with
    | none => simp only [w] at q; exact q.elim
    | some y => simp only [w] at q; exact fin_op R (.cons (rx.rd R z) .nil) (show on1 g [d] = some y from w) q
theorem fin2 {K : PySem.W.Frag} {mg : Str → Option Value} {r : PEn} {σ : L2.St} {F H H0 H1 : Hp} {g : PyData → PyData → Option Rs} {x y : V} {v w : Val} {Q : VK} (R : Rel K F r σ H) (rx : RV K r σ H0 F H x v) (ry : RV K r σ H1 F H y w)
    (q : Post K mg W r σ F H (op2 g v w r) fun v r' F' H' => ∀ x, RV K r' σ H F' H' x v → Q x H') : rd2 K g x y H Q := by
  unfold op2 at q
  cases z : v.rd r with
  | none => rw [z] at q; exact q.elim
  | some d =>
    cases z' : w.rd r with
    | none => rw [z, z'] at q; exact q.elim
    | some e =>
      rw [z, z'] at q
      cases t : g d e with
      | none => simp only [t] at q; exact q.elim
      | some y => simp only [t] at q; exact fin_op R (.cons (rx.rd R z) (.cons (ry.rd R z') .nil)) (show on2 g [d, e] = some y from t) q
theorem rds_ok {K : PySem.W.Frag} {r : PEn} {σ : L2.St} {F H H0 : Hp} (R : Rel K F r σ H) : ∀ {xs : List V} {vs : List Val} {ds : List PyData}, Paired (RV K r σ H0 F H) xs vs → rds r vs = some ds → Paired (DW K F H) xs ds
  | _, _, _, .nil, e => by simp only [rds, Option.some.injEq] at e; subst e; exact .nil
  | _, v :: vs, ds, .cons h t, e => by
    simp only [rds] at e
    cases z : v.rd r with
    | none => rw [z] at e; cases e
    | some d =>
      cases z' : rds r vs with
      | none => rw [z, z'] at e; cases e
      | some es =>
        rw [z, z'] at e
        simp only [Option.some.injEq] at e
        subst e
        exact .cons (h.rd R z) (rds_ok R t z')
theorem finN {K : PySem.W.Frag} {mg : Str → Option Value} {r : PEn} {σ : L2.St} {F H H0 : Hp} {g : List PyData → Option Rs} {xs : List V} {vs : List Val} {Q : VK} (R : Rel K F r σ H) (rx : Paired (RV K r σ H0 F H) xs vs)
    (q : Post K mg W r σ F H (opN g vs r) fun v r' F' H' => ∀ x, RV K r' σ H F' H' x v → Q x H') : rdV K g xs H Q := by
  unfold opN at q
  cases z : rds r vs with
  | none => rw [z] at q; exact q.elim
  | some ds =>
    rw [z] at q
    cases w : g ds with
    | none => simp only [w] at q; exact q.elim
    | some y => simp only [w] at q; exact fin_op R (rds_ok R rx z) w q
/-- the base of the values of a step is brought back -/
theorem fwd {K : PySem.W.Frag} {mg : Str → Option Value} {r : PEn} {σ : L2.St} {F H H0 : Hp} {o : Out Val} {Q : VK} (th : ∀ b, H0 b ≠ none → H b ≠ none)
    (q : Post K mg W r σ F H o fun v r' F' H' => ∀ x, RV K r' σ H0 F' H' x v → Q x H') : Post K mg W r σ F H o fun v r' F' H' => ∀ x, RV K r' σ H F' H' x v → Q x H' :=
  q.imp fun v r' F' H' R S h x rx => h x (rx.base th)
theorem j_op1 {f : Value → Sem Value} {g : PyData → Option Rs} {fa : PEn → Out Val} (h : ∀ {ta}, PE X a ta → PE X e fun σ H Q => ta σ H fun x H1 => rd1 X.K g x H1 Q) (ha : JE X W a fa) : JE X W e (eOp1 g fa) := by
  refine pe_mono (h ha) fun σ H Q h => ?_
  obtain ⟨F, r, R, q⟩ := h
  refine ⟨F, r, R, q.bind.imp fun v r1 F1 H1 R1 S1 q1 x rx => ?_⟩
  exact fin1 R1 rx (fwd S1.th q1)
theorem j_un {op : UnaryOp} {g : PyData → Option Rs} {fa : PEn → Out Val} (ho : UnR X (unaryOp op) (rd1 X.K g)) (ha : JE X W a fa) (hs : op ≠ .Not := by decide) : JE X W (.UnaryOp op a pos) (eOp1 g fa) :=
  j_op1 (f := fun v => pure v) (fun h => by first | exact pe_un ho h | exact pe_un ho h rfl | exact pe_un ho h hs) ha
theorem two {g : PyData → PyData → Option Rs} {fa fb : PEn → Out Val} (h : ∀ {ta tb}, PE X a ta → PE X b tb → PE X e (tOp (rd2 X.K g) ta tb)) (ha : JE X W a fa) (hb : JE X W b fb) : JE X W e (eOp2 g fa fb) := by
  refine pe_mono (h ha hb) fun σ H Q h => ?_
  obtain ⟨F, r, R, q⟩ := h
  refine ⟨F, r, R, q.bind.imp fun v r1 F1 H1 R1 S1 q1 x rx => ?_⟩
  refine ⟨F1, r1, R1, q1.bind.imp fun w r2 F2 H2 R2 S2 q2 y ry => ?_⟩
  exact fin2 R2 (rx.step S2) ry (fwd (fun b n => S2.th b (S1.th b n)) q2)
theorem j_bin {op : Operator} {g : PyData → PyData → Option Rs} {fa fb : PEn → Out Val} (ho : OpR X (binaryOp op) (rd2 X.K g)) (ha : JE X W a fa) (hb : JE X W b fb) : JE X W (.BinOp a op b pos) (eOp2 g fa fb) := two (pe_op ho) ha hb
theorem j_cmp {op : CmpOp} {g : PyData → PyData → Option Rs} {fa fb : PEn → Out Val} (ho : OpR X (compareOp op) (rd2 X.K g)) (ha : JE X W a fa) (hb : JE X W b fb)
    (hm : behindInMarks op b = false := by first | exact nobehind _ (by decide) (by decide) | rfl) : JE X W (.Compare a [op] [b] pos) (eOp2 g fa fb) := two (fun h1 h2 => pe_cmpR ho h1 h2 hm) ha hb
theorem j_ix {g : PyData → PyData → Option Rs} {fa fb : PEn → Out Val} (ho : IxR X (rd2 X.K g)) (ha : JE X W a fa) (hb : JE X W b fb) (hs : PlainIx b := by exact fun _ _ => rfl) : JE X W (.Subscript a b pos) (eOp2 g fa fb) := two (fun h1 h2 => pe_ix ho h1 h2 hs) ha hb

/-! ### arguments -/
def aNil : PEn → Out (List Val) := fun r => .ok [] r
def aCons (f : PEn → Out Val) (fs : PEn → Out (List Val)) : PEn → Out (List Val) := fun r => (f r).bind fun v r1 => (fs r1).bind fun vs r2 => .ok (v :: vs) r2
theorem ja_nil : JA X W [] aNil := by
  refine pa_mono pa_nil fun σ H Q h => ?_
  obtain ⟨F, r, R, q⟩ := h
  exact q F H R Stp.refl [] .nil trivial
theorem RVs.step {K : PySem.W.Frag} {r r' : PEn} {σ : L2.St} {F H F' H' H0 : Hp} (S : Stp r σ F H r' F' H') : ∀ {xs : List V} {vs : List Val}, Paired (RV K r σ H0 F H) xs vs → Paired (RV K r' σ H0 F' H') xs vs
  | _, _, .nil => .nil
  | _, _, .cons h t => .cons (h.step S) (RVs.step S t)
theorem RVs.base {K : PySem.W.Frag} {r : PEn} {σ : L2.St} {F H H0 H1 : Hp} (th : ∀ b, H0 b ≠ none → H1 b ≠ none) : ∀ {xs : List V} {vs : List Val}, Paired (RV K r σ H1 F H) xs vs → Paired (RV K r σ H0 F H) xs vs
  | _, _, .nil => .nil
  | _, _, .cons h t => .cons (h.base th) (RVs.base th t)
theorem paired_at {α β : Type} {R : α → β → Prop} : ∀ {xs : List α} {ys : List β} {j : Nat} {y : β}, Paired R xs ys → ys[j]? = some y → ∃ x, xs[j]? = some x ∧ R x y
  | _, _, _, _, .nil, e => by simp at e
  | _, _, 0, _, .cons r _, e => by simp at e; subst e; exact ⟨_, rfl, r⟩
  | _, _, j + 1, y, .cons _ t, e => by
    obtain ⟨x, h1, h2⟩ := paired_at (j := j) (y := y) t (by simpa using e)
    exact ⟨x, by simpa using h1, h2⟩
theorem ja_cons {es : List Expr} {f : PEn → Out Val} {fs : PEn → Out (List Val)} (h : JE X W e f) (hs : JA X W es fs) (hst : starEach (e :: es) X.env = (false, eval e X.env) :: starEach es X.env := by rfl) : JA X W (e :: es) (aCons f fs) := by
  refine pa_mono (pa_cons h hs hst) fun σ H Q h => ?_
  obtain ⟨F, r, R, q⟩ := h
  refine ⟨F, r, R, q.bind.imp fun v r1 F1 H1 R1 S1 q1 x rx => ?_⟩
  refine ⟨F1, r1, R1, q1.bind.imp fun vs r2 F2 H2 R2 S2 q2 xs rxs nd => ?_⟩
  refine q2 F2 H2 R2 Stp.refl (x :: xs) (.cons (rx.step S2) (RVs.base S1.th rxs)) ?_
  cases v with
  | n ys =>
    refine ⟨fun j ws e z => ?_, nd⟩
    obtain ⟨a, us, rfl, _, _, _, h, _⟩ := rx
    obtain ⟨y, e2, q⟩ := paired_at rxs e
    rw [z] at e2
    cases e2
    obtain ⟨b, us', e3, h0, _⟩ := q
    cases e3
    rw [h] at h0
    cases h0
  | v d => exact nd
  | b i => exact nd
/-- a call of a builtin, of a built-in class -/
theorem callN {f : Value} {g : List PyData → Option Rs} {es : List Expr} {fs : PEn → Out (List Val)} (h : ∀ {t}, PA X es t → PE X e (tCB (rdV X.K g) t)) (ha : JA X W es fs) : JE X W e (eOpN g fs) := by
  refine pe_mono (h ha) fun σ H Q h => ?_
  obtain ⟨F, r, R, q⟩ := h
  refine ⟨F, r, R, q.bind.imp fun vs r1 F1 H1 R1 S1 q1 xs rx _ => ?_⟩
  exact finN R1 rx (fwd S1.th q1)

/-! ### freezing -/
def Val.fz (r : PEn) : Val → Option (PyData × PEn)
  | .v d => some (d, r)
  | .n xs => some (.list xs, r)
  | .b i => match r[i]? with
    | some (.d d) => some (d, r)
    | some (.l false xs) => some (.list xs, r.set i (.d (.list xs)))
    | _ => none
def fzs (r : PEn) : List Val → Option (List PyData × PEn)
  | [] => some ([], r)
  | v :: vs => match v.fz r with
    | some (d, r1) => match fzs r1 vs with
      | some (ds, r2) => some (d :: ds, r2)
      | none => none
    | none => none
/-- as RV, where a new list may have been frozen -/
def RZ (K : PySem.W.Frag) (r : PEn) (σ : L2.St) (H0 F H : Hp) (x : V) : Val → Prop
  | .v d => DV K F x d
  | .n xs => ∃ a vs, x = .ref a ∧ H0 a = none ∧ ¬ Ow r σ a ∧ H a = some (.lst vs) ∧ DVs K F vs xs
  | .b i => σ[i]? = some (some x) ∧ ((∃ d : PyData, r[i]? = some (.d d)) ∨ ∃ (p : Bool) (xs : List PyData), r[i]? = some (.l p xs))
theorem RV.rz {K : PySem.W.Frag} {r : PEn} {σ : L2.St} {F H H0 : Hp} {x : V} {v : Val} (h : RV K r σ H0 F H x v) : RZ K r σ H0 F H x v := by
  cases v with
  | v d => exact h
  | n xs => obtain ⟨a, vs, e, h0, _, o, h, q⟩ := h; exact ⟨a, vs, e, h0, o, h, q⟩
  | b i => exact h
theorem RVs.rz {K : PySem.W.Frag} {r : PEn} {σ : L2.St} {F H H0 : Hp} : ∀ {xs : List V} {vs : List Val}, Paired (RV K r σ H0 F H) xs vs → Paired (RZ K r σ H0 F H) xs vs
  | _, _, .nil => .nil
  | _, _, .cons h t => .cons h.rz (RVs.rz t)
theorem ow_set {r : PEn} {σ : L2.St} {i : Nat} {d : PyData} {b : Addr} (o : Ow (r.set i (.d d)) σ b) : Ow r σ b ∧ ∃ (j : Nat) (p : Bool) (xs : List PyData), j ≠ i ∧ r[j]? = some (.l p xs) ∧ σ[j]? = some (some (.ref b)) := by
  obtain ⟨j, p, xs, e1, e2⟩ := o
  have hj : j ≠ i := by
    intro z
    subst z
    rw [List.getElem?_set] at e1
    split at e1
    · split at e1 <;> cases e1
    · rename_i n; exact n rfl
  rw [List.getElem?_set_ne (Ne.symm hj)] at e1
  exact ⟨⟨j, p, xs, e1, e2⟩, j, p, xs, hj, e1, e2⟩
/-- one value is frozen -/
theorem fz1 {K : PySem.W.Frag} {r0 r r' : PEn} {σ : L2.St} {F0 H0 F H : Hp} {x : V} {v : Val} {d : PyData} (R : Rel K F r σ H) (S : Stp r0 σ F0 H0 r F H) (h : RZ K r σ H0 F H x v) (e : v.fz r = some (d, r')) :
    ∃ F', Same F F' ∧ Rel K F' r' σ H ∧ DV K F' x d ∧ Stp r0 σ F0 H0 r' F' H ∧ ∀ {y : V} {w : Val}, RZ K r σ H0 F H y w → RZ K r' σ H0 F' H y w := by
  cases v with
  | v d' =>
    simp only [Val.fz, Option.some.injEq, Prod.mk.injEq] at e
    obtain ⟨rfl, rfl⟩ := e
    exact ⟨F, Same.refl _, R, h, S, fun h => h⟩
  | n xs =>
    simp only [Val.fz, Option.some.injEq, Prod.mk.injEq] at e
    obtain ⟨rfl, rfl⟩ := e
    obtain ⟨a, vs, rfl, h0, o, h, q⟩ := h
    have sa : Same F (upd F a (.lst vs)) := fun b u eb => by
      by_cases z : b = a
      · subst z
        have := R.sub b u eb
        rw [h] at this
        rw [upd_same]
        exact this
      · rw [upd_ne z]; exact eb
    refine ⟨upd F a (.lst vs), sa, ⟨R.len, fun b u eb => ?_, fun i d e => ?_, fun i p ys e => ?_, R.inj⟩, .lst (.inl (.inl upd_same)) (DVs.mono sa q), ⟨S.ff.trans sa, fun b f n ob => ?_, S.kp, S.th, S.ln, S.ow, S.pin, S.dk, S.lk⟩, fun {y w} hw => ?_⟩
    · by_cases z : b = a
      · subst z; rw [upd_same] at eb; rw [h]; exact eb
      · rw [upd_ne z] at eb; exact R.sub b u eb
    · obtain ⟨v, e1, q1⟩ := R.dat i d e
      exact ⟨v, e1, DV.mono sa q1⟩
    · obtain ⟨c, ws, e1, f, h1, q1⟩ := R.lst i p ys e
      have hc : c ≠ a := by
        rintro rfl
        exact o ⟨i, p, ys, e, e1⟩
      exact ⟨c, ws, e1, by rw [upd_ne hc]; exact f, h1, DVs.mono sa q1⟩
    · have hb : b ≠ a := by
        rintro rfl
        exact n h0
      rw [upd_ne hb]
      exact S.fn b f n ob
    · cases w with
      | v d => exact DV.mono sa hw
      | n ys => obtain ⟨c, ws, e, h0, o, h, q⟩ := hw; exact ⟨c, ws, e, h0, o, h, DVs.mono sa q⟩
      | b i => exact hw
  | b i =>
    obtain ⟨e1, h⟩ := h
    simp only [Val.fz] at e
    cases z : r[i]? with
    | none => rw [z] at e; cases e
    | some t =>
      rw [z] at e
      cases t with
      | u => cases e
      | d d' =>
        simp only [Option.some.injEq, Prod.mk.injEq] at e
        obtain ⟨rfl, rfl⟩ := e
        obtain ⟨v, e2, q⟩ := R.dat i _ z
        rw [e1] at e2
        cases e2
        exact ⟨F, Same.refl _, R, q, S, fun h => h⟩
      | l p xs =>
        cases p with
        | true => cases e
        | false =>
          simp only [Option.some.injEq, Prod.mk.injEq] at e
          obtain ⟨rfl, rfl⟩ := e
          obtain ⟨a, vs, e2, fa, h1, q⟩ := R.lst i false xs z
          rw [e1] at e2
          cases e2
          have hi : i < r.length := (List.getElem?_eq_some_iff.mp z).1
          have own : Ow r σ a := ⟨i, false, xs, z, e1⟩
          have sa : Same F (upd F a (.lst vs)) := same_upd fa
          have gl : ∀ (j : Nat) (p : Bool) (ys : List PyData), (r.set i (.d (.list xs)))[j]? = some (.l p ys) → j ≠ i ∧ r[j]? = some (.l p ys) := fun j p ys e => by
            have hj : j ≠ i := by
              rintro rfl
              rw [List.getElem?_set_self hi] at e
              cases e
            rw [List.getElem?_set_ne (Ne.symm hj)] at e
            exact ⟨hj, e⟩
          have gd : ∀ (j : Nat), j ≠ i → (r.set i (.d (.list xs)))[j]? = r[j]? := fun j hj => List.getElem?_set_ne (Ne.symm hj)
          refine ⟨upd F a (.lst vs), sa, ⟨by rw [List.length_set]; exact R.len, fun b u eb => ?_, fun j d e => ?_, fun j p ys e => ?_, fun j k p q xs ys a e1 e2 e3 e4 => R.inj j k p q xs ys a (gl _ _ _ e1).2 (gl _ _ _ e2).2 e3 e4⟩,
            .lst (.inl (.inl upd_same)) (DVs.mono sa q), ⟨S.ff.trans sa, fun b f n ob => ?_, S.kp, S.th, by rw [List.length_set]; exact S.ln, fun j p ys e => S.ow j p ys (gl _ _ _ e).2, fun j ys e => ?_, fun j d e => ?_, fun j ys e => ?_⟩, fun {y w} hw => ?_⟩
          · by_cases y : b = a
            · subst y; rw [upd_same] at eb; rw [h1]; exact eb
            · rw [upd_ne y] at eb; exact R.sub b u eb
          · by_cases hj : j = i
            · subst hj
              rw [List.getElem?_set_self hi] at e
              simp only [Option.some.injEq, Sl.d.injEq] at e
              subst e
              exact ⟨_, e1, .lst (.inl (.inl upd_same)) (DVs.mono sa q)⟩
            · rw [gd j hj] at e
              obtain ⟨v, e2, q1⟩ := R.dat j d e
              exact ⟨v, e2, DV.mono sa q1⟩
          · obtain ⟨hj, e⟩ := gl _ _ _ e
            obtain ⟨c, ws, e2, f, h2, q1⟩ := R.lst j p ys e
            have hc : c ≠ a := by
              rintro rfl
              exact hj (R.inj _ _ _ _ _ _ _ e z e2 e1)
            exact ⟨c, ws, e2, by rw [upd_ne hc]; exact f, h2, DVs.mono sa q1⟩
          · have hb : b ≠ a := by
              rintro rfl
              exact ob (own.back S)
            rw [upd_ne hb]
            exact S.fn b f n ob
          · obtain ⟨ys', e2⟩ := S.pin j ys e
            have hj : j ≠ i := by
              rintro rfl
              rw [z] at e2
              cases e2
            exact ⟨ys', by rw [gd j hj]; exact e2⟩
          · have e2 := S.dk j d e
            have hj : j ≠ i := by
              rintro rfl
              rw [z] at e2
              cases e2
            rw [gd j hj]
            exact e2
          · by_cases hj : j = i
            · subst hj
              exact .inr ⟨xs, List.getElem?_set_self hi⟩
            · rw [gd j hj]
              exact S.lk j ys e
          · cases w with
            | v d => exact DV.mono sa hw
            | n ys =>
              obtain ⟨c, ws, e, h0, o, h, q⟩ := hw
              exact ⟨c, ws, e, h0, fun o2 => o (ow_set o2).1, h, DVs.mono sa q⟩
            | b j =>
              obtain ⟨e3, hw⟩ := hw
              refine ⟨e3, ?_⟩
              by_cases hj : j = i
              · subst hj
                exact .inl ⟨_, List.getElem?_set_self hi⟩
              · rw [gd j hj]
                exact hw
theorem fz_all {K : PySem.W.Frag} {r0 : PEn} {σ : L2.St} {F0 H0 H : Hp} : ∀ {xs : List V} {vs : List Val} {ds : List PyData} {r r' : PEn} {F : Hp}, Rel K F r σ H → Stp r0 σ F0 H0 r F H → Paired (RZ K r σ H0 F H) xs vs → fzs r vs = some (ds, r') →
    ∃ F', Same F F' ∧ Rel K F' r' σ H ∧ DVs K F' xs ds ∧ Stp r0 σ F0 H0 r' F' H
  | _, _, _, r, r', F, R, S, .nil, e => by
    simp only [fzs, Option.some.injEq, Prod.mk.injEq] at e
    obtain ⟨rfl, rfl⟩ := e
    exact ⟨F, Same.refl _, R, .nil, S⟩
  | _, v :: vs, ds, r, r', F, R, S, .cons h t, e => by
    simp only [fzs] at e
    cases z : v.fz r with
    | none => rw [z] at e; cases e
    | some y =>
      obtain ⟨d, r1⟩ := y
      rw [z] at e
      simp only at e
      cases z2 : fzs r1 vs with
      | none => rw [z2] at e; cases e
      | some y2 =>
        obtain ⟨es, r2⟩ := y2
        rw [z2] at e
        simp only [Option.some.injEq, Prod.mk.injEq] at e
        obtain ⟨rfl, rfl⟩ := e
        obtain ⟨F1, s1, R1, q1, S1, k1⟩ := fz1 R S h z
        have t' : ∀ {xs : List V} {vs : List Val}, Paired (RZ K r σ H0 F H) xs vs → Paired (RZ K r1 σ H0 F1 H) xs vs := fun t => by
          induction t with
          | nil => exact .nil
          | cons h _ ih => exact .cons (k1 h) ih
        obtain ⟨F2, s2, R2, q2, S2⟩ := fz_all R1 S1 (t' t) z2
        exact ⟨F2, s1.trans s2, R2, .cons (DV.mono s2 q1) q2, S2⟩
/-- from the start -/
theorem Post.bind0 {K : PySem.W.Frag} {mg : Str → Option Value} {α β : Type} {r : PEn} {σ : L2.St} {F H : Hp} {o : Out α} {k : α → PEn → Out β} {q : β → PEn → Hp → Hp → Prop} (h : Post K mg W r σ F H (o.bind k) q) : Post K mg W r σ F H o fun a r1 _ _ => Post K mg W r σ F H (k a r1) q := by
  cases o with
  | bad => exact h
  | exc e r' => exact h
  | ok a r1 => exact fun F1 H1 R1 S1 => h
/-- a display's items -/
def few : Nat := 4096
theorem few_le : few ≤ sizeLine := by decide
def many : Nat := 1000000
theorem many_le : many ≤ sizeLine := by decide
theorem many_lt : many < sizeLine := by decide
def mkT (vs : List Val) : PEn → Out Val := fun r => match fzs r vs with
  | some (ds, r') => if ds.length ≤ few then .ok (.v (.tuple ds)) r' else .bad
  | none => .bad
def mkL (vs : List Val) : PEn → Out Val := fun r => match fzs r vs with
  | some (ds, r') => if ds.length ≤ few then .ok (.n ds) r' else .bad
  | none => .bad
def eTup (fs : PEn → Out (List Val)) : PEn → Out Val := fun r => (fs r).bind mkT
def eLst (fs : PEn → Out (List Val)) : PEn → Out Val := fun r => (fs r).bind mkL
theorem Stp.grow {K : PySem.W.Frag} {r r' : PEn} {σ : L2.St} {F H F' H' F2 H2 : Hp} (S : Stp r σ F H r' F' H') (G : Grow F' H' F2 H2) : Stp r σ F H r' F2 H2 := S.trans G.stp
theorem j_tup {es : List Expr} {k : Nat} {fs : PEn → Out (List Val)} (ha : JA X W es fs) : JE X W (.Tuple es k pos) (eTup fs) := by
  refine pe_mono (by first | exact pe_tup ha | exact pe_tup ha (by rfl)) fun σ H Q h => ?_
  obtain ⟨F, r, R, q⟩ := h
  refine ⟨F, r, R, q.bind0.imp fun vs r1 F1 H1 R1 S1 q1 xs rx _ => ?_⟩
  unfold mkT at q1
  cases z : fzs r1 vs with
  | none => rw [z] at q1; exact q1.elim
  | some y =>
    obtain ⟨ds, r2⟩ := y
    rw [z] at q1
    simp only at q1
    split at q1
    · rename_i hf
      obtain ⟨F2, s2, R2, q2, S2⟩ := fz_all R1 S1 (RVs.rz rx) z
      refine ⟨by rw [q2.len]; exact Nat.le_trans hf few_le, fun p hp => ?_⟩
      have G := Grow.new (F := F2) R2.sub (o := HO.tup xs) hp
      exact q1 _ _ (R2.grow G) (S2.trans G.stp) (.ref p) (.tup (.inl (.inl upd_same)) (DVs.mono G.ff q2))
    · exact q1.elim
theorem j_lst {es : List Expr} {fs : PEn → Out (List Val)} (ha : JA X W es fs) : JE X W (.List es pos) (eLst fs) := by
  refine pe_mono (by first | exact pe_lst ha | exact pe_lst ha (by rfl)) fun σ H Q h => ?_
  obtain ⟨F, r, R, q⟩ := h
  refine ⟨F, r, R, q.bind0.imp fun vs r1 F1 H1 R1 S1 q1 xs rx _ => ?_⟩
  unfold mkL at q1
  cases z : fzs r1 vs with
  | none => rw [z] at q1; exact q1.elim
  | some y =>
    obtain ⟨ds, r2⟩ := y
    rw [z] at q1
    simp only at q1
    split at q1
    · rename_i hf
      obtain ⟨F2, s2, R2, q2, S2⟩ := fz_all R1 S1 (RVs.rz rx) z
      refine ⟨by rw [q2.len]; exact Nat.le_trans hf few_le, fun p hp => ?_⟩
      have G := Grow.free (F := F2) R2.sub (o := HO.lst xs) hp
      have h0 : H p = none := by
        cases w : H p with
        | none => rfl
        | some o => exact absurd hp (S2.th p (by rw [w]; simp))
      refine q1 _ _ (R2.grow G) (S2.trans G.stp) (.ref p) ⟨p, xs, rfl, h0, R2.sub.free hp, fun o => ?_, upd_same, q2⟩
      obtain ⟨ws, e1⟩ := R2.owH o
      rw [hp] at e1
      cases e1
    · exact q1.elim
end
end PD

/-! PDTest: truth, tests, and, or, not, chains, conditional expressions. -/
namespace PD
open PySem PySem.Spec PyProof.Rows L2
section
variable {X : Cx} {W : WX} {a b c e : Expr} {rest : List Expr} {pos pos' p p2 : Pos}
def truthD : PyData → Option Bool
  | .none => some false
  | .bool k => some k
  | .int n => some (n != 0)
  | .str z => if z.length ≤ many then some ((z.length : Int) != 0) else none
  | .list xs => some (!xs.isEmpty)
  | .tuple xs => some (!xs.isEmpty)
  | .dict [] => some false
  | .dict _ => none
theorem empty_eq {K : PySem.W.Frag} {H : Hp} : ∀ {vs : List V} {ds : List PyData}, DVs K H vs ds → (!ds.isEmpty) = !vs.isEmpty
  | _, _, .nil => rfl
  | _, _, .cons _ _ => rfl
theorem truthD_ok {K : PySem.W.Frag} {H : Hp} {x : V} {d : PyData} {k : Bool} (h : DV K H x d) (e : truthD d = some k) : TruV K x H k := by
  cases h with
  | non => simp only [truthD, Option.some.injEq] at e; exact e.symm
  | bl c => simp only [truthD, Option.some.injEq] at e; exact e.symm
  | int n => simp only [truthD, Option.some.injEq] at e; exact e.symm
  | str z =>
    simp only [truthD] at e
    split at e
    · rename_i hz
      simp only [Option.some.injEq] at e
      exact ⟨Nat.le_trans hz many_le, e.symm⟩
    · cases e
  | lst h q =>
    simp only [truthD, Option.some.injEq] at e
    exact .inl ⟨_, h, by rw [← e]; exact empty_eq q⟩
  | tup h q =>
    simp only [truthD, Option.some.injEq] at e
    exact .inr (.inl ⟨_, h, by rw [← e]; exact empty_eq q⟩)
  | dct h =>
    simp only [truthD, Option.some.injEq] at e
    exact .inr (.inr ⟨_, h, e.symm⟩)
def tru (v : Val) : PEn → Out Bool := fun r => match v.rd r with
  | some d => match truthD d with
    | some k => .ok k r
    | none => .bad
  | none => .bad
def boo (v : Val) : PEn → Out Bool := fun r => match v with
  | .v (.bool k) => .ok k r
  | _ => .bad
theorem tru_fin {K : PySem.W.Frag} {mg : Str → Option Value} {r : PEn} {σ : L2.St} {F H H0 : Hp} {x : V} {v : Val} {q : Bool → PEn → Hp → Hp → Prop} (R : Rel K F r σ H) (rx : RV K r σ H0 F H x v) (h : Post K mg W r σ F H (tru v r) q) :
    ∃ k, TruV K x H k ∧ tru v r = .ok k r := by
  unfold tru at h ⊢
  cases z : v.rd r with
  | none => rw [z] at h; exact h.elim
  | some d =>
    rw [z] at h
    simp only at h ⊢
    cases w : truthD d with
    | none => rw [w] at h; exact h.elim
    | some k => exact ⟨k, truthD_ok ((rx.rd R z).dv R.sub) w, rfl⟩
def tTru (f : PEn → Out Val) : PEn → Out Bool := fun r => (f r).bind tru
def tBoo (f : PEn → Out Val) : PEn → Out Bool := fun r => (f r).bind boo
theorem jt_truth {f : PEn → Out Val} (ha : JE X W a f) (he : ∀ whole, isTrue a X.env whole = (do let v ← whole; standAt a.pos; holding [v] (truthy v)) := by intro _; rfl) : JT X W a (tTru f) := by
  refine pt_mono (pt_truth ha he) fun σ H Q h => ?_
  obtain ⟨F, r, R, q⟩ := h
  refine ⟨F, r, R, q.bind.imp fun v r1 F1 H1 R1 S1 q1 x rx => ?_⟩
  obtain ⟨k, t, e⟩ := tru_fin R1 rx q1
  rw [e] at q1
  exact ⟨k, t, q1 F1 H1 R1 Stp.refl⟩
theorem boo_fin {K : PySem.W.Frag} {mg : Str → Option Value} {r : PEn} {σ : L2.St} {F H H0 : Hp} {x : V} {v : Val} {Q : Bool → Hp → Prop} (R : Rel K F r σ H) (rx : RV K r σ H0 F H x v) (h : Post K mg W r σ F H (boo v r) fun c _ _ H' => Q c H') :
    ∃ k, x = .bl k ∧ Q k H := by
  unfold boo at h
  split at h
  · rename_i k
    cases rx
    exact ⟨k, rfl, h F H R Stp.refl⟩
  · exact h.elim
/-- a comparison as a test: t is its rule's reading with a bool behind it -/
theorem jt_cmp {op : CmpOp} {g : PyData → PyData → Option Rs} {fa fb : PEn → Out Val} (ho : OpR X (compareOp op) (rd2 X.K g)) (ha : JE X W a fa) (hb : JE X W b fb)
    (hm : behindInMarks op b = false := by first | exact nobehind _ (by decide) (by decide) | rfl) : JT X W (.Compare a [op] [b] pos) (tBoo (eOp2 g fa fb)) := by
  refine pt_mono (pt_cmpR ho ha hb hm) fun σ H Q h => ?_
  obtain ⟨F, r, R, q⟩ := h
  refine ⟨F, r, R, q.bind.bind.imp fun v r1 F1 H1 R1 S1 q1 x rx => ?_⟩
  refine ⟨F1, r1, R1, q1.bind.imp fun w r2 F2 H2 R2 S2 q2 y ry => ?_⟩
  exact fin2 R2 (rx.step S2) ry (q2.imp fun v r3 F3 H3 R3 S3 q3 z rz => boo_fin R3 rz q3)
def eChain (g g' : PyData → PyData → Option Rs) (fa fb fc : PEn → Out Val) : PEn → Out Val := fun r => (fa r).bind fun x r1 => (fb r1).bind fun y r2 => (op2 g x y r2).bind fun z r3 => (boo z r3).bind fun k r4 =>
  if k = true then (fc r4).bind fun w r5 => op2 g' y w r5 else .ok (.v (.bool false)) r4
theorem chain_rd {op op' : CmpOp} {K : PySem.W.Frag} {mg : Str → Option Value} {g g' : PyData → PyData → Option Rs} {fa fb fc : PEn → Out Val} {σ : L2.St} {H : Hp} {Q : VK} (h : rdE K mg W (eChain g g' fa fb fc) σ H Q) :
    tChain (rd2 K g) (rd2 K g') (rdE K mg W fa) (rdE K mg W fb) (rdE K mg W fc) σ H Q := by
  obtain ⟨F, r, R, q⟩ := h
  refine ⟨F, r, R, q.bind.imp fun v r1 F1 H1 R1 S1 q1 x rx => ?_⟩
  refine ⟨F1, r1, R1, q1.bind.imp fun w r2 F2 H2 R2 S2 q2 y ry => ?_⟩
  refine fin2 R2 (rx.step S2) ry (q2.bind.imp fun u r3 F3 H3 R3 S3 q3 z rz => ?_)
  have q4 := q3.bind
  unfold boo at q4
  split at q4
  · rename_i k
    cases rz
    have q5 := q4 F3 H3 R3 Stp.refl
    refine ⟨k, rfl, ?_⟩
    cases k with
    | true =>
      refine ⟨F3, r3, R3, q5.bind.imp fun t r4 F4 H4 R4 S4 q6 w' rw' => ?_⟩
      exact fin2 R4 ((ry.step S3).step S4) rw' (fwd (fun b n => S4.th b (S3.th b (S2.th b (S1.th b n)))) q6)
    | false => exact q5 F3 H3 R3 Stp.refl (.bl false) (.bl false)
  · exact q4.elim
theorem j_chain {op op' : CmpOp} {g g' : PyData → PyData → Option Rs} {fa fb fc : PEn → Out Val} (ho : OpR X (compareOp op) (rd2 X.K g)) (ho' : OpR X (compareOp op') (rd2 X.K g')) (ha : JE X W a fa) (hb : JE X W b fb) (hc : JE X W c fc) (hm : lastMarks [op, op'] [b, c] = false := by rfl) :
    JE X W (.Compare a [op, op'] [b, c] pos) (eChain g g' fa fb fc) := pe_mono (pe_chain ho ho' ha hb hc hm) fun σ H Q h => chain_rd (op := op) (op' := op') h
theorem jt_chain {op op' : CmpOp} {g g' : PyData → PyData → Option Rs} {fa fb fc : PEn → Out Val} (ho : OpR X (compareOp op) (rd2 X.K g)) (ho' : OpR X (compareOp op') (rd2 X.K g')) (ha : JE X W a fa) (hb : JE X W b fb) (hc : JE X W c fc) (hm : lastMarks [op, op'] [b, c] = false := by rfl) :
    JT X W (.Compare a [op, op'] [b, c] pos) (tBoo (eChain g g' fa fb fc)) := by
  refine pt_mono (pt_chain ho ho' ha hb hc hm) fun σ H Q h => ?_
  obtain ⟨F, r, R, q⟩ := h
  exact chain_rd (op := op) (op' := op') ⟨F, r, R, q.bind.imp fun v r1 F1 H1 R1 S1 q1 x rx => boo_fin R1 rx q1⟩
/-! ### and, or, not -/
abbrev JW (X : Cx) (W : WX) (e : Expr) (f : PEn → Out Bool) : Prop := PW X e (rdT X.K X.mg W f)
def tAndD (f g : PEn → Out Bool) : PEn → Out Bool := fun r => (f r).bind fun k r1 => if k = true then g r1 else .ok false r1
def tOrD (f g : PEn → Out Bool) : PEn → Out Bool := fun r => (f r).bind fun k r1 => if k = true then .ok true r1 else g r1
def tNotD (f : PEn → Out Bool) : PEn → Out Bool := fun r => (f r).bind fun k r1 => .ok (!k) r1
theorem jw_and {f g : PEn → Out Bool} (ha : JT X W a f) (hb : JW X W (.BoolOp .And (b :: rest) pos) g) : JW X W (.BoolOp .And (a :: b :: rest) pos) (tAndD f g) := by
  refine pw_mono (pw_and ha hb) fun σ H Q h => ?_
  obtain ⟨F, r, R, q⟩ := h
  refine ⟨F, r, R, q.bind.imp fun k r1 F1 H1 R1 S1 q1 => ?_⟩
  cases k with
  | true => exact ⟨F1, r1, R1, q1⟩
  | false => exact q1 F1 H1 R1 Stp.refl
theorem jw_or {f g : PEn → Out Bool} (ha : JT X W a f) (hb : JW X W (.BoolOp .Or (b :: rest) pos) g) : JW X W (.BoolOp .Or (a :: b :: rest) pos) (tOrD f g) := by
  refine pw_mono (pw_or ha hb) fun σ H Q h => ?_
  obtain ⟨F, r, R, q⟩ := h
  refine ⟨F, r, R, q.bind.imp fun k r1 F1 H1 R1 S1 q1 => ?_⟩
  cases k with
  | true => exact q1 F1 H1 R1 Stp.refl
  | false => exact ⟨F1, r1, R1, q1⟩
theorem jt_not {f : PEn → Out Bool} (ha : JT X W a f) : JT X W (.UnaryOp .Not a pos) (tNotD f) := by
  refine pt_mono (pt_not ha) fun σ H Q h => ?_
  obtain ⟨F, r, R, q⟩ := h
  exact ⟨F, r, R, q.bind.imp fun k r1 F1 H1 R1 S1 q1 => q1 F1 H1 R1 Stp.refl⟩
def eAndD (f g : PEn → Out Val) : PEn → Out Val := fun r => (f r).bind fun v r1 => (tru v r1).bind fun k r2 => if k = true then g r2 else .ok v r2
def eOrD (f g : PEn → Out Val) : PEn → Out Val := fun r => (f r).bind fun v r1 => (tru v r1).bind fun k r2 => if k = true then .ok v r2 else g r2
def eNotD (f : PEn → Out Val) : PEn → Out Val := fun r => (f r).bind fun v r1 => (tru v r1).bind fun k r2 => .ok (.v (.bool (!k))) r2
theorem j_one {op} {f : PEn → Out Val} (h : JE X W a f) : JE X W (.BoolOp op [a] pos) f := pe_one h
theorem j_and {f g : PEn → Out Val} (ha : JE X W a f) (hb : JE X W (.BoolOp .And (b :: rest) pos) g) : JE X W (.BoolOp .And (a :: b :: rest) pos) (eAndD f g) := by
  refine pe_mono (pe_andT ha hb) fun σ H Q h => ?_
  obtain ⟨F, r, R, q⟩ := h
  refine ⟨F, r, R, q.bind.imp fun v r1 F1 H1 R1 S1 q1 x rx => ?_⟩
  obtain ⟨k, t, e⟩ := tru_fin R1 rx q1.bind
  rw [e] at q1
  refine ⟨k, t, ?_⟩
  cases k with
  | true => exact ⟨F1, r1, R1, fwd S1.th q1⟩
  | false => exact q1 F1 H1 R1 Stp.refl x rx
theorem j_or {f g : PEn → Out Val} (ha : JE X W a f) (hb : JE X W (.BoolOp .Or (b :: rest) pos) g) : JE X W (.BoolOp .Or (a :: b :: rest) pos) (eOrD f g) := by
  refine pe_mono (pe_orT ha hb) fun σ H Q h => ?_
  obtain ⟨F, r, R, q⟩ := h
  refine ⟨F, r, R, q.bind.imp fun v r1 F1 H1 R1 S1 q1 x rx => ?_⟩
  obtain ⟨k, t, e⟩ := tru_fin R1 rx q1.bind
  rw [e] at q1
  refine ⟨k, t, ?_⟩
  cases k with
  | true => exact q1 F1 H1 R1 Stp.refl x rx
  | false => exact ⟨F1, r1, R1, fwd S1.th q1⟩
theorem j_not {f : PEn → Out Val} (ha : JE X W a f) : JE X W (.UnaryOp .Not a pos) (eNotD f) := by
  refine pe_mono (pe_notT ha) fun σ H Q h => ?_
  obtain ⟨F, r, R, q⟩ := h
  refine ⟨F, r, R, q.bind.imp fun v r1 F1 H1 R1 S1 q1 x rx => ?_⟩
  obtain ⟨k, t, e⟩ := tru_fin R1 rx q1.bind
  rw [e] at q1
  exact ⟨k, t, q1 F1 H1 R1 Stp.refl _ (.bl _)⟩
def eIf (t : PEn → Out Bool) (f g : PEn → Out Val) : PEn → Out Val := fun r => (t r).bind fun k r1 => if k = true then f r1 else g r1
theorem j_if {t : PEn → Out Bool} {f g : PEn → Out Val} (hc : JT X W c t) (ha : JE X W a f) (hb : JE X W b g) : JE X W (.IfExp c a b pos) (eIf t f g) := by
  refine pe_mono (pe_ifExp hc ha hb) fun σ H Q h => ?_
  obtain ⟨F, r, R, q⟩ := h
  refine ⟨F, r, R, q.bind.imp fun k r1 F1 H1 R1 S1 q1 => ?_⟩
  cases k with
  | true => exact ⟨F1, r1, R1, fwd S1.th q1⟩
  | false => exact ⟨F1, r1, R1, fwd S1.th q1⟩
end
end PD

/-! PDStm: statements. -/
namespace PD
open PySem PySem.Spec PyProof.Rows L2
/-- how a statement ends -/
inductive Fl where
  | next
  | brk
  | cont
  | ret (v : Val)
/-- the def's entry: what was frozen, the heap, the caller's lists by slots -/
structure Gm where
  F0 : Hp
  H0 : Hp
  pens : List (Nat × Addr)
  n : Nat
structure Stt (K : PySem.W.Frag) (G : Gm) (r : PEn) (σ : L2.St) (F H : Hp) : Prop where
  rel : Rel K F r σ H
  ln : r.length = G.n
  ff0 : Same G.F0 F
  fn0 : ∀ b, G.F0 b = none → G.H0 b ≠ none → F b = none
  kp0 : ∀ b o, G.H0 b = some o → b ∉ G.pens.map (·.2) → H b = some o
  th0 : ∀ b, G.H0 b ≠ none → H b ≠ none
  pen : ∀ p ∈ G.pens, σ[p.1]? = some (some (.ref p.2)) ∧ ∃ xs : List PyData, r[p.1]? = some (.l true xs)
  loc : ∀ (i : Nat) (xs : List PyData) (a : Addr), r[i]? = some (.l false xs) → σ[i]? = some (some (.ref a)) → G.H0 a = none
  pin : ∀ (i : Nat) (xs : List PyData) (a : Addr), r[i]? = some (.l true xs) → σ[i]? = some (some (.ref a)) → a ∈ G.pens.map (·.2)
section
variable {K : PySem.W.Frag} {mg : Str → Option Value} {W : WX} {G : Gm} {r r' r1 : PEn} {σ σ' : L2.St} {F F' F1 H H' H1 : Hp} {D : Ends}
theorem Stt.owned (T : Stt K G r σ F H) {b : Addr} (o : Ow r σ b) : b ∈ G.pens.map (·.2) ∨ G.H0 b = none := by
  obtain ⟨i, p, xs, e1, e2⟩ := o
  cases p with
  | true => exact .inl (T.pin i xs b e1 e2)
  | false => exact .inr (T.loc i xs b e1 e2)
theorem Stt.step (T : Stt K G r σ F H) (R : Rel K F' r' σ H') (S : Stp r σ F H r' F' H') : Stt K G r' σ F' H' where
  rel := R
  ln := S.ln.trans T.ln
  ff0 := T.ff0.trans S.ff
  fn0 := fun b f n => by
    by_cases hb : b ∈ G.pens.map (·.2)
    · obtain ⟨p, hp, e⟩ := List.mem_map.mp hb
      subst e
      obtain ⟨e1, xs, e2⟩ := T.pen p hp
      obtain ⟨ys, e3⟩ := S.pin p.1 xs e2
      obtain ⟨a, vs, e4, f', _⟩ := R.lst p.1 true ys e3
      rw [e1] at e4
      cases e4
      exact f'
    · refine S.fn b (T.fn0 b f n) (T.th0 b n) fun o => ?_
      rcases T.owned o with z | z
      · exact hb z
      · exact n z
  kp0 := fun b o e hb => S.kp b o (T.kp0 b o e hb) fun ob => by
    rcases T.owned ob with z | z
    · exact hb z
    · rw [z] at e; cases e
  th0 := fun b n => S.th b (T.th0 b n)
  pen := fun p hp => by
    obtain ⟨e1, xs, e2⟩ := T.pen p hp
    exact ⟨e1, S.pin p.1 xs e2⟩
  loc := fun i xs a e1 e2 => by
    obtain ⟨ys, e3⟩ := S.ow i false xs e1
    exact T.loc i ys a e3 e2
  pin := fun i xs a e1 e2 => by
    obtain ⟨ys, e3⟩ := S.ow i true xs e1
    exact T.pin i ys a e3 e2
def SPost (K : PySem.W.Frag) (mg : Str → Option Value) (W : WX) (G : Gm) (D : Ends) (o : Out Fl) : Prop := match o with
  | .bad => False
  | .ok fl r' => ∀ σ' F' H', Stt K G r' σ' F' H' → match fl with
    | .next => D.nx σ' H'
    | .brk => D.bk σ' H'
    | .cont => D.ct σ' H'
    | .ret v => ∀ x, RV K r' σ' G.H0 F' H' x v → D.rt x H'
  | .exc e r' => ∀ c d σ' F' H', Stt K G r' σ' F' H' → XV K mg F' H' e c d → W c d σ' H'
def rdS (K : PySem.W.Frag) (mg : Str → Option Value) (W : WX) (g : PEn → Out Fl) : TS := fun D σ H => ∃ G F r, Stt K G r σ F H ∧ SPost K mg W G D (g r)
abbrev JS (X : Cx) (W : WX) (st : Stmt) (g : PEn → Out Fl) : Prop := PS X st (rdS X.K X.mg W g)
abbrev JSs (X : Cx) (W : WX) (st : List Stmt) (g : PEn → Out Fl) : Prop := PSs X st (rdS X.K X.mg W g)
theorem SPost.bind {α : Type} {o : Out α} {k : α → PEn → Out Fl} (T : Stt K G r σ F H) (h : SPost K mg W G D (o.bind k)) : Post K mg W r σ F H o fun a r1 _ _ => SPost K mg W G D (k a r1) := by
  cases o with
  | bad => exact h
  | ok a r1 => exact fun _ _ _ _ => h
  | exc e r1 => exact fun c d F' H' R S x => h c d σ F' H' (T.step R S) x
/-- between two parts of an expression -/
theorem SPost.bindB {α β : Type} {o : Out α} {k : α → PEn → Out β} {q : β → PEn → Prop} (h : Post K mg W r σ F H (o.bind k) fun b r1 _ _ => q b r1) : Post K mg W r σ F H o fun a r1 F1 H1 => Post K mg W r1 σ F1 H1 (k a r1) fun b r2 _ _ => q b r2 := h.bind

/-! ### slots set -/
theorem getS {α : Type} {l : List α} {i j : Nat} {x y : α} (h : (l.set i x)[j]? = some y) : (j = i ∧ y = x) ∨ (j ≠ i ∧ l[j]? = some y) := by
  by_cases z : j = i
  · subst z
    rw [List.getElem?_set] at h
    simp only [if_true] at h
    split at h
    · exact .inl ⟨rfl, (Option.some.inj h).symm⟩
    · cases h
  · rw [List.getElem?_set_ne (Ne.symm z)] at h
    exact .inr ⟨z, h⟩
theorem Rel.set_d (R : Rel K F r σ H) {i : Nat} {x : V} {d : PyData} (h : DV K F x d) : Rel K F (r.set i (.d d)) (σ.set i (some x)) H where
  len := by rw [List.length_set, List.length_set]; exact R.len
  sub := R.sub
  dat := fun j e h1 => by
    rcases getS h1 with ⟨rfl, z⟩ | ⟨n, z⟩
    · cases z
      have hi : j < σ.length := by
        have := (List.getElem?_eq_some_iff.mp h1).1
        rw [List.length_set] at this
        rw [R.len]; exact this
      exact ⟨x, List.getElem?_set_self hi, h⟩
    · obtain ⟨v, e1, q⟩ := R.dat j e z
      exact ⟨v, by rw [List.getElem?_set_ne (Ne.symm n)]; exact e1, q⟩
  lst := fun j p xs h1 => by
    rcases getS h1 with ⟨rfl, z⟩ | ⟨n, z⟩
    · cases z
    · obtain ⟨a, vs, e1, q⟩ := R.lst j p xs z
      exact ⟨a, vs, by rw [List.getElem?_set_ne (Ne.symm n)]; exact e1, q⟩
  inj := fun j k p q xs ys a h1 h2 h3 h4 => by
    rcases getS h1 with ⟨_, z⟩ | ⟨n1, z1⟩
    · cases z
    · rcases getS h2 with ⟨_, z⟩ | ⟨n2, z2⟩
      · cases z
      · rw [List.getElem?_set_ne (Ne.symm n1)] at h3
        rw [List.getElem?_set_ne (Ne.symm n2)] at h4
        exact R.inj j k p q xs ys a z1 z2 h3 h4
theorem Rel.set_l (R : Rel K F r σ H) {i : Nat} {a : Addr} {vs : List V} {xs : List PyData} (f : F a = none) (h : H a = some (.lst vs)) (q : DVs K F vs xs) (o : ¬ Ow r σ a) : Rel K F (r.set i (.l false xs)) (σ.set i (some (.ref a))) H where
  len := by rw [List.length_set, List.length_set]; exact R.len
  sub := R.sub
  dat := fun j e h1 => by
    rcases getS h1 with ⟨rfl, z⟩ | ⟨n, z⟩
    · cases z
    · obtain ⟨v, e1, q⟩ := R.dat j e z
      exact ⟨v, by rw [List.getElem?_set_ne (Ne.symm n)]; exact e1, q⟩
  lst := fun j p xs h1 => by
    rcases getS h1 with ⟨rfl, z⟩ | ⟨n, z⟩
    · cases z
      have hi : j < σ.length := by
        have := (List.getElem?_eq_some_iff.mp h1).1
        rw [List.length_set] at this
        rw [R.len]; exact this
      exact ⟨a, vs, List.getElem?_set_self hi, f, h, q⟩
    · obtain ⟨a, vs, e1, q⟩ := R.lst j p xs z
      exact ⟨a, vs, by rw [List.getElem?_set_ne (Ne.symm n)]; exact e1, q⟩
  inj := fun j k p q xs ys b h1 h2 h3 h4 => by
    rcases getS h1 with ⟨e1, z1⟩ | ⟨n1, z1⟩
    · rcases getS h2 with ⟨e2, z2⟩ | ⟨n2, z2⟩
      · rw [e1, e2]
      · subst e1
        rcases getS h3 with ⟨_, z⟩ | ⟨n, _⟩
        · cases z
          rw [List.getElem?_set_ne (Ne.symm n2)] at h4
          exact absurd ⟨k, q, ys, z2, h4⟩ o
        · exact absurd rfl n
    · rcases getS h2 with ⟨e2, z2⟩ | ⟨n2, z2⟩
      · subst e2
        rcases getS h4 with ⟨_, z⟩ | ⟨n, _⟩
        · cases z
          rw [List.getElem?_set_ne (Ne.symm n1)] at h3
          exact absurd ⟨j, p, xs, z1, h3⟩ o
        · exact absurd rfl n
      · rw [List.getElem?_set_ne (Ne.symm n1)] at h3
        rw [List.getElem?_set_ne (Ne.symm n2)] at h4
        exact R.inj j k p q xs ys b z1 z2 h3 h4
/-- slot i does not belong to the caller -/
def free (r : PEn) (i : Nat) : Bool := match r[i]? with
  | some (.l true _) => false
  | none => false
  | _ => true
theorem Stt.set_d (T : Stt K G r σ F H) {i : Nat} {x : V} {d : PyData} (hf : free r i = true) (h : DV K F x d) : Stt K G (r.set i (.d d)) (σ.set i (some x)) F H where
  rel := T.rel.set_d h
  ln := by rw [List.length_set]; exact T.ln
  ff0 := T.ff0
  fn0 := T.fn0
  kp0 := T.kp0
  th0 := T.th0
  pen := fun p hp => by
    obtain ⟨e1, xs, e2⟩ := T.pen p hp
    have n : p.1 ≠ i := by
      intro z
      unfold free at hf
      rw [← z, e2] at hf
      cases hf
    exact ⟨by rw [List.getElem?_set_ne (Ne.symm n)]; exact e1, xs, by rw [List.getElem?_set_ne (Ne.symm n)]; exact e2⟩
  loc := fun j xs a h1 h2 => by
    rcases getS h1 with ⟨_, z⟩ | ⟨n, z⟩
    · cases z
    · rw [List.getElem?_set_ne (Ne.symm n)] at h2
      exact T.loc j xs a z h2
  pin := fun j xs a h1 h2 => by
    rcases getS h1 with ⟨_, z⟩ | ⟨n, z⟩
    · cases z
    · rw [List.getElem?_set_ne (Ne.symm n)] at h2
      exact T.pin j xs a z h2
theorem Stt.set_l (T : Stt K G r σ F H) {i : Nat} {a : Addr} {vs : List V} {xs : List PyData} (hf : free r i = true) (f : F a = none) (h : H a = some (.lst vs)) (q : DVs K F vs xs) (o : ¬ Ow r σ a) (h0 : G.H0 a = none) : Stt K G (r.set i (.l false xs)) (σ.set i (some (.ref a))) F H where
  rel := T.rel.set_l f h q o
  ln := by rw [List.length_set]; exact T.ln
  ff0 := T.ff0
  fn0 := T.fn0
  kp0 := T.kp0
  th0 := T.th0
  pen := fun p hp => by
    obtain ⟨e1, xs, e2⟩ := T.pen p hp
    have n : p.1 ≠ i := by
      intro z
      unfold free at hf
      rw [← z, e2] at hf
      cases hf
    exact ⟨by rw [List.getElem?_set_ne (Ne.symm n)]; exact e1, xs, by rw [List.getElem?_set_ne (Ne.symm n)]; exact e2⟩
  loc := fun j xs b h1 h2 => by
    rcases getS h1 with ⟨e, z⟩ | ⟨n, z⟩
    · subst e
      rcases getS h2 with ⟨_, z⟩ | ⟨n, _⟩
      · cases z; exact h0
      · exact absurd rfl n
    · rw [List.getElem?_set_ne (Ne.symm n)] at h2
      exact T.loc j xs b z h2
  pin := fun j xs a h1 h2 => by
    rcases getS h1 with ⟨_, z⟩ | ⟨n, z⟩
    · cases z
    · rw [List.getElem?_set_ne (Ne.symm n)] at h2
      exact T.pin j xs a z h2
/-- the list of slot i is changed -/
theorem Rel.mut (R : Rel K F r σ H) {i : Nat} {p : Bool} {a : Addr} {xs ys : List PyData} {vs : List V} (e : r[i]? = some (.l p xs)) (ea : σ[i]? = some (some (.ref a))) (q : DVs K F vs ys) :
    Rel K F (r.set i (.l p ys)) σ (upd H a (.lst vs)) ∧ Stp r σ F H (r.set i (.l p ys)) F (upd H a (.lst vs)) := by
  obtain ⟨a', ws, e1, fa, ha, _⟩ := R.lst i p xs e
  rw [ea] at e1
  cases e1
  have hi : i < r.length := (List.getElem?_eq_some_iff.mp e).1
  have nf : ∀ b o, F b = some o → b ≠ a := fun b o h z => by rw [z, fa] at h; cases h
  have gs : ∀ (j : Nat), j ≠ i → (r.set i (.l p ys))[j]? = r[j]? := fun j hj => List.getElem?_set_ne (Ne.symm hj)
  refine ⟨⟨by rw [List.length_set]; exact R.len, fun b o h => by rw [upd_ne (nf b o h)]; exact R.sub b o h, fun j d h => ?_, fun j p' zs h => ?_, fun j k p1 p2 xs' ys' b h1 h2 h3 h4 => ?_⟩,
    ⟨Same.refl _, fun b f _ _ => f, fun b o h n => ?_, fun b n => ?_, List.length_set, fun j p' zs h => ?_, fun j zs h => ?_, fun j d h => ?_, fun j zs h => ?_⟩⟩
  · rcases getS h with ⟨_, z⟩ | ⟨n, z⟩
    · cases z
    · exact R.dat j d z
  · rcases getS h with ⟨rfl, z⟩ | ⟨n, z⟩
    · cases z
      exact ⟨a, vs, ea, fa, upd_same, q⟩
    · obtain ⟨c, us, e1, f, hc, q1⟩ := R.lst j p' zs z
      have : c ≠ a := by
        rintro rfl
        exact n (R.inj _ _ _ _ _ _ _ z e e1 ea)
      exact ⟨c, us, e1, f, by rw [upd_ne this]; exact hc, q1⟩
  · have w : ∀ {j : Nat} {p' : Bool} {zs : List PyData}, (r.set i (.l p ys))[j]? = some (.l p' zs) → ∃ (p'' : Bool) (us : List PyData), r[j]? = some (.l p'' us) := fun {j p' zs} h => by
      rcases getS h with ⟨z, _⟩ | ⟨_, z⟩
      · exact ⟨_, _, by rw [z]; exact e⟩
      · exact ⟨_, _, z⟩
    obtain ⟨_, _, w1⟩ := w h1
    obtain ⟨_, _, w2⟩ := w h2
    exact R.inj _ _ _ _ _ _ _ w1 w2 h3 h4
  · have : b ≠ a := by
      rintro rfl
      exact n ⟨i, p, xs, e, ea⟩
    rw [upd_ne this]
    exact h
  · by_cases z : b = a
    · subst z; rw [upd_same]; simp
    · rw [upd_ne z]; exact n
  · rcases getS h with ⟨rfl, z⟩ | ⟨n, z⟩
    · cases z; exact ⟨xs, e⟩
    · exact ⟨zs, z⟩
  · by_cases z : j = i
    · subst z
      rw [e] at h
      cases h
      exact ⟨ys, List.getElem?_set_self hi⟩
    · exact ⟨zs, by rw [gs j z]; exact h⟩
  · have z : j ≠ i := by
      rintro rfl
      rw [e] at h
      cases h
    rw [gs j z]
    exact h
  · by_cases z : j = i
    · subst z
      rw [e] at h
      cases h
      exact .inl ⟨ys, List.getElem?_set_self hi⟩
    · exact .inl ⟨zs, by rw [gs j z]; exact h⟩
end

section
variable {X : Cx} {W : WX} {a b c e : Expr} {st : Stmt} {rest body body' : List Stmt} {pos pos' p p2 : Pos}
/-! ### blocks -/
def sSkip : PEn → Out Fl := fun r => .ok .next r
def sSeq (g h : PEn → Out Fl) : PEn → Out Fl := fun r => (g r).bind fun fl r1 => match fl with
  | .next => h r1
  | fl => .ok fl r1
theorem ss_nil : JSs X W [] sSkip := by
  refine pss_mono pss_nil fun D σ H h => ?_
  obtain ⟨G, F, r, T, q⟩ := h
  exact q σ F H T
theorem ss_one {g : PEn → Out Fl} (h : JS X W st g) : JSs X W [st] g := pss_one h
theorem ss_cons {g k : PEn → Out Fl} (h : JS X W st g) (hs : JSs X W rest k) : JSs X W (st :: rest) (sSeq g k) := by
  refine pss_mono (pss_cons h hs) fun D σ H h => ?_
  obtain ⟨G, F, r, T, q⟩ := h
  refine ⟨G, F, r, T, ?_⟩
  unfold sSeq at q
  cases z : g r with
  | bad => rw [z] at q; exact q.elim
  | exc e r1 => rw [z] at q; exact q
  | ok fl r1 =>
    rw [z] at q
    cases fl with
    | next => exact fun σ' F' H' T' => ⟨G, F', r1, T', q⟩
    | brk => exact q
    | cont => exact q
    | ret v => exact q
theorem s_pass : JS X W (.Pass pos) sSkip := by
  refine ps_mono ps_pass fun D σ H h => ?_
  obtain ⟨G, F, r, T, q⟩ := h
  exact q σ F H T
theorem s_break : JS X W (.Break pos) (fun r => .ok .brk r) := by
  refine ps_mono ps_break fun D σ H h => ?_
  obtain ⟨G, F, r, T, q⟩ := h
  exact q σ F H T
theorem s_cont : JS X W (.Continue pos) (fun r => .ok .cont r) := by
  refine ps_mono ps_continue fun D σ H h => ?_
  obtain ⟨G, F, r, T, q⟩ := h
  exact q σ F H T
def sExpr (f : PEn → Out Val) : PEn → Out Fl := fun r => (f r).bind fun _ r1 => .ok .next r1
theorem s_expr {f : PEn → Out Val} (h : JE X W e f) (hs : swapsWith e none pos.line X.env = pure false := by rfl) : JS X W (.Expr e pos) (sExpr f) := by
  refine ps_mono (ps_expr h hs) fun D σ H h => ?_
  obtain ⟨G, F, r, T, q⟩ := h
  exact ⟨F, r, T.rel, (SPost.bind T q).imp fun v r1 F1 H1 R1 S1 q1 x rx => q1 σ F1 H1 (T.step R1 S1)⟩
def sRet (f : PEn → Out Val) : PEn → Out Fl := fun r => (f r).bind fun v r1 => .ok (.ret v) r1
theorem s_ret {f : PEn → Out Val} (h : JE X W e f) : JS X W (.Return (some e) pos) (sRet f) := by
  refine ps_mono (ps_ret h) fun D σ H h => ?_
  obtain ⟨G, F, r, T, q⟩ := h
  exact ⟨F, r, T.rel, (SPost.bind T q).imp fun v r1 F1 H1 R1 S1 q1 x rx => q1 σ F1 H1 (T.step R1 S1) x (rx.base T.th0)⟩
theorem s_retN : JS X W (.Return none pos) (fun r => .ok (.ret (.v .none)) r) := by
  refine ps_mono ps_retN fun D σ H h => ?_
  obtain ⟨G, F, r, T, q⟩ := h
  exact q σ F H T .non .non
def sIf (t : PEn → Out Bool) (g h : PEn → Out Fl) : PEn → Out Fl := fun r => (t r).bind fun k r1 => if k = true then g r1 else h r1
theorem s_if {t : PEn → Out Bool} {g h : PEn → Out Fl} (hc : JT X W c t) (h1 : JSs X W body g) (h2 : JSs X W body' h) : JS X W (.If c body body' pos) (sIf t g h) := by
  refine ps_mono (ps_if hc h1 h2) fun D σ H h => ?_
  obtain ⟨G, F, r, T, q⟩ := h
  refine ⟨F, r, T.rel, (SPost.bind T q).imp fun k r1 F1 H1 R1 S1 q1 => ?_⟩
  cases k with
  | true => exact ⟨G, F1, r1, T.step R1 S1, q1⟩
  | false => exact ⟨G, F1, r1, T.step R1 S1, q1⟩
/-! ### assignments -/
def asg (i : Nat) (v : Val) : PEn → Out Fl := fun r => if free r i = true then match v with
    | .v d => .ok .next (r.set i (.d d))
    | .n xs => .ok .next (r.set i (.l false xs))
    | .b j => match (Val.b j).fz r with
      | some (d, r1) => .ok .next (r1.set i (.d d))
      | none => .bad
  else .bad
theorem free_fz {r r1 : PEn} {v : Val} {d : PyData} {i : Nat} (h : free r i = true) (e : v.fz r = some (d, r1)) : free r1 i = true := by
  cases v with
  | v d' => simp only [Val.fz, Option.some.injEq, Prod.mk.injEq] at e; rw [← e.2]; exact h
  | n xs => simp only [Val.fz, Option.some.injEq, Prod.mk.injEq] at e; rw [← e.2]; exact h
  | b j =>
    simp only [Val.fz] at e
    split at e
    · simp only [Option.some.injEq, Prod.mk.injEq] at e; rw [← e.2]; exact h
    · rename_i xs z
      simp only [Option.some.injEq, Prod.mk.injEq] at e
      rw [← e.2]
      have hj : j < r.length := (List.getElem?_eq_some_iff.mp z).1
      unfold free at h ⊢
      by_cases q : i = j
      · subst q
        rw [List.getElem?_set_self hj]
      · rw [List.getElem?_set_ne (Ne.symm q)]
        exact h
    · cases e
/-- a value is stored -/
theorem asg_ok {K : PySem.W.Frag} {mg : Str → Option Value} {G : Gm} {r0 r : PEn} {σ : L2.St} {F0 H0 F H : Hp} {D : Ends} {x : V} {v : Val} {i : Nat} (T0 : Stt K G r0 σ F0 H0) (R : Rel K F r σ H) (S : Stp r0 σ F0 H0 r F H) (rx : RV K r σ H0 F H x v)
    (q : SPost K mg W G D (asg i v r)) : D.nx (σ.set i (some x)) H := by
  unfold asg at q
  split at q
  · rename_i hf
    have T := T0.step R S
    cases v with
    | v d => exact q _ _ _ (T.set_d hf rx)
    | n xs =>
      obtain ⟨a, vs, rfl, h0, f, o, h, qs⟩ := rx
      refine q _ _ _ (T.set_l hf f h qs o ?_)
      cases z : G.H0 a with
      | none => rfl
      | some u => exact absurd h0 (T0.th0 a (by rw [z]; simp))
    | b j =>
      simp only at q
      cases z : (Val.b j).fz r with
      | none => rw [z] at q; exact q.elim
      | some y =>
        obtain ⟨d, r1⟩ := y
        rw [z] at q
        obtain ⟨F1, s1, R1, q1, S1, _⟩ := fz1 R S rx.rz z
        exact q _ _ _ ((T0.step R1 S1).set_d (free_fz hf z) q1)
  · exact q.elim
def sSet (i : Nat) (f : PEn → Out Val) : PEn → Out Fl := fun r => (f r).bind (asg i)
theorem s_set {i : Nat} {x : Str} {f : PEn → Out Val} (hN : X.N.Nodup) (hi : X.N[i]? = some x) (hx : Loc X.env.scope x) (h : JE X W e f)
    (hf : X.fn x = true ∨ X.env.scope.names.lookup x = some .local := by first | exact .inl rfl | exact .inr rfl | assumption)
    (hs : swapsWithSole [.Name x pos'] e pos.line X.env = pure false := by rfl) (hw : swappedStores [.Name x pos'] e X.env = pure none := by rfl) : JS X W (.Assign [.Name x pos'] e pos) (sSet i f) := by
  refine ps_mono (ps_asg h (pg_name hN hi hx hf) hs hw) fun D σ H h => ?_
  obtain ⟨G, F, r, T, q⟩ := h
  exact ⟨F, r, T.rel, (SPost.bind T q).imp fun v r1 F1 H1 R1 S1 q1 x rx => asg_ok T R1 S1 rx q1⟩
end
end PD

/-! PDLoop: targets, unpacking, parallel assignments, stores, loops. -/
namespace PD
open PySem PySem.Spec PyProof.Rows L2
/-! ### targets -/
def setP (l : List (Nat × V)) (σ : L2.St) : L2.St := l.foldl (fun σ p => σ.set p.1 (some p.2)) σ
def setE (l : List (Nat × PyData)) (r : PEn) : PEn := l.foldl (fun r p => r.set p.1 (.d p.2)) r
abbrev PD2 (K : PySem.W.Frag) (F : Hp) : List (Nat × V) → List (Nat × PyData) → Prop := Paired fun p q => p.1 = q.1 ∧ DV K F p.2 q.2
def rdG (K : PySem.W.Frag) (g : PyData → Option (List (Nat × PyData))) : TG := fun v σ H Q => ∃ F d l, Same F H ∧ DV K F v d ∧ g d = some l ∧ ∀ l', PD2 K F l' l → Q (setP l' σ) H
def rdGs (K : PySem.W.Frag) (g : List PyData → Option (List (Nat × PyData))) : TGs := fun vs σ H Q => ∃ F ds l, Same F H ∧ DVs K F vs ds ∧ g ds = some l ∧ ∀ l', PD2 K F l' l → Q (setP l' σ) H
abbrev JG (X : Cx) (tg : Expr) (g : PyData → Option (List (Nat × PyData))) : Prop := PG X tg (rdG X.K g)
abbrev JGs (X : Cx) (tgs : List Expr) (g : List PyData → Option (List (Nat × PyData))) : Prop := PGs X tgs (rdGs X.K g)
def gNm (i : Nat) : PyData → Option (List (Nat × PyData)) := fun d => some [(i, d)]
def gsN : List PyData → Option (List (Nat × PyData))
  | [] => some []
  | _ => none
def gsC (g : PyData → Option (List (Nat × PyData))) (gs : List PyData → Option (List (Nat × PyData))) : List PyData → Option (List (Nat × PyData))
  | d :: ds => match g d, gs ds with
    | some l, some k => some (l ++ k)
    | _, _ => none
  | [] => none
def gTp (n : Nat) (gs : List PyData → Option (List (Nat × PyData))) : PyData → Option (List (Nat × PyData))
  | .tuple ds => if ds.length = n then gs ds else none
  | _ => none
section
variable {X : Cx} {W : WX} {a b c e tg iter : Expr} {es tgs : List Expr} {pos pos' p p2 : Pos}
theorem setP_app (l k : List (Nat × V)) (σ : L2.St) : setP (l ++ k) σ = setP k (setP l σ) := List.foldl_append
theorem PD2.app {K : PySem.W.Frag} {F : Hp} : ∀ {l l2 : List (Nat × V)} {k k2 : List (Nat × PyData)}, PD2 K F l k → PD2 K F l2 k2 → PD2 K F (l ++ l2) (k ++ k2)
  | _, _, _, _, .nil, h => h
  | _, _, _, _, .cons h t, h2 => .cons h (PD2.app t h2)
theorem g_nm {i : Nat} {x : Str} (hN : X.N.Nodup) (hi : X.N[i]? = some x) (hx : Loc X.env.scope x) (hf : X.fn x = true ∨ X.env.scope.names.lookup x = some .local := by first | exact .inl rfl | exact .inr rfl | assumption) : JG X (.Name x pos) (gNm i) := by
  refine ⟨fun pins s σ H v u Q I rv h => (pg_name hN hi hx hf).run pins s σ H v u Q I rv ?_⟩
  obtain ⟨F, d, l, e, hd, q, k⟩ := h
  simp only [gNm, Option.some.injEq] at q
  subst q
  exact k [(i, v)] (.cons ⟨rfl, hd⟩ .nil)
theorem gs_nil : JGs X [] gsN := by
  refine ⟨fun pins s σ H vs us Q I rv h => pgs_nil.run pins s σ H vs us Q I rv ?_⟩
  obtain ⟨F, ds, l, e, hd, q, k⟩ := h
  cases hd with
  | nil => simp only [gsN, Option.some.injEq] at q; subst q; exact ⟨rfl, k [] .nil⟩
  | cons _ _ => cases q
theorem gs_cons {g : PyData → Option (List (Nat × PyData))} {gs : List PyData → Option (List (Nat × PyData))} (h1 : JG X e g) (h2 : JGs X es gs)
    (hs : (assignEach (e :: es) X.env).map (·.2) = assign e X.env :: (assignEach es X.env).map (·.2) := by rfl) : JGs X (e :: es) (gsC g gs) := by
  refine ⟨fun pins s σ H vs us Q I rv h => (pgs_cons h1 h2 hs).run pins s σ H vs us Q I rv ?_⟩
  obtain ⟨F, ds, l, e, hd, q, k⟩ := h
  cases hd with
  | nil => cases q
  | cons hx ht =>
    rename_i x xs d ds
    simp only [gsC] at q
    cases z : g d with
    | none => rw [z] at q; cases q
    | some l1 =>
      cases z2 : gs ds with
      | none => rw [z, z2] at q; cases q
      | some l2 =>
        rw [z, z2] at q
        simp only [Option.some.injEq] at q
        subst q
        refine ⟨x, xs, rfl, F, d, l1, e, hx, z, fun k1 h1 => ⟨F, ds, l2, e, ht, z2, fun k2 h2 => ?_⟩⟩
        have := k (k1 ++ k2) (PD2.app h1 h2)
        rw [setP_app] at this
        exact this
theorem g_tup {gs : List PyData → Option (List (Nat × PyData))} {k n : Nat} (hc : X.calm = true) (h : JGs X es gs)
    (hn : (assignEach es X.env).length = n := by rfl) (hst : (assignEach es X.env).findIdx? (·.1) = none := by rfl) : JG X (.Tuple es k pos) (gTp n gs) := by
  refine ⟨fun pins s σ H v u Q I rv h2 => (pg_tup hc h hn hst).run pins s σ H v u Q I rv ?_⟩
  obtain ⟨F, d, l, e, hd, q, k⟩ := h2
  cases hd with
  | tup hs ha =>
    simp only [gTp] at q
    split at q
    · rename_i hl
      exact ⟨_, _, rfl, seqT_mono e hs, by rw [ha.len]; exact hl, F, _, l, e, ha, q, k⟩
    · cases q
  | non => cases q
  | bl _ => cases q
  | int _ => cases q
  | str _ => cases q
  | lst _ _ => cases q
  | dct _ => cases q
end
section
variable {K : PySem.W.Frag} {mg : Str → Option Value} {W : WX} {G : Gm} {r r' r1 : PEn} {σ σ' : L2.St} {F F' F1 H H' H1 : Hp} {D : Ends}
def frees (l : List (Nat × PyData)) (r : PEn) : Bool := l.all fun p => free r p.1
theorem free_set {i j : Nat} {d : PyData} (h : free r j = true) : free (r.set i (.d d)) j = true := by
  unfold free at h ⊢
  by_cases z : j = i
  · subst z
    have hj : j < r.length := by
      cases q : r[j]? with
      | none => rw [q] at h; cases h
      | some _ => exact (List.getElem?_eq_some_iff.mp q).1
    rw [List.getElem?_set_self hj]
  · rw [List.getElem?_set_ne (Ne.symm z)]
    exact h
theorem Stt.sets : ∀ {l' : List (Nat × V)} {l : List (Nat × PyData)} {r : PEn} {σ : L2.St}, Stt K G r σ F H → PD2 K F l' l → frees l r = true → Stt K G (setE l r) (setP l' σ) F H
  | _, _, _, _, T, .nil, _ => T
  | _, q :: l, r, σ, T, .cons (a := p) h t, hf => by
    have hf' : free r q.1 = true ∧ frees l r = true := by simpa [frees] using hf
    have e1 : p.1 = q.1 := h.1
    have T1 := T.set_d (x := p.2) hf'.1 h.2
    have f2 : frees l (r.set q.1 (.d q.2)) = true := by
      unfold frees at hf' ⊢
      rw [List.all_eq_true] at hf' ⊢
      exact fun z hz => free_set (hf'.2 z hz)
    rw [← e1] at T1 f2
    have := Stt.sets T1 t f2
    unfold setE setP at this ⊢
    rw [List.foldl_cons, List.foldl_cons, ← e1]
    exact this
theorem Rel.sets : ∀ {l' : List (Nat × V)} {l : List (Nat × PyData)} {r : PEn} {σ : L2.St}, Rel K F r σ H → PD2 K F l' l → Rel K F (setE l r) (setP l' σ) H
  | _, _, _, _, T, .nil => T
  | _, q :: l, r, σ, T, .cons (a := p) h t => by
    have e1 : p.1 = q.1 := h.1
    have T1 := T.set_d (i := q.1) (x := p.2) h.2
    rw [← e1] at T1
    have := Rel.sets T1 t
    unfold setE setP at this ⊢
    rw [List.foldl_cons, List.foldl_cons, ← e1]
    exact this
end
section
variable {X : Cx} {W : WX} {a b c e tg iter : Expr} {es tgs : List Expr} {body : List Stmt} {pos pos' p p2 : Pos}
def unp (g : PyData → Option (List (Nat × PyData))) (v : Val) : PEn → Out Fl := fun r => match v.fz r with
  | some (d, r2) => match g d with
    | some l => if frees l r2 = true then .ok .next (setE l r2) else .bad
    | none => .bad
  | none => .bad
def sUnp (g : PyData → Option (List (Nat × PyData))) (f : PEn → Out Val) : PEn → Out Fl := fun r => (f r).bind (unp g)
theorem s_unp {g : PyData → Option (List (Nat × PyData))} {f : PEn → Out Val} (hg : JG X tg g) (h : JE X W e f)
    (hs : swapsWithSole [tg] e pos.line X.env = pure false := by rfl) (hw : swappedStores [tg] e X.env = pure none := by rfl)
    (h1 : (assignEach [tg] X.env).map (·.2) = [assign tg X.env] := by rfl) : JS X W (.Assign [tg] e pos) (sUnp g f) := by
  refine ps_mono (ps_asg h hg hs hw h1) fun D σ H h => ?_
  obtain ⟨G, F, r, T, q⟩ := h
  refine ⟨F, r, T.rel, (SPost.bind T q).imp fun v r1 F1 H1 R1 S1 q1 x rx => ?_⟩
  unfold unp at q1
  cases z : v.fz r1 with
  | none => rw [z] at q1; exact q1.elim
  | some y =>
    obtain ⟨d, r2⟩ := y
    rw [z] at q1
    simp only at q1
    cases z2 : g d with
    | none => rw [z2] at q1; exact q1.elim
    | some l =>
      rw [z2] at q1
      simp only at q1
      split at q1
      · rename_i hf
        obtain ⟨F2, s2, R2, q2, S2, _⟩ := fz1 R1 S1 rx.rz z
        exact ⟨F2, d, l, R2.sub, q2, z2, fun l' hl => q1 _ _ _ ((T.step R2 S2).sets hl hf)⟩
      · exact q1.elim
/-! ### several at once -/
def setsV : List Nat → List V → L2.St → L2.St
  | i :: is, x :: xs, σ => setsV is xs (σ.set i (some x))
  | _, _, σ => σ
def asgs : List Nat → List Val → PEn → Out Fl
  | [], [], r => .ok .next r
  | i :: is, v :: vs, r => match v with
    | .b _ => .bad
    | v => (asg i v r).bind fun _ r1 => asgs is vs r1
  | _, _, _ => .bad
theorem ow_setd {r : PEn} {σ : L2.St} {i : Nat} {d : PyData} {x : V} {b : Addr} (o : Ow (r.set i (.d d)) (σ.set i (some x)) b) : Ow r σ b := by
  obtain ⟨j, p, xs, e1, e2⟩ := o
  rcases getS e1 with ⟨_, z⟩ | ⟨n, z⟩
  · cases z
  · rw [List.getElem?_set_ne (Ne.symm n)] at e2
    exact ⟨j, p, xs, z, e2⟩
theorem ow_setl {r : PEn} {σ : L2.St} {i : Nat} {ys : List PyData} {a b : Addr} (o : Ow (r.set i (.l false ys)) (σ.set i (some (.ref a))) b) : b = a ∨ Ow r σ b := by
  obtain ⟨j, p, xs, e1, e2⟩ := o
  rcases getS e1 with ⟨rfl, z⟩ | ⟨n, z⟩
  · rcases getS e2 with ⟨_, z2⟩ | ⟨n, _⟩
    · cases z2; exact .inl rfl
    · exact absurd rfl n
  · rw [List.getElem?_set_ne (Ne.symm n)] at e2
    exact .inr ⟨j, p, xs, z, e2⟩
theorem asgs_ok {K : PySem.W.Frag} {mg : Str → Option Value} {G : Gm} {F H : Hp} {D : Ends} : ∀ {is : List Nat} {xs : List V} {vs : List Val} {r : PEn} {σ : L2.St}, Stt K G r σ F H → Paired (RV K r σ G.H0 F H) xs vs → NDl xs vs → SPost K mg W G D (asgs is vs r) → D.nx (setsV is xs σ) H
  | [], _, _, r, σ, T, .nil, _, q => q _ _ _ T
  | [], _, _ :: _, r, σ, T, .cons _ _, _, q => q.elim
  | _ :: _, _, [], r, σ, T, .nil, _, q => q.elim
  | i :: is, x :: xs, v :: vs, r, σ, T, .cons h t, nd, q => by
    cases v with
    | b j => exact q.elim
    | v d =>
      simp only [asgs, asg] at q
      split at q
      · rename_i hf
        have T1 := T.set_d (x := x) hf h
        refine asgs_ok (is := is) T1 (stay t (fun a => ?_) fun j y => ?_) nd q
        · exact fun o => ow_setd o
        · exact fun hj => absurd hj (nob q j)
      · exact q.elim
    | n ys =>
      simp only [asgs, asg] at q
      split at q
      · rename_i hf
        obtain ⟨a, us, rfl, h0, f, o, h1, hq⟩ := h
        have T1 := T.set_l hf f h1 hq o h0
        refine asgs_ok (is := is) T1 ?_ nd.2 q
        exact stay2 nd.1 t (fun j => nob q j)
      · exact q.elim
where
  nob {is : List Nat} {vs : List Val} {r : PEn} {K : PySem.W.Frag} {mg : Str → Option Value} {W : WX} {G : Gm} {D : Ends} (q : SPost K mg W G D (asgs is vs r)) : ∀ j, Val.b j ∉ vs := by
    induction vs generalizing is r with
    | nil => intro j h; cases h
    | cons v vs ih =>
      intro j h
      cases is with
      | nil => exact q.elim
      | cons i is =>
        rcases List.mem_cons.mp h with e | h
        · subst e; exact q.elim
        · cases v with
          | b k => exact q.elim
          | v d =>
            simp only [asgs, asg] at q
            split at q
            · exact ih q j ‹_›
            · exact q.elim
          | n ys =>
            simp only [asgs, asg] at q
            split at q
            · exact ih q j ‹_›
            · exact q.elim
  stay {K : PySem.W.Frag} {r r1 : PEn} {σ σ1 : L2.St} {H0 F H : Hp} {xs : List V} {vs : List Val} (t : Paired (RV K r σ H0 F H) xs vs) (ho : ∀ b, Ow r1 σ1 b → Ow r σ b) (nb : ∀ (j : Nat) (y : V), Val.b j ∈ vs → RV K r1 σ1 H0 F H y (.b j)) : Paired (RV K r1 σ1 H0 F H) xs vs := by
    induction t with
    | nil => exact .nil
    | cons h _t ih =>
      rename_i x v _ _
      refine .cons ?_ (ih fun j y hj => nb j y (List.mem_cons_of_mem _ hj))
      cases v with
      | v d => exact h
      | n ys => obtain ⟨a, us, e, h0, f, o, h1⟩ := h; exact ⟨a, us, e, h0, f, fun z => o (ho a z), h1⟩
      | b j => exact nb j x List.mem_cons_self
  stay2 {K : PySem.W.Frag} {r : PEn} {σ : L2.St} {H0 F H : Hp} {i : Nat} {a : Addr} {ys : List PyData} {xs : List V} {vs : List Val} (nd : ∀ (j : Nat) (ws : List PyData), vs[j]? = some (.n ws) → xs[j]? ≠ some (.ref a)) (t : Paired (RV K r σ H0 F H) xs vs) (nb : ∀ j, Val.b j ∉ vs) :
      Paired (RV K (r.set i (.l false ys)) (σ.set i (some (.ref a))) H0 F H) xs vs := by
    induction t with
    | nil => exact .nil
    | cons h _t ih =>
      rename_i x v _ _
      refine .cons ?_ (ih (fun j ws e => nd (j + 1) ws (by simpa using e)) fun j hj => nb j (List.mem_cons_of_mem _ hj))
      cases v with
      | v d => exact h
      | n zs =>
        obtain ⟨b, us, e, h0, f, o, h1⟩ := h
        refine ⟨b, us, e, h0, f, fun z => ?_, h1⟩
        rcases ow_setl z with z | z
        · subst z
          exact nd 0 zs rfl (by rw [e]; rfl)
        · exact o z
      | b j => exact absurd List.mem_cons_self (nb j)
def sPar (is : List Nat) (fs : PEn → Out (List Val)) : PEn → Out Fl := fun r => (fs r).bind fun vs r1 => if vs.length = is.length then asgs is vs r1 else .bad
theorem s_par {i j : Nat} {x y : Str} {px py pt : Pos} {kt k2 pt2} {fs : PEn → Out (List Val)} (hc : X.calm = true) (hN : X.N.Nodup) (hi : X.N[i]? = some x) (hj : X.N[j]? = some y) (hij : i ≠ j)
    (hx : X.env.scope.names.lookup x = some .local) (hy : X.env.scope.names.lookup y = some .local) (ha : JA X W [a, b] fs)
    (hw : swappedStores [.Tuple [.Name x px, .Name y py] kt pt] (.Tuple [a, b] k2 pt2) X.env = pure (some [x, y]) := by rfl)
    (hs : swapsWithSole [.Tuple [.Name x px, .Name y py] kt pt] (.Tuple [a, b] k2 pt2) pos.line X.env = pure false := by rfl) :
    JS X W (.Assign [.Tuple [.Name x px, .Name y py] kt pt] (.Tuple [a, b] k2 pt2) pos) (sPar [i, j] fs) := by
  refine ps_mono (ps_par hc hN hi hj hij hx hy ha hw hs) fun D σ H h => ?_
  obtain ⟨G, F, r, T, q⟩ := h
  refine ⟨F, r, T.rel, (SPost.bind T q).imp fun vs r1 F1 H1 R1 S1 q1 xs rx nd => ?_⟩
  have T1 := T.step R1 S1
  have rx' := RVs.base T.th0 rx
  split at q1
  · rename_i hl
    have z := asgs_ok (is := [i, j]) T1 rx' nd q1
    have hx : xs.length = 2 := by rw [Paired.length rx]; exact hl
    match xs, hx, z with
    | [v, w], _, z => exact ⟨v, w, rfl, z⟩
  · exact q1.elim
end
end PD

/-! PDMut: lists that change: append, extend, pop, stores; for, while. -/
namespace PD
open PySem PySem.Spec PyProof.Rows L2
section
variable {X : Cx} {W : WX} {a b c e tg iter : Expr} {es tgs : List Expr} {body : List Stmt} {pos pos' p p2 apos cpos px : Pos}
def eApp (i : Nat) (f : PEn → Out Val) : PEn → Out Val := fun r => match r[i]? with
  | some (.l _ _) => (f r).bind fun v r1 => match v.fz r1 with
    | some (d, r2) => match r2[i]? with
      | some (.l p xs) => if xs.length < many then .ok (.v .none) (r2.set i (.l p (xs ++ [d]))) else .bad
      | _ => .bad
    | none => .bad
  | _ => .bad
theorem rd_append {K : PySem.W.Frag} {mg : Str → Option Value} {i : Nat} {f : PEn → Out Val} (σ : L2.St) (H : Hp) (Q : VK) (h : rdE K mg W (eApp i f) σ H Q) : tBM K "list" rAppend (tVar i) (tCons (rdE K mg W f) tNil) σ H Q := by
  obtain ⟨F, r, R, q⟩ := h
  unfold eApp at q
  cases z : r[i]? with
  | none => rw [z] at q; exact q.elim
  | some y =>
    cases y with
    | u => rw [z] at q; exact q.elim
    | d d => rw [z] at q; exact q.elim
    | l p0 xs0 =>
      rw [z] at q
      obtain ⟨l, vs0, e1, f0, h0, _⟩ := R.lst i p0 xs0 z
      refine ⟨.ref l, e1, .inl ⟨rfl, vs0, .inl (.inl h0)⟩, F, r, R, q.bind0.imp fun v r1 F1 H1 R1 S1 q1 x rx => ?_⟩
      cases z1 : v.fz r1 with
      | none => rw [z1] at q1; exact q1.elim
      | some y =>
        obtain ⟨d, r2⟩ := y
        rw [z1] at q1
        simp only at q1
        obtain ⟨F2, s2, R2, q2, S2, _⟩ := fz1 R1 S1 rx.rz z1
        cases z2 : r2[i]? with
        | none => rw [z2] at q1; exact q1.elim
        | some y =>
          cases y with
          | u => rw [z2] at q1; exact q1.elim
          | d d => rw [z2] at q1; exact q1.elim
          | l p xs =>
            rw [z2] at q1
            simp only at q1
            split at q1
            · rename_i hz
              obtain ⟨l', vs, e2, f2, h2, q3⟩ := R2.lst i p xs z2
              rw [e1] at e2
              cases e2
              refine ⟨l, vs, x, rfl, rfl, h2, by rw [q3.len]; exact Nat.lt_trans hz many_lt, ?_⟩
              obtain ⟨R3, S3⟩ := R2.mut z2 e1 (q3.app (.cons q2 .nil))
              exact q1 _ _ R3 (S2.trans S3) .non .non
            · exact q1.elim
def eExt (i : Nat) (f : PEn → Out Val) : PEn → Out Val := fun r => match r[i]? with
  | some (.l _ _) => (f r).bind fun v r1 => match v with
    | .n ds => match r1[i]? with
      | some (.l p xs) => if xs.length + ds.length ≤ many then .ok (.v .none) (r1.set i (.l p (xs ++ ds))) else .bad
      | _ => .bad
    | _ => .bad
  | _ => .bad
theorem rd_extend {K : PySem.W.Frag} {mg : Str → Option Value} {i : Nat} {f : PEn → Out Val} (σ : L2.St) (H : Hp) (Q : VK) (h : rdE K mg W (eExt i f) σ H Q) : tBM K "list" rExtend (tVar i) (tCons (rdE K mg W f) tNil) σ H Q := by
  obtain ⟨F, r, R, q⟩ := h
  unfold eExt at q
  cases z : r[i]? with
  | none => rw [z] at q; exact q.elim
  | some y =>
    cases y with
    | u => rw [z] at q; exact q.elim
    | d d => rw [z] at q; exact q.elim
    | l p0 xs0 =>
      rw [z] at q
      obtain ⟨l, vs0, e1, f0, h0, _⟩ := R.lst i p0 xs0 z
      refine ⟨.ref l, e1, .inl ⟨rfl, vs0, .inl (.inl h0)⟩, F, r, R, q.bind0.imp fun v r1 F1 H1 R1 S1 q1 x rx => ?_⟩
      cases v with
      | v d => exact q1.elim
      | b j => exact q1.elim
      | n ds =>
        simp only at q1
        obtain ⟨b, ws, rfl, _, _, _, hb, qb⟩ := rx
        cases z2 : r1[i]? with
        | none => rw [z2] at q1; exact q1.elim
        | some y =>
          cases y with
          | u => rw [z2] at q1; exact q1.elim
          | d d => rw [z2] at q1; exact q1.elim
          | l p xs =>
            rw [z2] at q1
            simp only at q1
            split at q1
            · rename_i hz
              obtain ⟨l', vs, e2, f2, h2, q3⟩ := R1.lst i p xs z2
              rw [e1] at e2
              cases e2
              refine ⟨l, b, vs, ws, rfl, rfl, h2, hb, by rw [q3.len, qb.len]; exact Nat.le_trans hz many_le, ?_⟩
              obtain ⟨R3, S3⟩ := R1.mut z2 e1 (q3.app qb)
              exact q1 _ _ R3 (S1.trans S3) .non .non
            · exact q1.elim
def ePopAt (i : Nat) (f : PEn → Out Val) : PEn → Out Val := fun r => match r[i]? with
  | some (.l _ _) => (f r).bind fun v r1 => match v with
    | .v (.int k) => match r1[i]? with
      | some (.l p xs) => if -(2 ^ 63) ≤ k ∧ k < 2 ^ 63 then match seqIndex? k xs.length with
        | some j => match xs[j]? with
          | some d => .ok (.v d) (r1.set i (.l p (xs.eraseIdx j)))
          | none => .bad
        | none => .bad else .bad
      | _ => .bad
    | _ => .bad
  | _ => .bad
theorem DVs.erase {K : PySem.W.Frag} {H : Hp} : ∀ {vs : List V} {ds : List PyData} (n : Nat), DVs K H vs ds → DVs K H (vs.eraseIdx n) (ds.eraseIdx n)
  | _, _, _, .nil => .nil
  | _, _, 0, .cons h q => q
  | _, _, n + 1, .cons h q => .cons h (DVs.erase n q)
theorem rd_popAt {K : PySem.W.Frag} {mg : Str → Option Value} {i : Nat} {f : PEn → Out Val} (σ : L2.St) (H : Hp) (Q : VK) (h : rdE K mg W (ePopAt i f) σ H Q) : tBM K "list" rPopAt (tVar i) (tCons (rdE K mg W f) tNil) σ H Q := by
  obtain ⟨F, r, R, q⟩ := h
  unfold ePopAt at q
  cases z : r[i]? with
  | none => rw [z] at q; exact q.elim
  | some y =>
    cases y with
    | u => rw [z] at q; exact q.elim
    | d d => rw [z] at q; exact q.elim
    | l p0 xs0 =>
      rw [z] at q
      obtain ⟨l, vs0, e1, f0, h0, _⟩ := R.lst i p0 xs0 z
      refine ⟨.ref l, e1, .inl ⟨rfl, vs0, .inl (.inl h0)⟩, F, r, R, q.bind0.imp fun v r1 F1 H1 R1 S1 q1 x rx => ?_⟩
      split at q1
      · rename_i k
        cases rx
        cases z2 : r1[i]? with
        | none => rw [z2] at q1; exact q1.elim
        | some y =>
          cases y with
          | u => rw [z2] at q1; exact q1.elim
          | d d => rw [z2] at q1; exact q1.elim
          | l p xs =>
            rw [z2] at q1
            simp only at q1
            split at q1
            · rename_i hk
              split at q1
              · rename_i j hj
                split at q1
                · rename_i d hd
                  obtain ⟨l', vs, e2, f2, h2, q3⟩ := R1.lst i p xs z2
                  rw [e1] at e2
                  cases e2
                  obtain ⟨y, hy, dy⟩ := q3.at hd
                  refine ⟨l, vs, k, j, y, rfl, rfl, h2, hk.1, hk.2, by rw [q3.len]; exact hj, hy, ?_⟩
                  obtain ⟨R3, S3⟩ := R1.mut z2 e1 (DVs.erase j q3)
                  exact q1 _ _ R3 (S1.trans S3) y dy
                · exact q1.elim
              · exact q1.elim
            · exact q1.elim
      · exact q1.elim
/-- x[j] = e, x a list's name -/
def sStore (i : Nat) (fi f : PEn → Out Val) : PEn → Out Fl := fun r => (f r).bind fun v r1 => match v.fz r1 with
  | some (d, r2) => match r2[i]? with
    | some (.l _ _) => (fi r2).bind fun w r3 => match w with
      | .v (.int k) => match r3[i]? with
        | some (.l p xs) => match ixN xs.length k with
          | some j => .ok .next (r3.set i (.l p (xs.set j d)))
          | none => .bad
        | _ => .bad
      | _ => .bad
    | _ => .bad
  | none => .bad
theorem SPost.bindAt {K : PySem.W.Frag} {mg : Str → Option Value} {G : Gm} {D : Ends} {α : Type} {r : PEn} {σ : L2.St} {F H : Hp} {o : Out α} {k : α → PEn → Out Fl} (T : Stt K G r σ F H) (h : SPost K mg W G D (o.bind k)) :
    Post K mg W r σ F H o fun a r1 F1 H1 => Stp r σ F H r1 F1 H1 ∧ SPost K mg W G D (k a r1) := (SPost.bind T h).imp fun a r1 F1 H1 R1 S1 q => ⟨S1, q⟩
theorem rd_store {K : PySem.W.Frag} {mg : Str → Option Value} {i : Nat} {fi f : PEn → Out Val} (D : Ends) (σ : L2.St) (H : Hp) (h : rdS K mg W (sStore i fi f) D σ H) : tAsg (rdE K mg W f) (gSub (tVar i) (rdE K mg W fi) rSetL) D σ H := by
  obtain ⟨G, F, r, T, q⟩ := h
  refine ⟨F, r, T.rel, (SPost.bind T q).imp fun v r1 F1 H1 R1 S1 q1 x rx => ?_⟩
  cases z1 : v.fz r1 with
  | none => rw [z1] at q1; exact q1.elim
  | some y =>
    obtain ⟨d, r2⟩ := y
    rw [z1] at q1
    simp only at q1
    obtain ⟨F2, s2, R2, q2, S2, _⟩ := fz1 R1 S1 rx.rz z1
    have T2 := T.step R2 S2
    cases z : r2[i]? with
    | none => rw [z] at q1; exact q1.elim
    | some y =>
      cases y with
      | u => rw [z] at q1; exact q1.elim
      | d d => rw [z] at q1; exact q1.elim
      | l p0 xs0 =>
        rw [z] at q1
        obtain ⟨l, vs0, e1, f0, h0, _⟩ := R2.lst i p0 xs0 z
        refine ⟨.ref l, e1, F2, r2, R2, (SPost.bind T2 q1).imp fun w r3 F3 H3 R3 S3 q3 y ry => ?_⟩
        split at q3
        · rename_i k
          cases ry
          cases z2 : r3[i]? with
          | none => rw [z2] at q3; exact q3.elim
          | some y =>
            cases y with
            | u => rw [z2] at q3; exact q3.elim
            | d d => rw [z2] at q3; exact q3.elim
            | l p xs =>
              rw [z2] at q3
              simp only at q3
              split at q3
              · rename_i j hj
                obtain ⟨l', vs, e2, f2, h2, q4⟩ := R3.lst i p xs z2
                rw [e1] at e2
                cases e2
                refine ⟨l, vs, k, j, rfl, rfl, h2, by rw [q4.len]; exact hj, ?_⟩
                obtain ⟨R4, S4⟩ := R3.mut z2 e1 (DVs.set (DV.mono S3.ff q2) j q4)
                exact q3 _ _ _ ((T2.step R3 S3).step R4 S4)
              · exact q3.elim
        · exact q3.elim

/-! ### what is walked -/
/-- what an iterator gives at turn i, over what was frozen at its start -/
def YD (K : PySem.W.Frag) (F : Hp) (items : List PyData) : Nat → Hp → V → Hp → Prop := fun i H x H' => ∃ d, items[i]? = some d ∧
  ((H' = H ∧ DV K F x d) ∨ ∃ T vs ds, x = .ref T ∧ d = .tuple ds ∧ H T = none ∧ H' = upd H T (.tup vs) ∧ DVs K F vs ds)
abbrev WalkD (K : PySem.W.Frag) (J : It) (F : Hp) (items : List PyData) : Prop := Walk J items.length (fun H => Same F H) (YD K F items)
def rdI (K : PySem.W.Frag) (mg : Str → Option Value) (W : WX) (s : PEn → Out (List PyData)) : TI := fun σ H R => ∃ F r, Rel K F r σ H ∧ Post K mg W r σ F H (s r) fun items r' F' H' => ∀ J, WalkD K J F' items → R J H'
abbrev JI (X : Cx) (W : WX) (tg iter : Expr) (s : PEn → Out (List PyData)) : Prop := PI X tg iter (rdI X.K X.mg W s)
theorem pi_mono {t t' : TI} (h : PI X tg iter t) (m : ∀ σ H Q, t' σ H Q → t σ H Q) : PI X tg iter t' := ⟨fun pins s σ H R I q => h.run pins s σ H R I (m σ H R q)⟩
/-- what is given, frozen -/
theorem YD.got {K : PySem.W.Frag} {F F1 H H' : Hp} {items : List PyData} {i : Nat} {x : V} (y : YD K F items i H x H') (f : Same F F1) (s : Same F1 H) : ∃ d F', items[i]? = some d ∧ Grow F1 H F' H' ∧ DV K F' x d := by
  obtain ⟨d, e, h⟩ := y
  rcases h with ⟨rfl, h⟩ | ⟨T, vs, ds, rfl, rfl, hT, rfl, q⟩
  · exact ⟨d, F1, e, Grow.refl s, DV.mono f h⟩
  · have G := Grow.new (F := F1) s (o := HO.tup vs) hT
    exact ⟨_, _, e, G, .tup (.inl (.inl upd_same)) (DVs.mono (f.trans G.ff) q)⟩
def forD (g : PyData → Option (List (Nat × PyData))) (body : PEn → Out Fl) : List PyData → PEn → Out Fl
  | [], r => .ok .next r
  | d :: ds, r => match g d with
    | some l => if frees l r = true then match body (setE l r) with
        | .ok .next r2 => forD g body ds r2
        | .ok .cont r2 => forD g body ds r2
        | .ok .brk r2 => .ok .next r2
        | .ok (.ret v) r2 => .ok (.ret v) r2
        | .exc e r2 => .exc e r2
        | .bad => .bad
      else .bad
    | none => .bad
def sFor (s : PEn → Out (List PyData)) (g : PyData → Option (List (Nat × PyData))) (body : PEn → Out Fl) : PEn → Out Fl := fun r => (s r).bind fun items r1 => forD g body items r1
theorem Stt.rebase {K : PySem.W.Frag} {G : Gm} {r : PEn} {σ : L2.St} {F H : Hp} (T : Stt K G r σ F H) : Stt K { G with F0 := F } r σ F H :=
  ⟨T.rel, T.ln, Same.refl _, fun b f _ => f, T.kp0, T.th0, T.pen, T.loc, T.pin⟩
theorem Stt.unbase {K : PySem.W.Frag} {G : Gm} {r r' : PEn} {σ σ' : L2.St} {F H F' H' : Hp} (T : Stt K G r σ F H) (T' : Stt K { G with F0 := F } r' σ' F' H') : Stt K G r' σ' F' H' :=
  ⟨T'.rel, T'.ln, T.ff0.trans T'.ff0, fun b f n => T'.fn0 b (T.fn0 b f n) n, T'.kp0, T'.th0, T'.pen, T'.loc, T'.pin⟩
theorem SPost.rebase {K : PySem.W.Frag} {mg : Str → Option Value} {G : Gm} {D : Ends} {o : Out Fl} {r : PEn} {σ : L2.St} {F H : Hp} (T : Stt K G r σ F H) (q : SPost K mg W G D o) : SPost K mg W { G with F0 := F } D o := by
  cases o with
  | bad => exact q
  | ok fl r2 => exact fun σ' F' H' T' => q σ' F' H' (T.unbase T')
  | exc e r2 => exact fun c d σ' F' H' T' => q c d σ' F' H' (T.unbase T')
theorem s_for {s : PEn → Out (List PyData)} {g : PyData → Option (List (Nat × PyData))} {f : PEn → Out Fl} (hp : PassesOwn (model X.prog X.w) X.A X.env X.xe) (hc : X.calm = true) (hi : JI X W tg iter s) (hg : JG X tg g) (hb : JSs X W body f)
    (hs : ∀ x, foldedSetIterable iter X.env x = pure x := by intro _; rfl) : JS X W (.For tg iter body [] pos) (sFor s g f) := by
  refine ps_mono (ps_for hp hc hi hg hb hs) fun D σ H h => ?_
  obtain ⟨G, F, r, T, q⟩ := h
  refine ⟨F, r, T.rel, (SPost.bind T q).imp fun items r1 F1 H1 R1 S1 q1 J w => ?_⟩
  have T1 := T.step R1 S1
  refine for_it w (fun i σ' H' => ∃ F' r', Stt X.K { G with F0 := F1 } r' σ' F' H' ∧ SPost X.K X.mg W { G with F0 := F1 } D (forD g f (items.drop i) r')) ⟨F1, r1, T1.rebase, SPost.rebase T1 q1⟩ (fun i σ' H' _ ⟨F', r', T', _⟩ => T'.ff0.trans T'.rel.sub) (fun i x σ' H2 H3 hi ⟨F', r', T', q'⟩ y => ?_) (fun σ' H' ⟨F', r', T', q'⟩ => ?_)
  · obtain ⟨d, F3, ed, G3, dv⟩ := y.got T'.ff0 T'.rel.sub
    have T3 := T'.step (T'.rel.grow G3) G3.stp
    have e0 : items.drop i = d :: items.drop (i + 1) := by
      have hi' : i < items.length := hi
      rw [List.drop_eq_getElem_cons hi']
      rw [List.getElem?_eq_getElem hi'] at ed
      cases ed
      rfl
    rw [e0] at q'
    simp only [forD] at q'
    cases z : g d with
    | none => rw [z] at q'; exact q'.elim
    | some l =>
      rw [z] at q'
      simp only at q'
      split at q'
      · rename_i hf
        refine ⟨F3, d, l, T3.rel.sub, dv, z, fun l' hl => ⟨_, F3, setE l r', T3.sets hl hf, ?_⟩⟩
        cases zb : f (setE l r') with
        | bad => rw [zb] at q'; exact q'.elim
        | exc e r2 => rw [zb] at q'; exact q'
        | ok fl r2 =>
          rw [zb] at q'
          cases fl with
          | next => exact fun σ4 F4 H4 T4 => ⟨F4, r2, T4, q'⟩
          | cont => exact fun σ4 F4 H4 T4 => ⟨F4, r2, T4, q'⟩
          | brk => exact q'
          | ret v => exact q'
      · exact q'.elim
  · rw [List.drop_eq_nil_of_le (Nat.le_refl _)] at q'
    exact q' σ' F' H' T'
def whD (t : PEn → Out Bool) (f : PEn → Out Fl) : Nat → PEn → Out Fl
  | 0, _ => .bad
  | n + 1, r => (t r).bind fun k r1 => if k = true then match f r1 with
      | .ok .next r2 => whD t f n r2
      | .ok .cont r2 => whD t f n r2
      | .ok .brk r2 => .ok .next r2
      | .ok (.ret v) r2 => .ok (.ret v) r2
      | .exc e r2 => .exc e r2
      | .bad => .bad
    else .ok .next r1
def sWhile (fu : PEn → Nat) (t : PEn → Out Bool) (f : PEn → Out Fl) : PEn → Out Fl := fun r => whD t f (fu r) r
theorem s_while {fu : PEn → Nat} {t : PEn → Out Bool} {f : PEn → Out Fl} (hp : PassesOwn (model X.prog X.w) X.A X.env X.xe) (hc : JT X W c t) (hb : JSs X W body f) : JS X W (.While c body [] pos) (sWhile fu t f) := by
  refine ps_mono (ps_while hp hc hb) fun D σ H h => ?_
  obtain ⟨G, F, r, T, q⟩ := h
  refine ⟨fun m σ' H' => ∃ F' r', Stt X.K G r' σ' F' H' ∧ SPost X.K X.mg W G D (whD t f m r'), ⟨fu r, F, r, T, q⟩, fun m σ' H' ⟨F', r', T', q'⟩ => ?_⟩
  cases m with
  | zero => exact q'.elim
  | succ n =>
    refine ⟨F', r', T'.rel, (SPost.bind T' q').imp fun k r1 F1 H1 R1 S1 q1 => ?_⟩
    have T1 := T'.step R1 S1
    cases k with
    | false => exact q1 σ' F1 H1 T1
    | true =>
      simp only [if_true] at q1
      refine ⟨fun σ2 H2 => ∃ F2 r2, Stt X.K G r2 σ2 F2 H2 ∧ SPost X.K X.mg W G D (whD t f n r2), fun σ2 H2 h2 => ⟨n, Nat.lt_succ_self n, h2⟩, G, F1, r1, T1, ?_⟩
      cases zb : f r1 with
      | bad => rw [zb] at q1; exact q1.elim
      | exc e r2 => rw [zb] at q1; exact q1
      | ok fl r2 =>
        rw [zb] at q1
        cases fl with
        | next => exact fun σ4 F4 H4 T4 => ⟨F4, r2, T4, q1⟩
        | cont => exact fun σ4 F4 H4 T4 => ⟨F4, r2, T4, q1⟩
        | brk => exact q1
        | ret v => exact q1
end
end PD

/-! PDComp: list comprehensions; what is walked. -/
namespace PD
open PySem PySem.Spec PyProof.Rows L2
def wipeE (r : PEn) : List Nat → PEn
  | [] => r
  | v :: vs => (wipeE r vs).set v .u
/-- the slots vs as they were in r, the others as in r2 -/
def backE (r r2 : PEn) : List Nat → PEn
  | [] => r2
  | v :: vs => match r[v]? with
    | some x => (backE r r2 vs).set v x
    | none => backE r r2 vs
def within (l : List (Nat × PyData)) (own : List Nat) : Bool := l.all fun p => own.contains p.1
def lcD (own : List Nat) (g : PyData → Option (List (Nat × PyData))) (t : PEn → Out Bool) (f : PEn → Out Val) : List PyData → List PyData → PEn → Out (List PyData)
  | [], acc, r => .ok acc r
  | d :: ds, acc, r => match g d with
    | some l => if within l own = true then match t (setE l r) with
        | .ok true r2 => match f r2 with
          | .ok v r3 => match v.fz r3 with
            | some (e, r4) => lcD own g t f ds (acc ++ [e]) (wipeE r4 own)
            | none => .bad
          | _ => .bad
        | .ok false r2 => lcD own g t f ds acc (wipeE r2 own)
        | _ => .bad
      else .bad
    | none => .bad
def eComp (s : PEn → Out (List PyData)) (own : List Nat) (g : PyData → Option (List (Nat × PyData))) (t : PEn → Out Bool) (f : PEn → Out Val) : PEn → Out Val := fun r => (s r).bind fun items r1 => if items.length ≤ many then
    (lcD own g t f items [] (wipeE r1 own)).bind fun acc r2 => .ok (.n acc) (backE r1 r2 own)
  else .bad
theorem wipeE_len (r : PEn) : ∀ vs : List Nat, (wipeE r vs).length = r.length
  | [] => rfl
  | v :: vs => by unfold wipeE; rw [List.length_set, wipeE_len r vs]
theorem wipeE_in {r : PEn} {i : Nat} : ∀ {vs : List Nat}, i ∈ vs → ∀ x, (wipeE r vs)[i]? = some x → x = .u
  | v :: vs, h, x, e => by
    unfold wipeE at e
    rcases getS e with ⟨_, z⟩ | ⟨n, z⟩
    · exact z
    · rcases List.mem_cons.mp h with h | h
      · exact absurd h n
      · exact wipeE_in h x z
theorem wipeE_out {r : PEn} {i : Nat} : ∀ {vs : List Nat}, i ∉ vs → (wipeE r vs)[i]? = r[i]?
  | [], _ => rfl
  | v :: vs, h => by
    unfold wipeE
    have h1 : i ≠ v := fun z => h (by rw [z]; exact List.mem_cons_self)
    rw [List.getElem?_set_ne (Ne.symm h1)]
    exact wipeE_out fun z => h (List.mem_cons_of_mem _ z)
theorem wipeE_get {r : PEn} {i : Nat} {vs : List Nat} {x : Sl} (h : (wipeE r vs)[i]? = some x) (hx : x ≠ .u) : i ∉ vs ∧ r[i]? = some x := by
  have n : i ∉ vs := fun z => hx (wipeE_in z x h)
  rw [wipeE_out n] at h
  exact ⟨n, h⟩
theorem wipeS_get {σ : L2.St} {i : Nat} {vs : List Nat} (h : i ∉ vs) : (wipe σ vs)[i]? = σ[i]? := by
  induction vs with
  | nil => rfl
  | cons v vs ih =>
    unfold wipe
    have h1 : i ≠ v := fun z => h (by rw [z]; exact List.mem_cons_self)
    rw [List.getElem?_set_ne (Ne.symm h1)]
    exact ih fun z => h (List.mem_cons_of_mem _ z)
theorem backE_len (r r2 : PEn) : ∀ vs : List Nat, (backE r r2 vs).length = r2.length
  | [] => rfl
  | v :: vs => by
    unfold backE
    split
    · rw [List.length_set, backE_len r r2 vs]
    · exact backE_len r r2 vs
theorem backE_in {r r2 : PEn} (hl : r2.length = r.length) {i : Nat} : ∀ {vs : List Nat}, i ∈ vs → (backE r r2 vs)[i]? = r[i]?
  | v :: vs, h => by
    unfold backE
    by_cases z : i = v
    · subst z
      split
      · rename_i x e
        have hi : i < (backE r r2 vs).length := by rw [backE_len, hl]; exact (List.getElem?_eq_some_iff.mp e).1
        rw [List.getElem?_set_self hi, e]
      · rename_i e
        rw [e]
        have : r.length ≤ i := List.getElem?_eq_none_iff.mp e
        exact List.getElem?_eq_none_iff.mpr (by rw [backE_len, hl]; exact this)
    · have h' : i ∈ vs := by
        rcases List.mem_cons.mp h with h | h
        · exact absurd h z
        · exact h
      split
      · rw [List.getElem?_set_ne (Ne.symm z)]; exact backE_in hl h'
      · exact backE_in hl h'
theorem backE_out {r r2 : PEn} {i : Nat} : ∀ {vs : List Nat}, i ∉ vs → (backE r r2 vs)[i]? = r2[i]?
  | [], _ => rfl
  | v :: vs, h => by
    unfold backE
    have h1 : i ≠ v := fun z => h (by rw [z]; exact List.mem_cons_self)
    have h2 : i ∉ vs := fun z => h (List.mem_cons_of_mem _ z)
    split
    · rw [List.getElem?_set_ne (Ne.symm h1)]; exact backE_out h2
    · exact backE_out h2
section
variable {K : PySem.W.Frag} {mg : Str → Option Value} {W : WX} {r r' r1 r2 : PEn} {σ σ' : L2.St} {F F' F1 F2 H H' H1 H2 : Hp} {own : List Nat}
theorem Rel.wipe (R : Rel K F r σ H) (own : List Nat) : Rel K F (wipeE r own) (L2.wipe σ own) H where
  len := by rw [wipeE_len, wipe_length]; exact R.len
  sub := R.sub
  dat := fun i d e => by
    obtain ⟨n, e⟩ := wipeE_get e (by simp)
    rw [wipeS_get n]
    exact R.dat i d e
  lst := fun i p xs e => by
    obtain ⟨n, e⟩ := wipeE_get e (by simp)
    rw [wipeS_get n]
    exact R.lst i p xs e
  inj := fun i j p q xs ys a e1 e2 e3 e4 => by
    obtain ⟨n1, e1⟩ := wipeE_get e1 (by simp)
    obtain ⟨n2, e2⟩ := wipeE_get e2 (by simp)
    rw [wipeS_get n1] at e3
    rw [wipeS_get n2] at e4
    exact R.inj i j p q xs ys a e1 e2 e3 e4
theorem ow_wipe {b : Addr} (o : Ow (wipeE r own) (L2.wipe σ own) b) : Ow r σ b := by
  obtain ⟨i, p, xs, e1, e2⟩ := o
  obtain ⟨n, e1⟩ := wipeE_get e1 (by simp)
  rw [wipeS_get n] at e2
  exact ⟨i, p, xs, e1, e2⟩
theorem wipe_setP : ∀ {l : List (Nat × V)} {σ : L2.St}, (∀ p ∈ l, p.1 ∈ own) → L2.wipe (setP l σ) own = L2.wipe σ own
  | [], _, _ => rfl
  | p :: l, σ, h => by
    have h1 : setP (p :: l) σ = setP l (σ.set p.1 (some p.2)) := rfl
    rw [h1, wipe_setP fun q hq => h q (List.mem_cons_of_mem _ hq)]
    exact wipe_set (h p List.mem_cons_self)
where
  wipe_set {i : Nat} {x : Option V} {σ : L2.St} : ∀ {own : List Nat}, i ∈ own → L2.wipe (σ.set i x) own = L2.wipe σ own
    | v :: vs, h => by
      unfold L2.wipe
      by_cases z : i ∈ vs
      · rw [wipe_set z]
      · have e : i = v := by
          rcases List.mem_cons.mp h with h | h
          · exact h
          · exact absurd h z
        subst e
        rw [comm z, List.set_set]
  comm {i : Nat} {x : Option V} {σ : L2.St} : ∀ {vs : List Nat}, i ∉ vs → L2.wipe (σ.set i x) vs = (L2.wipe σ vs).set i x
    | [], _ => rfl
    | v :: vs, h => by
      unfold L2.wipe
      rw [comm fun z => h (List.mem_cons_of_mem _ z), List.set_comm]
      exact fun z => h (by rw [z]; exact List.mem_cons_self)
/-- from the wiped start, through the slots of the block, back -/
theorem Stp.block {l : List (Nat × PyData)} {l' : List (Nat × V)} {r3 : PEn} (hl : ∀ p ∈ l, p.1 ∈ own) (hp : PD2 K F l' l) (hr : ∀ i ∈ own, ∀ x, r[i]? = some x → x = .u)
    (S : Stp (setE l r) (setP l' σ) F H r3 F' H') : Stp r σ F H (wipeE r3 own) F' H' := by
  have so : ∀ {i : Nat}, i ∉ own → (setE l r)[i]? = r[i]? := fun {i} hi => setE_out hl hi
  have sp : ∀ {i : Nat}, i ∉ own → (setP l' σ)[i]? = σ[i]? := fun {i} hi => setP_out (fun p h => fstIn hl hp p h) hi
  have ow1 : ∀ {b : Addr}, Ow (setE l r) (setP l' σ) b → Ow r σ b := fun {b} o => by
    obtain ⟨i, p, xs, e1, e2⟩ := o
    have n : i ∉ own := fun z => by
      rcases setE_in hl e1 with ⟨d, q⟩ | q
      · cases q
      · cases hr i z _ q
    rw [so n] at e1
    rw [sp n] at e2
    exact ⟨i, p, xs, e1, e2⟩
  refine ⟨S.ff, fun b f n o => S.fn b f n fun z => o (ow1 z), fun b x e o => S.kp b x e fun z => o (ow1 z), S.th, by rw [wipeE_len, S.ln, setE_len], fun i p xs e => ?_, fun i xs e => ?_, fun i d e => ?_, fun i xs e => ?_⟩
  · obtain ⟨n, e⟩ := wipeE_get e (by simp)
    obtain ⟨ys, e2⟩ := S.ow i p xs e
    exact ⟨ys, by rw [← so n]; exact e2⟩
  · have n : i ∉ own := fun z => by cases hr i z _ e
    rw [← so n] at e
    obtain ⟨ys, e2⟩ := S.pin i xs e
    exact ⟨ys, by rw [wipeE_out n]; exact e2⟩
  · have n : i ∉ own := fun z => by cases hr i z _ e
    rw [← so n] at e
    rw [wipeE_out n]
    exact S.dk i d e
  · have n : i ∉ own := fun z => by cases hr i z _ e
    rw [← so n] at e
    rw [wipeE_out n]
    exact S.lk i xs e
where
  setE_len {l : List (Nat × PyData)} {r : PEn} : (setE l r).length = r.length := by
    induction l generalizing r with
    | nil => rfl
    | cons p l ih =>
      have h1 : setE (p :: l) r = setE l (r.set p.1 (.d p.2)) := rfl
      rw [h1, ih, List.length_set]
  setE_out {l : List (Nat × PyData)} {r : PEn} {own : List Nat} {i : Nat} (hl : ∀ p ∈ l, p.1 ∈ own) (hi : i ∉ own) : (setE l r)[i]? = r[i]? := by
    induction l generalizing r with
    | nil => rfl
    | cons p l ih =>
      have h1 : setE (p :: l) r = setE l (r.set p.1 (.d p.2)) := rfl
      rw [h1, ih fun q hq => hl q (List.mem_cons_of_mem _ hq), List.getElem?_set_ne]
      intro z
      exact hi (by rw [← z]; exact hl p List.mem_cons_self)
  setP_out {l : List (Nat × V)} {σ : L2.St} {own : List Nat} {i : Nat} (hl : ∀ p ∈ l, p.1 ∈ own) (hi : i ∉ own) : (setP l σ)[i]? = σ[i]? := by
    induction l generalizing σ with
    | nil => rfl
    | cons p l ih =>
      have h1 : setP (p :: l) σ = setP l (σ.set p.1 (some p.2)) := rfl
      rw [h1, ih fun q hq => hl q (List.mem_cons_of_mem _ hq), List.getElem?_set_ne]
      intro z
      exact hi (by rw [← z]; exact hl p List.mem_cons_self)
  setE_in {l : List (Nat × PyData)} {r : PEn} {own : List Nat} {i : Nat} {x : Sl} (hl : ∀ p ∈ l, p.1 ∈ own) (e : (setE l r)[i]? = some x) : (∃ d, x = .d d) ∨ r[i]? = some x := by
    induction l generalizing r with
    | nil => exact .inr e
    | cons p l ih =>
      have h1 : setE (p :: l) r = setE l (r.set p.1 (.d p.2)) := rfl
      rw [h1] at e
      rcases ih (fun q hq => hl q (List.mem_cons_of_mem _ hq)) e with z | z
      · exact .inl z
      · rcases getS z with ⟨_, z⟩ | ⟨_, z⟩
        · exact .inl ⟨_, z⟩
        · exact .inr z
  fstIn {K : PySem.W.Frag} {F : Hp} {own : List Nat} {l' : List (Nat × V)} {l : List (Nat × PyData)} (hl : ∀ p ∈ l, p.1 ∈ own) (hp : PD2 K F l' l) : ∀ p ∈ l', p.1 ∈ own := by
    induction hp with
    | nil => intro p h; cases h
    | cons h _t ih =>
      intro p hm
      rcases List.mem_cons.mp hm with e | hm
      · subst e; rw [h.1]; exact hl _ List.mem_cons_self
      · exact ih (fun q hq => hl q (List.mem_cons_of_mem _ hq)) p hm
/-- out of the block -/
theorem Stp.out (R1 : Rel K F1 r1 σ H1) (R2 : Rel K F2 r2 (L2.wipe σ own) H2) (S : Stp (wipeE r1 own) (L2.wipe σ own) F1 H1 r2 F2 H2) : Rel K F2 (backE r1 r2 own) σ H2 ∧ Stp r1 σ F1 H1 (backE r1 r2 own) F2 H2 := by
  have hl : r2.length = r1.length := by rw [S.ln, wipeE_len]
  have bi : ∀ {i : Nat}, i ∈ own → (backE r1 r2 own)[i]? = r1[i]? := fun h => backE_in hl h
  have bo : ∀ {i : Nat}, i ∉ own → (backE r1 r2 own)[i]? = r2[i]? := fun h => backE_out h
  have ownl : ∀ {i : Nat} {p : Bool} {xs : List PyData} {a : Addr}, i ∈ own → r1[i]? = some (.l p xs) → σ[i]? = some (some (.ref a)) → ¬ Ow (wipeE r1 own) (L2.wipe σ own) a := fun {i p xs a} hi e1 e2 o => by
    obtain ⟨j, q, ys, e3, e4⟩ := o
    obtain ⟨n, e3⟩ := wipeE_get e3 (by simp)
    rw [wipeS_get n] at e4
    have := R1.inj _ _ _ _ _ _ _ e1 e3 e2 e4
    rw [this] at hi
    exact n hi
  have back : ∀ {j : Nat} {q : Bool} {ys : List PyData}, j ∉ own → r2[j]? = some (.l q ys) → ∃ zs : List PyData, r1[j]? = some (.l q zs) := fun {j q ys} n e => by
    obtain ⟨zs, e3⟩ := S.ow j q ys e
    rw [wipeE_out n] at e3
    exact ⟨zs, e3⟩
  refine ⟨⟨by rw [backE_len, hl]; exact R1.len, R2.sub, fun i d e => ?_, fun i p xs e => ?_, fun i j p q xs ys a e1 e2 e3 e4 => ?_⟩, S.ff, fun b f n o => S.fn b f n fun z => o (ow_wipe z), fun b x e o => S.kp b x e fun z => o (ow_wipe z), S.th, by rw [backE_len, hl], fun i p xs e => ?_, fun i xs e => ?_, fun i d e => ?_, fun i xs e => ?_⟩
  · by_cases h : i ∈ own
    · rw [bi h] at e
      obtain ⟨v, e1, q⟩ := R1.dat i d e
      exact ⟨v, e1, DV.mono S.ff q⟩
    · rw [bo h] at e
      have := R2.dat i d e
      rw [wipeS_get h] at this
      exact this
  · by_cases h : i ∈ own
    · rw [bi h] at e
      obtain ⟨a, vs, e1, f, ha, q⟩ := R1.lst i p xs e
      have no := ownl h e e1
      exact ⟨a, vs, e1, S.fn a f (by rw [ha]; simp) no, S.kp a _ ha no, DVs.mono S.ff q⟩
    · rw [bo h] at e
      have := R2.lst i p xs e
      rw [wipeS_get h] at this
      exact this
  · have w : ∀ {j : Nat} {q : Bool} {ys : List PyData}, (backE r1 r2 own)[j]? = some (.l q ys) → ∃ zs : List PyData, r1[j]? = some (.l q zs) := fun {j q ys} e => by
      by_cases h : j ∈ own
      · rw [bi h] at e; exact ⟨ys, e⟩
      · rw [bo h] at e; exact back h e
    obtain ⟨_, w1⟩ := w e1
    obtain ⟨_, w2⟩ := w e2
    exact R1.inj i j _ _ _ _ a w1 w2 e3 e4
  · by_cases h : i ∈ own
    · rw [bi h] at e; exact ⟨xs, e⟩
    · rw [bo h] at e; exact back h e
  · by_cases h : i ∈ own
    · exact ⟨xs, by rw [bi h]; exact e⟩
    · rw [bo h]
      exact S.pin i xs (by rw [wipeE_out h]; exact e)
  · by_cases h : i ∈ own
    · rw [bi h]; exact e
    · rw [bo h]
      exact S.dk i d (by rw [wipeE_out h]; exact e)
  · by_cases h : i ∈ own
    · exact .inl ⟨xs, by rw [bi h]; exact e⟩
    · rw [bo h]
      exact S.lk i xs (by rw [wipeE_out h]; exact e)
end
/-! ### the comprehension -/
abbrev W0 : WX := fun _ _ _ _ => False
theorem lcD_exc {own : List Nat} {g : PyData → Option (List (Nat × PyData))} {t : PEn → Out Bool} {f : PEn → Out Val} {e : Ex} {r' : PEn} : ∀ {ds acc : List PyData} {r : PEn}, lcD own g t f ds acc r ≠ .exc e r'
  | [], acc, r, h => by cases h
  | d :: ds, acc, r, h => by
    simp only [lcD] at h
    split at h
    · split at h
      · split at h
        · split at h
          · split at h
            · exact lcD_exc h
            · cases h
          · cases h
        · exact lcD_exc h
        · cases h
      · cases h
    · cases h
section
variable {K : PySem.W.Frag} {mg : Str → Option Value} {W : WX} {s : PEn → Out (List PyData)} {own : List Nat} {g : PyData → Option (List (Nat × PyData))} {t : PEn → Out Bool} {f : PEn → Out Val}
/-- the state between two turns -/
structure LcI (K : PySem.W.Frag) (own : List Nat) (rw_ : PEn) (σ : L2.St) (F1 H1 : Hp) (D : Addr) (r : PEn) (acc : List PyData) (F H : Hp) : Prop where
  rel : Rel K F r (L2.wipe σ own) H
  stp : Stp rw_ (L2.wipe σ own) F1 H1 r F H
  wip : ∀ i ∈ own, ∀ x, r[i]? = some x → x = .u
  fr : F D = none
  lst : ∃ vs, H D = some (.lst vs) ∧ DVs K F vs acc
def LcQ (K : PySem.W.Frag) (own : List Nat) (rw_ : PEn) (σ : L2.St) (F1 H1 : Hp) (D : Addr) (Q : VK) : Out (List PyData) → Prop
  | .ok acc r => ∀ F H, LcI K own rw_ σ F1 H1 D r acc F H → Q (.ref D) H
  | _ => False
theorem LcI.noOw {K : PySem.W.Frag} {rw_ r : PEn} {σ : L2.St} {F1 H1 F H : Hp} {D : Addr} {acc : List PyData} (I : LcI K own rw_ σ F1 H1 D r acc F H) (R1 : Rel K F1 rw_ (L2.wipe σ own) H1) (hD : H1 D = none) : ¬ Ow r (L2.wipe σ own) D := fun o => by
  have o1 := o.back I.stp
  obtain ⟨vs, e⟩ := R1.owH o1
  rw [hD] at e
  cases e
theorem lc_rd (σ : L2.St) (H : Hp) (Q : VK) (h : rdE K mg W (eComp s own g t f) σ H Q) : tLc (rdI K mg W s) (rdG K g) (rdT K mg W0 t) (rdE K mg W0 f) own σ H Q := by
  obtain ⟨F, r, R, q⟩ := h
  refine ⟨F, r, R, q.bind0.imp fun items r1 F1 H1 R1 S1 q1 J w D hD => ?_⟩
  split at q1
  · rename_i hlen
    have Rw := R1.wipe own
    have h0 : H D = none := by
      cases z : H D with
      | none => rfl
      | some o => exact absurd hD (S1.th D (by rw [z]; simp))
    -- what is wanted at the end
    have q2 : LcQ K own (wipeE r1 own) σ F1 H1 D Q (lcD own g t f items [] (wipeE r1 own)) := by
      cases z : lcD own g t f items [] (wipeE r1 own) with
      | bad => rw [z] at q1; exact q1.elim
      | exc e r' => exact absurd z lcD_exc
      | ok acc r2 =>
        rw [z] at q1
        intro F2 H2 I
        obtain ⟨R3, S3⟩ := Stp.out R1 I.rel I.stp
        obtain ⟨vs, e, dv⟩ := I.lst
        refine q1 F2 H2 R3 (S1.trans S3) (.ref D) ⟨D, vs, rfl, h0, I.fr, fun o => ?_, e, dv⟩
        obtain ⟨us, e2⟩ := R1.owH (o.back S3)
        rw [hD] at e2
        cases e2
    have fD : F1 D = none := R1.sub.free hD
    refine lc_it w (fun i H2 => ∃ F2 r2 acc, LcI K own (wipeE r1 own) σ F1 H1 D r2 acc F2 H2 ∧ acc.length ≤ i ∧ LcQ K own (wipeE r1 own) σ F1 H1 D Q (lcD own g t f (items.drop i) acc r2)) ?_ (fun i H2 _ ⟨F2, r2, acc, I, _⟩ => I.stp.ff.trans I.rel.sub) (fun i x H2 H3 hi ⟨F2, r2, acc, I, hac, q3⟩ y => ?_) (fun H2 ⟨F2, r2, acc, I, hac, q3⟩ => ?_)
    · have G := Grow.free (F := F1) R1.sub (o := HO.lst []) hD
      exact ⟨F1, wipeE r1 own, [], ⟨Rw.grow G, G.stp, fun i hi x e => wipeE_in hi x e, fD, [], upd_same, .nil⟩, Nat.le_refl _, q2⟩
    · obtain ⟨d, F3, ed, G3, dv⟩ := y.got I.stp.ff I.rel.sub
      have e0 : items.drop i = d :: items.drop (i + 1) := by
        have hi' : i < items.length := hi
        rw [List.drop_eq_getElem_cons hi']
        rw [List.getElem?_eq_getElem hi'] at ed
        cases ed
        rfl
      rw [e0] at q3
      simp only [lcD] at q3
      have noO := I.noOw Rw hD
      obtain ⟨vs, eD, dD⟩ := I.lst
      have S3 := I.stp.grow (K := K) G3
      have R3 := I.rel.grow G3
      have eD3 : H3 D = some (.lst vs) := G3.hh _ _ eD
      have fD3 : F3 D = none := G3.fn D I.fr (by rw [eD]; simp)
      cases z : g d with
      | none => rw [z] at q3; exact q3.elim
      | some l =>
        rw [z] at q3
        simp only at q3
        split at q3
        · rename_i hw
          have hl : ∀ p ∈ l, p.1 ∈ own := fun p hp => by
            have := List.all_eq_true.mp hw p hp
            simpa using this
          refine ⟨F3, d, l, R3.sub, dv, z, fun l' hl' => ⟨(wipe_setP fun p hp => Stp.block.fstIn hl hl' p hp).trans wipe_wipe, ?_⟩⟩
          have R4 := R3.sets hl'
          refine ⟨F3, setE l r2, R4, ?_⟩
          have noO4 : ¬ Ow (setE l r2) (setP l' (L2.wipe σ own)) D := fun o => by
            obtain ⟨us, e2⟩ := R4.owH o
            obtain ⟨j, p, xs, e3, e4⟩ := o
            have n : j ∉ own := fun hj => by
              rcases Stp.block.setE_in hl e3 with ⟨d, q⟩ | q
              · cases q
              · cases I.wip j hj _ q
            rw [Stp.block.setE_out hl n] at e3
            rw [Stp.block.setP_out (fun p hp => Stp.block.fstIn hl hl' p hp) n] at e4
            exact noO ⟨j, p, xs, e3, e4⟩
          cases zt : t (setE l r2) with
          | bad => rw [zt] at q3; exact q3.elim
          | exc e r' => rw [zt] at q3; exact q3.elim
          | ok k r3 =>
            rw [zt] at q3
            intro F5 H5 R5 S5
            have eD5 := S5.kp D _ eD3 noO4
            have fD5 := S5.fn D fD3 (by rw [eD3]; simp) noO4
            cases k with
            | false =>
              simp only at q3
              refine ⟨F5, wipeE r3 own, acc, ⟨?_, S3.trans (Stp.block hl hl' I.wip S5), fun i hi x e => wipeE_in hi x e, fD5, vs, eD5, DVs.mono (G3.ff.trans S5.ff) dD⟩, Nat.le_succ_of_le hac, q3⟩
              have := R5.wipe own
              rw [wipe_setP fun p hp => Stp.block.fstIn hl hl' p hp, wipe_wipe] at this
              exact this
            | true =>
              simp only at q3
              refine ⟨F5, r3, R5, ?_⟩
              cases zf : f r3 with
              | bad => rw [zf] at q3; exact q3.elim
              | exc e r' => rw [zf] at q3; exact q3.elim
              | ok v r4 =>
                rw [zf] at q3
                simp only at q3
                intro F6 H6 R6 S6 y ry
                cases zz : v.fz r4 with
                | none => rw [zz] at q3; exact q3.elim
                | some ez =>
                  obtain ⟨e, r5⟩ := ez
                  rw [zz] at q3
                  simp only at q3
                  obtain ⟨F7, s7, R7, q7, S7, _⟩ := fz1 R6 S6 ry.rz zz
                  have noO5 : ¬ Ow r3 (setP l' (L2.wipe σ own)) D := fun o => noO4 (o.back S5)
                  have eD6 := S6.kp D _ eD5 noO5
                  have fD7 := S7.fn D fD5 (by rw [eD5]; simp) noO5
                  have d7 := DVs.mono (G3.ff.trans (S5.ff.trans S7.ff)) dD
                  refine ⟨vs, eD6, by rw [d7.len]; exact Nat.lt_of_le_of_lt hac (Nat.lt_of_lt_of_le hi (Nat.le_trans hlen many_le)), F7, wipeE r5 own, acc ++ [e], ?_, by rw [List.length_append, List.length_singleton]; exact Nat.succ_le_succ hac, q3⟩
                  have S8 := S3.trans (Stp.block hl hl' I.wip (S5.trans S7))
                  have R8 : Rel K F7 (wipeE r5 own) (L2.wipe σ own) H6 := by
                    have := R7.wipe own
                    rw [wipe_setP fun p hp => Stp.block.fstIn hl hl' p hp, wipe_wipe] at this
                    exact this
                  have noO8 : ¬ Ow (wipeE r5 own) (L2.wipe σ own) D := fun o => by
                    obtain ⟨us, e2⟩ := Rw.owH (o.back S8)
                    rw [hD] at e2
                    cases e2
                  have nF : ∀ b o, F7 b = some o → b ≠ D := fun b o e z => by rw [z, fD7] at e; cases e
                  have nL : ∀ {b : Addr}, Ow (wipeE r5 own) (L2.wipe σ own) b → b ≠ D := fun {b} o z => noO8 (by rw [← z]; exact o)
                  refine ⟨⟨R8.len, fun b o e => by rw [upd_ne (nF b o e)]; exact R8.sub b o e, R8.dat, fun i p xs e => ?_, R8.inj⟩, ⟨S8.ff, S8.fn, fun b o e n => ?_, fun b n => ?_, S8.ln, S8.ow, S8.pin, S8.dk, S8.lk⟩, fun i hi x e => wipeE_in hi x e, fD7, vs ++ [y], upd_same, d7.app (.cons q7 .nil)⟩
                  · obtain ⟨a, us, e1, f', ha, qa⟩ := R8.lst i p xs e
                    exact ⟨a, us, e1, f', by rw [upd_ne (nL ⟨i, p, xs, e, e1⟩)]; exact ha, qa⟩
                  · have : b ≠ D := by
                      rintro rfl
                      rw [hD] at e
                      cases e
                    rw [upd_ne this]
                    exact S8.kp b o e n
                  · by_cases z : b = D
                    · subst z; exact absurd hD n
                    · rw [upd_ne z]; exact S8.th b n
        · exact q3.elim
    · rw [List.drop_eq_nil_of_le (Nat.le_refl _)] at q3
      exact q3 F2 H2 I
  · exact q1.elim
where
  wipe_wipe {σ : L2.St} : ∀ {own : List Nat}, L2.wipe (L2.wipe σ own) own = L2.wipe σ own := fun {own} => by
    refine List.ext_getElem? fun i => ?_
    by_cases h : i ∈ own
    · have z : ∀ {τ : L2.St}, i ∈ own → (L2.wipe τ own)[i]? = if i < τ.length then some none else none := fun {τ} h => win h
      rw [z h, z h, wipe_length]
    · rw [wipeS_get h]
  win {τ : L2.St} {i : Nat} : ∀ {own : List Nat}, i ∈ own → (L2.wipe τ own)[i]? = if i < τ.length then some none else none
    | v :: vs, h => by
      unfold L2.wipe
      by_cases z : i = v
      · subst z
        rw [List.getElem?_set]
        simp only [if_true, wipe_length]
      · have h' : i ∈ vs := by
          rcases List.mem_cons.mp h with h | h
          · exact absurd h z
          · exact h
        rw [List.getElem?_set_ne (Ne.symm z)]
        exact win h'
end
section
variable {X : Cx} {W : WX} {a b c e tg iter elt : Expr} {ifs : List Expr} {pos pos' p p2 : Pos}
abbrev JTs (X : Cx) (W : WX) (ifs : List Expr) (t : PEn → Out Bool) : Prop := PTs X ifs (rdT X.K X.mg W t)
def tYesD : PEn → Out Bool := fun r => .ok true r
theorem jts_nil : JTs X W [] tYesD := by
  refine ⟨fun pins s σ H Q I h => pts_nil.run pins s σ H Q I ?_⟩
  obtain ⟨F, r, R, q⟩ := h
  exact q F H R Stp.refl
theorem jts_one {t : PEn → Out Bool} (h : JT X W c t) : JTs X W [c] t := pts_one h
theorem j_lc {scope : Scope} {own : List (Str × Nat)} {s : PEn → Out (List PyData)} {g : PyData → Option (List (Nat × PyData))} {t : PEn → Out Bool} {f : PEn → Out Val} (hc : X.calm = true) (hN : X.N.Nodup) (hi : JI X W tg iter s) (ok : BlkOk X.N X.env.scope scope own)
    (hg : ∀ (s : Shared) (H : Hp) (C : Addr) (cl : List (Str × Addr)) (fp : List Addr), JG (X.blk s H scope (compEnvC scope cl C X.env) fp) tg g) (ht : ∀ (s : Shared) (H : Hp) (C : Addr) (cl : List (Str × Addr)) (fp : List Addr), JTs (X.blk s H scope (compEnvC scope cl C X.env) fp) W0 ifs t)
    (he : ∀ (s : Shared) (H : Hp) (C : Addr) (cl : List (Str × Addr)) (fp : List Addr), JE (X.blk s H scope (compEnvC scope cl C X.env) fp) W0 elt f) (hs : ∀ x, foldedSetIterable iter X.env x = pure x := by intro _; rfl) :
    JE X W (.ListComp elt [⟨tg, iter, ifs, 0⟩] scope pos) (eComp s (own.map (·.2)) g t f) := pe_mono (pe_lc (g := rdG X.K g) (tt := rdT X.K X.mg W0 t) (te := rdE X.K X.mg W0 f) hc hN hi ok hg ht he hs) fun σ H Q h => lc_rd σ H Q h
/-- y = [..] on one line, y a local -/
theorem s_setLc {i : Nat} {y : Str} {py spos : Pos} {scope : Scope} {own : List (Str × Nat)} {s : PEn → Out (List PyData)} {g : PyData → Option (List (Nat × PyData))} {t : PEn → Out Bool} {f : PEn → Out Val} (hc : X.calm = true) (hN : X.N.Nodup) (hy : X.N[i]? = some y) (hyl : X.env.scope.names.lookup y = some .local)
    (hsw : swapsWith (.ListComp elt [⟨tg, iter, ifs, 0⟩] scope pos) (some (.Name y py)) spos.line X.env = pure true) (hi : JI X W tg iter s) (ok : BlkOk X.N X.env.scope scope own)
    (hg : ∀ (s : Shared) (H : Hp) (C : Addr) (cl : List (Str × Addr)) (fp : List Addr), JG (X.blk s H scope (compEnvC scope cl C X.env) fp) tg g) (ht : ∀ (s : Shared) (H : Hp) (C : Addr) (cl : List (Str × Addr)) (fp : List Addr), JTs (X.blk s H scope (compEnvC scope cl C X.env) fp) W0 ifs t)
    (he : ∀ (s : Shared) (H : Hp) (C : Addr) (cl : List (Str × Addr)) (fp : List Addr), JE (X.blk s H scope (compEnvC scope cl C X.env) fp) W0 elt f) (hs : ∀ x, foldedSetIterable iter X.env x = pure x := by intro _; rfl) :
    JS X W (.Assign [.Name y py] (.ListComp elt [⟨tg, iter, ifs, 0⟩] scope pos) spos) (sSet i (eComp s (own.map (·.2)) g t f)) := by
  refine ps_mono (ps_setLc (g := rdG X.K g) (tt := rdT X.K X.mg W0 t) (te := rdE X.K X.mg W0 f) hc hN hy hyl hsw hi ok hg ht he hs) fun D σ H h => ?_
  obtain ⟨G, F, r, T, q⟩ := h
  refine lc_rd σ H _ ⟨F, r, T.rel, (SPost.bind T q).imp fun v r1 F1 H1 R1 S1 q1 x rx => asg_ok T R1 S1 rx q1⟩
/-! ### what is walked -/
/-- a list, a tuple -/
def srcOf (v : Val) : PEn → Out (List PyData) := fun r => match v.fz r with
  | some (.list xs, r1) => .ok xs r1
  | some (.tuple xs, r1) => .ok xs r1
  | _ => .bad
def iSeq (f : PEn → Out Val) : PEn → Out (List PyData) := fun r => (f r).bind srcOf
end
end PD

/-! PDSrc: what is walked: lists and tuples, ranges, enumerate. -/
namespace PD
open PySem PySem.Spec PyProof.Rows L2
section
variable {X : Cx} {W : WX} {a b c e tg iter elt : Expr} {pos pos' p p2 tpos : Pos}
/-- iter(x) of a list or a tuple -/
theorem seq_iter {pins : List (Addr × Obj)} {σ : L2.St} {H F : Hp} {s1 : Shared} {x : V} {v : Value} {es : List PyData} {R : It → Hp → Prop} {E : Value → Shared → Prop} (I : Inv X pins σ H s1) (rv : RelV x v) (sub : Same F H)
    (h : (∃ q vs, x = .ref q ∧ SqL X.K F q vs ∧ DVs X.K F vs es) ∨ ∃ q vs, x = .ref q ∧ SqT X.K F q vs ∧ DVs X.K F vs es) (k : ∀ J, WalkD X.K J F es → R J H) :
    wpAny (model X.prog X.w) X.A (pyIter v) (PIE X pins σ tg R) E s1 := by
  have newIt : ∀ b ∈ [s1.heap.objs.size], FpOk X pins H b := fun b hb => by
    rw [List.mem_singleton] at hb
    rw [hb]
    exact I.fpOk (Nat.le_refl _) (I.hok.fresh (Nat.le_refl _))
  rcases h with ⟨q, vs, ex, hs, dv⟩ | ⟨q, vs, ex, hs, dv⟩
  · rw [ex] at rv
    obtain rfl : v = Value.ref q := rv
    obtain ⟨its, _, hl, _⟩ := I.list (sub.seq hs)
    refine wpAny_pyIter_list hl.isList ⟨_, _, _, Itl X.K q, H, rfl, I.kept (t' := s1.toks) fun b o e => Heap.get?_push_of_some _ e, turn_list q _, ⟨_, Heap.get?_push_size _ rfl, rfl, rfl⟩, newIt, k _ ?_⟩
    have w := (walk_list (K := X.K) (a := q) (xs := vs)).mono (G' := fun H => Same F H) (Y' := YD X.K F es) (fun H' z => z.seq hs) fun i H' y H'' _ _ hy => ?_
    · rw [dv.len] at w; exact w
    · obtain ⟨e1, e2⟩ := hy
      obtain ⟨d, e3, q3⟩ := dv.at' e2
      exact ⟨d, e3, .inl ⟨e1, q3⟩⟩
  · rw [ex] at rv
    obtain rfl : v = Value.ref q := rv
    obtain ⟨its, _, hl, _⟩ := I.tuple (seqT_mono sub hs)
    refine wpAny_pyIter_tuple (show s1.heap.IsTuple q its.toArray from hl) ⟨_, _, _, Itt X.K q, H, rfl, I.kept (t' := s1.toks) fun b o e => Heap.get?_push_of_some _ e, turn_tuple q _, ⟨_, Heap.get?_push_size _ rfl, rfl, rfl⟩, newIt, k _ ?_⟩
    have w := (walk_tup (K := X.K) (a := q) (xs := vs)).mono (G' := fun H => Same F H) (Y' := YD X.K F es) (fun H' z => seqT_mono z hs) fun i H' y H'' _ _ hy => ?_
    · rw [dv.len] at w; exact w
    · obtain ⟨e1, e2⟩ := hy
      obtain ⟨d, e3, q3⟩ := dv.at' e2
      exact ⟨d, e3, .inl ⟨e1, q3⟩⟩
theorem src_fin {K : PySem.W.Frag} {mg : Str → Option Value} {r0 r : PEn} {σ : L2.St} {F0 H0 F H : Hp} {x : V} {v : Val} {q : List PyData → PEn → Hp → Hp → Prop} (R : Rel K F r σ H) (S : Stp r0 σ F0 H0 r F H) (rx : RV K r σ H0 F H x v) (h : Post K mg W r0 σ F0 H0 (srcOf v r) q) :
    ∃ es F' r', Rel K F' r' σ H ∧ Stp r0 σ F0 H0 r' F' H ∧ ((∃ q vs, x = .ref q ∧ SqL K F' q vs ∧ DVs K F' vs es) ∨ ∃ q vs, x = .ref q ∧ SqT K F' q vs ∧ DVs K F' vs es) ∧ q es r' F' H := by
  unfold srcOf at h
  cases z : v.fz r with
  | none => rw [z] at h; exact h.elim
  | some y =>
    obtain ⟨d, r2⟩ := y
    rw [z] at h
    obtain ⟨F2, s2, R2, q2, S2, _⟩ := fz1 R S rx.rz z
    cases q2 with
    | lst hs dv => exact ⟨_, F2, r2, R2, S2, .inl ⟨_, _, rfl, hs, dv⟩, h F2 H R2 S2⟩
    | tup hs dv => exact ⟨_, F2, r2, R2, S2, .inr ⟨_, _, rfl, hs, dv⟩, h F2 H R2 S2⟩
    | non => exact h.elim
    | bl _ => exact h.elim
    | int _ => exact h.elim
    | str _ => exact h.elim
    | dct _ => exact h.elim
theorem i_seq {f : PEn → Out Val} (he : JE X W iter f) : JI X W tg iter (iSeq f) := by
  refine ⟨fun pins s σ H R I h => ?_⟩
  obtain ⟨F, r, R0, q⟩ := h
  refine thn (he.run pins s σ H (fun x H1 => ∃ es F' , Same F' H1 ∧ ((∃ q vs, x = .ref q ∧ SqL X.K F' q vs ∧ DVs X.K F' vs es) ∨ ∃ q vs, x = .ref q ∧ SqT X.K F' q vs ∧ DVs X.K F' vs es) ∧ ∀ J, WalkD X.K J F' es → R J H1) I ⟨F, r, R0, ?_⟩) fun v s1 ⟨x, H1, I1, r1, es, F', sub, hx, k⟩ => ?_
  · refine q.bind0.imp fun v r1 F1 H1 R1 S1 q1 x rx => ?_
    obtain ⟨es, F', r', R', S', hx, k⟩ := src_fin R1 S1 rx q1
    exact ⟨es, F', R'.sub, hx, k⟩
  · exact seq_iter I1 r1 sub hx k
/-! ### ranges -/
def big : Int := 1000000000
def rangeD (lo : Int) (n : Nat) : List PyData := (List.range n).map fun i => PyData.int (lo + (i : Nat))
def rng1 (v : Val) : PEn → Out (List PyData) := fun r => match v with
  | .v (.int n) => if n ≤ big ∧ -big ≤ n then .ok (rangeD 0 n.toNat) r else .bad
  | _ => .bad
def rng2 (v w : Val) : PEn → Out (List PyData) := fun r => match v, w with
  | .v (.int m), .v (.int n) => if n ≤ big ∧ -big ≤ n ∧ m ≤ big ∧ -big ≤ m then .ok (rangeD m (n - m).toNat) r else .bad
  | _, _ => .bad
def iRange1 (f : PEn → Out Val) : PEn → Out (List PyData) := fun r => (f r).bind rng1
def iRange2 (f g : PEn → Out Val) : PEn → Out (List PyData) := fun r => (f r).bind fun v r1 => (g r1).bind fun w r2 => rng2 v w r2
theorem walk_rangeD {K : PySem.W.Frag} {F : Hp} (lo : Int) (n : Nat) : WalkD K (Itr lo n) F (rangeD lo n) := by
  have w := (walk_range (lo := lo) (n := n)).mono (G' := fun H => Same F H) (Y' := YD K F (rangeD lo n)) (fun H' z => trivial) fun i H' y H'' hi _ hy => ?_
  · have e : (rangeD lo n).length = n := by unfold rangeD; rw [List.length_map, List.length_range]
    unfold WalkD
    rw [e]
    exact w
  · obtain ⟨e1, e2⟩ := hy
    subst e2
    refine ⟨.int (lo + (i : Nat)), ?_, .inl ⟨e1, .int _⟩⟩
    unfold rangeD
    rw [List.getElem?_map, List.getElem?_range hi]
    rfl
theorem i_range1 {f : PEn → Out Val} (hg : Gl X "range") (hm : X.mg "range" = none) (he : JE X W a f) (hs : starEach [a] X.env = [(false, eval a X.env)] := by rfl) : JI X W tg (.Call (.Name "range" p) [a] [] pos) (iRange1 f) := by
  refine pi_mono (pi_range1 hg hm (pa_cons he pa_nil hs) hs) fun σ H R h => ?_
  obtain ⟨F, r, R0, q⟩ := h
  refine ⟨F, r, R0, q.bind.imp fun v r1 F1 H1 R1 S1 q1 x rx => ?_⟩
  unfold rng1 at q1
  split at q1
  · rename_i n
    split at q1
    · rename_i hb
      cases rx
      have b : big = 1000000000 := rfl
      rw [b] at hb
      exact ⟨n, rfl, by have := hb.2; omega, by have := hb.1; omega, q1 F1 H1 R1 Stp.refl _ (walk_rangeD 0 n.toNat)⟩
    · exact q1.elim
  · exact q1.elim
theorem i_range2 {f g : PEn → Out Val} (hg : Gl X "range") (hm : X.mg "range" = none) (he : JE X W a f) (he2 : JE X W b g) (hs : starEach [a, b] X.env = (false, eval a X.env) :: starEach [b] X.env := by rfl) (hs2 : starEach [b] X.env = (false, eval b X.env) :: starEach [] X.env := by rfl) (hpl : (backTo pos (starEach [b] X.env)).any (·.1) = false := by rfl) :
    JI X W tg (.Call (.Name "range" p) [a, b] [] pos) (iRange2 f g) := by
  refine pi_mono (pi_range2 hg hm (pa_cons he (pa_cons he2 pa_nil hs2) hs) (by rw [hs, hs2]; rfl) (by rw [hs2]; rfl)) fun σ H R h => ?_
  obtain ⟨F, r, R0, q⟩ := h
  refine ⟨F, r, R0, q.bind.imp fun v r1 F1 H1 R1 S1 q1 x rx => ?_⟩
  refine ⟨F1, r1, R1, q1.bind.imp fun w r2 F2 H2 R2 S2 q2 y ry => ?_⟩
  unfold rng2 at q2
  split at q2
  · rename_i m n
    split at q2
    · rename_i hb
      cases rx
      cases ry
      have b : big = 1000000000 := rfl
      rw [b] at hb
      obtain ⟨h1, h2, h3, h4⟩ := hb
      exact ⟨m, n, rfl, ⟨by omega, by omega, by omega, by omega⟩, q2 F2 H2 R2 Stp.refl _ (walk_rangeD m (n - m).toNat)⟩
    · exact q2.elim
  · exact q2.elim
end
end PD

/-! PDGuard: promises of defs that are called where no repr is under way; the law's end. -/
namespace PD
open PySem PySem.Spec PyProof.Rows L2
structure Rm (k : Nat) (A : Around) : Prop where
  rm : Room k A
  gd : A.guards = some []
theorem Rm.down {j k : Nat} {A : Around} (r : Rm k A) (h : j ≤ k) : Rm j A := ⟨r.rm.mono h, r.gd⟩
theorem Rm.into {k : Nat} {A : Around} (r : Rm (k + 1) A) (env : Env) : Rm k (A.deeper env) := ⟨r.rm.deeper env, r.gd⟩
theorem Rm.caller {k : Nat} (h : Room k callerA) : Rm k callerA := ⟨h, rfl⟩
structure FnG (P : Program) (w : World) (K : PySem.W.Frag) (mg : Str → Option Value) (base : Heap) (CX : CXT) (k : Nat) (f : Addr) (fd : FuncData) (ps : List Str) (sp : Sp) : Prop where
  len : ∀ vs H Q E, sp vs H Q E → vs.length = ps.length
  go : ∀ {A : Around} {outer : List Env} {s : Shared} {H : Hp} {args : Args} {us : List Value} {vs : List V} {Q : VK} {E : XK}, Rm k A → Env0 P w K mg base A outer s H →
    BindsTo s fd args (ps.zip us) → Vals vs us → sp vs H Q E → codeAny (model P w) A (.call (.ref f) args) (CR CX outer P w H s Q E) s
section
variable {P : Program} {w : World} {K : PySem.W.Frag} {mg : Str → Option Value} {base : Heap} {CX : CXT}
theorem FnG.more {j k : Nat} {f : Addr} {fd : FuncData} {ps : List Str} {sp : Sp} (F : FnG P w K mg base CX j f fd ps sp) (h : j ≤ k) : FnG P w K mg base CX k f fd ps sp := ⟨F.len, fun r => F.go (r.down h)⟩
theorem FnG.weak {k : Nat} {f : Addr} {fd : FuncData} {ps : List Str} {sp sp' : Sp} (F : FnG P w K mg base CX k f fd ps sp) (h : ∀ vs H Q E, sp' vs H Q E → sp vs H Q E) : FnG P w K mg base CX k f fd ps sp' :=
  ⟨fun vs H Q E q => F.len vs H Q E (h _ _ _ _ q), fun r e b v q => F.go r e b v (h _ _ _ _ q)⟩
/-- THE RULE of a def -/
theorem FnG.mk_ {x qual : Str} {st : Stmt} {f : Addr} {fd : FuncData} {N ps : List Str} {k : Nat} {sp : Sp} (F : Fun K x qual st f fd) (S : FnScope N ps (defScope st)) (len : ∀ vs H Q E, sp vs H Q E → vs.length = ps.length)
    (body : ∀ (cdv : Value) (A : Around) (outer : List Env) (s : Shared) (H : Hp) (vs : List V) (Q : VK) (E : XK), Rm k (A.deeper (envOfC qual (defScope st) s.heap.objs.size f cdv)) → sp vs H Q E →
      ∃ t, PSs (cxOf CX P w K mg base N qual (defScope st) f cdv A outer s H E) (defBody st) t ∧ t { nx := fun _ H' => Q .non H', rt := Q } (L2.start N vs) H) : FnG P w K mg base CX (k + 1) f fd ps sp := by
  obtain ⟨oc, od, kV, doc, pm, an, cdv, ct, osl, rfl, lk, hcd⟩ := F.ex
  refine ⟨len, ?_⟩
  intro A outer s H args us vs Q E rm e0 bd vr hsp
  have kept : ∀ b o, base.get? b = some o → s.heap.get? b = some o := fun b o e => (e0.bs b o e).1
  have hN : ∀ y ∈ ps.zip us, (defScope st).names.lookup y.1 = some .local ∨ ((defScope st).names.lookup y.1 = some .cell ∧ ((cellsFrom (s.heap.objs.size + 1) (defScope st).names []).lookup y.1).isSome = true) := by
    intro y hy
    have hm := S.par y.1 (List.of_mem_zip (show (y.1, y.2) ∈ ps.zip us from hy)).1
    exact hm.imp id fun q => ⟨q, PySem.W.cellsFrom_some _ _ _ (.inl q)⟩
  have KX : K.In s.heap := e0.mod.kin.keeps kept
  apply codeAny_call_function rm.rm.depth (KX _ _ lk) rfl S.co S.gen rfl (PySem.W.codeRec_of KX hcd)
  apply bd
  apply wpAny_newFunctionEnv_cells S.kind hN
  rintro env rfl s1 x
  refine ⟨(e0.mod.nolimit.keeps kept).keeps x.toInCall.keep, ?_⟩
  apply codeAny_func
  obtain ⟨t, ht, hq⟩ := body cdv A outer s H vs Q E (rm.into _) hsp
  have I := inv_start (CX := CX) (E := E) S rm.rm.hd e0 (len _ _ _ _ hsp) vr x
  apply wpAny_mono (ht.run [] s1 (L2.start N vs) H _ I hq)
  · intro fl s' hs
    cases fl with
    | ret u =>
      obtain ⟨v, σ', H', J, rv, q⟩ := hs
      exact ⟨v, H', J.os, J.bare, J.base, J.hok, rv, q⟩
    | next =>
      obtain ⟨σ', H', J, q⟩ := hs
      exact ⟨V.non, H', J.os, J.bare, J.base, J.hok, rfl, q⟩
    | brk => exact hs.elim fun _ ⟨_, _, q⟩ => False.elim q
    | cont => exact hs.elim fun _ ⟨_, _, q⟩ => False.elim q
  · exact fun e s' hs => hs
end
section
variable {X : Cx} {CX : CXT} {k : Nat} {f : Addr} {fd : FuncData} {ps : List Str} {sp : Sp} {E : L2.St → XK} {x : Str} {p pos : Pos} {e : Expr} {es : List Expr} {t : TA}
theorem FnG.runs {pins : List (Addr × Obj)} {σ : L2.St} {H : Hp} {s : Shared} {Q : VK} {us : List Value} {vs : List V} (F : FnG X.prog X.w X.K X.mg X.base CX k f fd ps sp) (rm : Rm k X.A) (hb : Binds X.K fd ps [])
    (hx : PassesAt CX X σ (E σ)) (I : Inv X pins σ H s) (r : Vals vs us) (h : sp vs H Q (E σ)) : wpAny (model X.prog X.w) X.A (call (.ref f) us) (EP X pins σ Q) X.xe s := by
  have bd : BindsTo s fd ⟨us, []⟩ (ps.zip us) := by
    have := hb s us I.kIn (by rw [List.append_nil, ← r.length]; exact F.len _ _ _ _ h)
    rwa [List.append_nil] at this
  apply wpAny_call
  apply codeAny_mono (F.go rm I.env0 bd r h)
  intro res s' hq
  match res, hq with
  | .error e, hq => exact hx pins H s e s' I hq
  | .ok (.ret u), hq => exact I.after hq
  | .ok .next, hq => exact False.elim hq
  | .ok .brk, hq => exact False.elim hq
  | .ok .cont, hq => exact False.elim hq
/-- a def of the module, by name -/
theorem pe_callG (F : FnG X.prog X.w X.K X.mg X.base CX k f fd ps sp) (rm : Rm k X.A) (hg : Gl X x) (hm : X.mg x = some (.ref f)) (hk : PySem.W.keepIn X.K (.ref f) = true) (hb : Binds X.K fd ps []) (hx : ∀ σ, PassesAt CX X σ (E σ))
    (ha : PA X (e :: es) t) (hdb : (x == ("__debug__" : Str)) = false := by decide) (he : starEach (e :: es) X.env = (false, eval e X.env) :: starEach es X.env := by rfl) (hpl : (backTo pos (starEach es X.env)).any (·.1) = false := by rfl) :
    PE X (.Call (.Name x p) (e :: es) [] pos) (tCallS sp E t) := by
  constructor
  intro pins s σ H Q I h
  refine wpAny_Call_Name_kw (ld_glob I hg hm ?_ hdb)
  refine PySem.W.callWith_K (h₀ := X.base) I.ok.mod.kin hk ?_ he hpl
  refine thn (ha.run pos pins s σ H _ I h) ?_
  rintro us s1 ⟨vs, H1, I1, r, q⟩
  exact ⟨I1.kIn, F.runs rm hb (hx σ) I1 r q⟩
end
/-! ### the law's end -/
section
variable {P : Program} {w : World} {K : PySem.W.Frag} {mg mb : Str → Option Value} {CX : CXT} {k : Nat} {fa a : Addr} {fd : FuncData} {x : Str} {sp : Sp} {s₁ : Shared} {vs : List Value} {ns : List Int}
/-- one heap at the entry: at most the script stands in it -/
theorem enterG {H : Hp} (KX : K.In s₁.heap) (hns : s₁.heap.Ns mainGlobals mg) (hb : s₁.heap.Ns builtinsNs mb) (hbb : ∀ x : Str, x ≠ "__name__" → mb x = bootBuiltins x) (hlim : s₁.heap.NoLimit) (hg : s₁.gens = #[])
    (ha : s₁.heap.get? a = some { cls := .type "list", data := .seq vs.toArray }) (rm : Rm k callerA) (F : ∀ base : Heap, K.In base → base.Ns mainGlobals mg → FnG P w K mg base CX k fa fd [x] sp)
    (hbind : ∀ (s : Shared) (u : Value), BindsTo s fd ⟨[u], []⟩ [(x, u)]) (hsp : sp [.ref a] H (fun v _ => v = .bl true) fun _ _ _ => False) (hCX : ∀ H e s', CX [] H s₁ (fun _ _ _ => False) e s' → False)
    (only : Only H) (hok : HOk P w H s₁.heap) (one : ∀ b, H b ≠ none → b = a) (out : H a ≠ none → K.lookup a = none) :
    codeAny (model P w) callerA (.call (.ref fa) ⟨[.ref a], []⟩) (fun r s' => r = .ok (.ret (.bool true)) ∧ OldK s₁.heap s'.heap ∧ s'.os = s₁.os ∧ AllBare s'.gens) s₁ := by
  have away : ∀ {b : Addr}, b ≠ a → H b = none := fun {b} n => Classical.byContradiction fun z => n (one b z)
  have dictFree : ∀ {b : Addr} {o : Obj} {es : Array DictEntry} {ep : Nat}, s₁.heap.get? b = some o → o.data = .dict es ep → H b = none := by
    intro b o es ep e d
    by_cases q : b = a
    · subst q
      rw [ha] at e
      obtain rfl := Option.some.inj e
      exact absurd d (fun z => nomatch (show Data.seq vs.toArray _ = Data.dict es ep from z))
    · exact away q
  have nsH : ∀ {b : Addr} {m : Str → Option Value}, s₁.heap.Ns b m → (hidT s₁.heap H).Ns b m := by
    rintro b m ⟨o, es, ep, e, d, r⟩
    exact ⟨o, es, ep, hidT_get e (dictFree e d), d, r⟩
  have kH : K.In (hidT s₁.heap H) := by
    intro b o e
    refine hidT_get (KX b o e) (Classical.byContradiction fun z => ?_)
    have ba := one b z
    subst ba
    rw [out z] at e
    exact nomatch e
  obtain ⟨mc, l1, l2⟩ := hlim
  have md : Mod K mg (hidT s₁.heap H) := ⟨kH, nsH hns, ⟨mb, nsH hb, hbb⟩, ⟨mc, nsH l1, l2⟩⟩
  have noFrame : ∀ b ∈ frs [], H b = none := fun b hb => absurd (show b ∈ ([] : List Addr) from hb) (by simp)
  have e0 : Env0 P w K mg (hidT s₁.heap H) callerA [] s₁ H := ⟨rfl, md, fun b o e => of_hidT e, Nat.le_of_eq (hidT_size _ _), trivial, noFrame, hok, .of_eq hg⟩
  apply codeAny_mono ((F _ kH (nsH hns)).go rm e0 (us := [.ref a]) (vs := [.ref a]) (hbind s₁ (.ref a)) (.cons rfl .nil) hsp)
  intro res s' h
  match res, h with
  | .error e, h => exact (hCX H e s' h).elim
  | .ok .next, h => exact False.elim h
  | .ok .brk, h => exact False.elim h
  | .ok .cont, h => exact False.elim h
  | .ok (.ret u), h =>
    obtain ⟨v, H', os, bare, un, hok', r', q⟩ := h
    obtain rfl : v = V.bl true := q
    obtain rfl : u = Value.bool true := r'
    refine ⟨rfl, OldK.of_keep ?_, os, bare⟩
    intro b o e
    rcases only b with z | ⟨ob, xs, z⟩
    · exact un.keep b o e z (fun m => absurd (show b ∈ ([] : List Addr) from m) (by simp)) (by simp)
    · have h1 := (hok b _ z).1
      rw [h1] at e
      exact e ▸ (hok' b _ (un.frzs b ob _ z)).1
/-- the law's call -/
theorem law_callG (KX : K.In s₁.heap) (hns : s₁.heap.Ns mainGlobals mg) (hb : s₁.heap.Ns builtinsNs mb) (hbb : ∀ x : Str, x ≠ "__name__" → mb x = bootBuiltins x) (hlim : s₁.heap.NoLimit) (hg : s₁.gens = #[])
    (ha : s₁.heap.get? a = some { cls := .type "list", data := .seq vs.toArray }) (hi : IntsAre vs ns) (hl : ns.length ≤ sizeLine) (rm : Rm k callerA) (F : ∀ base : Heap, K.In base → base.Ns mainGlobals mg → FnG P w K mg base CX k fa fd [x] sp)
    (hbind : ∀ (s : Shared) (u : Value), BindsTo s fd ⟨[u], []⟩ [(x, u)]) (hsp : ∀ H : Hp, Only H → SqL K H a (ns.map V.int) → sp [.ref a] H (fun v _ => v = .bl true) fun _ _ _ => False) (hCX : ∀ H e s', CX [] H s₁ (fun _ _ _ => False) e s' → False) :
    codeAny (model P w) callerA (.call (.ref fa) ⟨[.ref a], []⟩) (fun r s' => r = .ok (.ret (.bool true)) ∧ OldK s₁.heap s'.heap ∧ s'.os = s₁.os ∧ AllBare s'.gens) s₁ := by
  have rv := vals_ints hi
  cases hk : K.lookup a with
  | some o =>
    have eo := (KX a o hk).symm.trans ha
    obtain rfl := Option.some.inj eo
    have sq : SqL K (fun _ => none) a (ns.map V.int) := .inr ⟨_, vs.toArray, _, hk, rfl, rfl, rfl, by rw [List.size_toArray, hi.length]; exact hl, by simpa using rv⟩
    have on : Only (fun _ => none) := fun _ => .inl rfl
    exact enterG KX hns hb hbb hlim hg ha rm F hbind (hsp _ on sq) hCX on (fun b u z => nomatch (show (none : Option HO) = some u from z)) (fun b z => absurd rfl z) fun z => absurd rfl z
  | none =>
    let Hs : Hp := fun b => if b = a then some (.frz { cls := .type "list", data := .seq vs.toArray } (.lst (ns.map V.int))) else none
    have at_ : Hs a = some (.frz { cls := .type "list", data := .seq vs.toArray } (.lst (ns.map V.int))) := if_pos rfl
    have off : ∀ {b : Addr}, b ≠ a → Hs b = none := fun n => if_neg n
    have on : Only Hs := fun b => if q : b = a then .inr ⟨_, _, q ▸ at_⟩ else .inl (off q)
    refine enterG KX hns hb hbb hlim hg ha rm F hbind (hsp Hs on (.inl (.inr ⟨_, at_⟩))) hCX on ?_ ?_ fun _ => hk
    · intro b u z
      by_cases q : b = a
      · subst q
        rw [at_] at z
        obtain rfl := Option.some.inj z
        exact ⟨ha, by rw [List.length_map]; exact hl, vs, _, rv, ha⟩
      · rw [off q] at z
        exact nomatch z
    · exact fun b z => Classical.byContradiction fun q => z (off q)
end
/-- what k_head leaves, from the law's promise -/
theorem walk_G {l : PySem.W.OpenLaw} {n k : Nat} {q : Program} {loose : List Str} {XP : (Str → Option Value) → Heap → Prop} {YP : World → Heap → Prop} {d : DefRec} {K : Params → PySem.W.Frag} {sp : PySem.W.Frag → (Str → Option Value) → Sp} {x : Str}
    (hn : l.most = some n) (hn2 : n ≤ sizeLine) (hdf : d.params.defaults = []) (rm : Rm k callerA) (hY : ∀ (w : World) (h : Heap), YP w h → (K w.params).In h)
    (F : ∀ (w : World) (mg : Str → Option Value) (fa : Addr) (h : Heap), (K w.params).In h → h.Ns mainGlobals mg → mg d.name = some (.ref fa) →
      ∃ fd : FuncData, (∀ (s : Shared) (u : Value), BindsTo s fd ⟨[u], []⟩ [(x, u)]) ∧ ∀ base : Heap, (K w.params).In base → base.Ns mainGlobals mg → FnG l.prog w (K w.params) mg base (L2.CX l.prog w) k fa fd [x] (sp (K w.params) mg))
    (hsp : ∀ (K : PySem.W.Frag) (mg : Str → Option Value) (H : Hp) (a : Addr) (ns : List Int), ns.length ≤ n → Only H → SqL K H a (ns.map V.int) → sp K mg [.ref a] H (fun v _ => v = .bl true) fun _ _ _ => False)
    (hCX : ∀ (w : World) (H : Hp) (s : Shared) (e : Value) (s' : Shared), L2.CX l.prog w [] H s (fun _ _ _ => False) e s' → False) :
    PySem.W.WalkO q loose XP YP l.row.toRowW d [] (fun f vs => PySem.call f vs) := by
  apply Att.attach_call hn hdf
  intro w s₀ s₁ mg mb fa o pm cd doc a vs ns G Y ho hd hcd hmg hobj hints hlen hg
  obtain ⟨fd, hb, hF⟩ := F w mg fa _ (hY w _ Y) G.T.g hmg
  exact law_callG (hY w _ Y) G.T.g G.T.b G.T.builtins G.T.nolimit hg hobj hints (Nat.le_trans hlen hn2) rm hF hb (fun H hO hS => hsp _ mg H a ns hlen hO hS) fun H e s' => hCX w H s₁ e s'
end PD

/-! PDFn: defs by what they compute; their calls. -/
namespace PD
open PySem PySem.Spec PyProof.Rows L2
/-- an argument: data, or a list that the def may change -/
inductive Arg where
  | d (x : PyData)
  | l (xs : List PyData)
/-- what a def computes -/
inductive FO where
  | bad
  | ok (z : Rs) (as : List Arg)
  | exc (e : Ex) (as : List Arg)
def ArgR (K : PySem.W.Frag) (F H : Hp) (x : V) : Arg → Prop
  | .d d => DV K F x d
  | .l xs => ∃ a vs, x = .ref a ∧ F a = none ∧ H a = some (.lst vs) ∧ DVs K F vs xs
def pensOf : Nat → List V → List Arg → List (Nat × Addr)
  | j, .ref a :: xs, .l _ :: as => (j, a) :: pensOf (j + 1) xs as
  | j, _ :: xs, _ :: as => pensOf (j + 1) xs as
  | _, _, _ => []
abbrev refsOf (vs : List V) (as : List Arg) : List Addr := (pensOf 0 vs as).map (·.2)
structure CallSt (K : PySem.W.Frag) (F H : Hp) (vs : List V) (as as' : List Arg) (F' H' : Hp) : Prop where
  ff : Same F F'
  sub : Same F' H'
  fn : ∀ b, F b = none → H b ≠ none → F' b = none
  kp : ∀ b o, H b = some o → b ∉ refsOf vs as → H' b = some o
  th : ∀ b, H b ≠ none → H' b ≠ none
  args : Paired (ArgR K F' H') vs as'
def spD (K : PySem.W.Frag) (mg : Str → Option Value) (M : List Arg → FO) : Sp := fun vs H Q E => ∃ F as, Same F H ∧ Paired (ArgR K F H) vs as ∧ (refsOf vs as).Nodup ∧ match M as with
  | .bad => False
  | .ok z as' => ∀ x F' H', CallSt K F H vs as as' F' H' → RR K H F' H' x z → Q x H'
  | .exc e as' => ∀ c d F' H', CallSt K F H vs as as' F' H' → XV K mg F' H' e c d → E c d H'
def Arg.sl : Arg → Sl
  | .d x => .d x
  | .l xs => .l true xs
def argsBack : List Arg → PEn → List Arg
  | .l xs :: as, s :: r => (match s with | .l _ ys => Arg.l ys | _ => Arg.l xs) :: argsBack as r
  | .d x :: as, _ :: r => .d x :: argsBack as r
  | _, _ => []
def Val.out (r : PEn) : Val → Option Rs
  | .v d => some (.v d)
  | .n xs => some (.n xs)
  | .b i => match r[i]? with
    | some (.d d) => some (.v d)
    | some (.l false xs) => some (.n xs)
    | _ => none
/-- a def of n parameters and N names, by its body -/
def den (g : PEn → Out Fl) (n N : Nat) (as : List Arg) : FO := if as.length = n then match g (as.map Arg.sl ++ List.replicate (N - n) .u) with
    | .ok (.ret v) r => match v.out r with
      | some z => .ok z (argsBack as r)
      | none => .bad
    | .ok .next r => .ok (.v .none) (argsBack as r)
    | .exc e r => .exc e (argsBack as r)
    | _ => .bad
  else .bad
theorem mem_pens : ∀ {j i : Nat} {vs : List V} {as : List Arg} {a : Addr}, (i, a) ∈ pensOf j vs as ↔ ∃ k, i = j + k ∧ vs[k]? = some (.ref a) ∧ ∃ xs, as[k]? = some (.l xs)
  | j, i, [], as, a => by cases as <;> simp [pensOf]
  | j, i, v :: vs, [], a => by cases v <;> simp [pensOf]
  | j, i, v :: vs, b :: as, a => by
    have ih := mem_pens (j := j + 1) (i := i) (vs := vs) (as := as) (a := a)
    have rest : ((i, a) ∈ pensOf (j + 1) vs as) ↔ ∃ k, i = j + (k + 1) ∧ vs[k]? = some (.ref a) ∧ ∃ xs, as[k]? = some (.l xs) := by
      rw [ih]
      exact ⟨fun ⟨k, h⟩ => ⟨k, by omega, h.2⟩, fun ⟨k, h⟩ => ⟨k, by omega, h.2⟩⟩
    have tail : (¬ (v = .ref a ∧ ∃ xs, b = .l xs)) → ((∃ k, i = j + k ∧ (v :: vs)[k]? = some (.ref a) ∧ ∃ xs, (b :: as)[k]? = some (.l xs)) ↔ ∃ k, i = j + (k + 1) ∧ vs[k]? = some (.ref a) ∧ ∃ xs, as[k]? = some (.l xs)) := fun n => by
      constructor
      · rintro ⟨k, h1, h2, xs, h3⟩
        cases k with
        | zero =>
          simp only [List.getElem?_cons_zero, Option.some.injEq] at h2 h3
          exact absurd ⟨h2, xs, h3⟩ n
        | succ k => exact ⟨k, h1, by simpa using h2, xs, by simpa using h3⟩
      · rintro ⟨k, h1, h2, xs, h3⟩
        exact ⟨k + 1, h1, by simpa using h2, xs, by simpa using h3⟩
    cases b with
    | d x =>
      have e : pensOf j (v :: vs) (.d x :: as) = pensOf (j + 1) vs as := by cases v <;> rfl
      rw [e, rest, tail (by rintro ⟨_, xs, h⟩; cases h)]
    | l xs =>
      cases v with
      | ref c =>
        have e : pensOf j (.ref c :: vs) (.l xs :: as) = (j, c) :: pensOf (j + 1) vs as := rfl
        rw [e, List.mem_cons, rest]
        constructor
        · rintro (h | ⟨k, h1, h2, ys, h3⟩)
          · cases h; exact ⟨0, rfl, rfl, xs, rfl⟩
          · exact ⟨k + 1, h1, by simpa using h2, ys, by simpa using h3⟩
        · rintro ⟨k, h1, h2, ys, h3⟩
          cases k with
          | zero =>
            simp only [List.getElem?_cons_zero, Option.some.injEq, V.ref.injEq] at h2
            exact .inl (by rw [h1, h2]; rfl)
          | succ k => exact .inr ⟨k, h1, by simpa using h2, ys, by simpa using h3⟩
      | _ => exact (by
          rw [show pensOf j (_ :: vs) (.l xs :: as) = pensOf (j + 1) vs as from rfl, rest, tail (by rintro ⟨h, _⟩; cases h)])
theorem pens_inj : ∀ {j : Nat} {vs : List V} {as : List Arg}, ((pensOf j vs as).map (·.2)).Nodup → ∀ {i k : Nat} {a : Addr}, (i, a) ∈ pensOf j vs as → (k, a) ∈ pensOf j vs as → i = k := fun {j vs as} h i k a h1 h2 => by
  have h' : (pensOf j vs as).Pairwise fun p q => p.2 ≠ q.2 := List.pairwise_map.mp h
  by_cases e : i = k
  · exact e
  · exfalso
    have : ∀ {l : List (Nat × Addr)}, l.Pairwise (fun p q => p.2 ≠ q.2) → (i, a) ∈ l → (k, a) ∈ l → False := fun {l} hl h1 h2 => by
      induction hl with
      | nil => cases h1
      | cons hh _ ih =>
        rcases List.mem_cons.mp h1 with e1 | m1
        · rcases List.mem_cons.mp h2 with e2 | m2
          · rw [← e1] at e2; exact e (by cases e2; rfl)
          · exact hh _ m2 (by rw [← e1])
        · rcases List.mem_cons.mp h2 with e2 | m2
          · exact hh _ m1 (by rw [← e2])
          · exact ih m1 m2
    exact this h' h1 h2
section
variable {P : Program} {w : World} {K : PySem.W.Frag} {mg : Str → Option Value} {base : Heap}
theorem start_at {N : List Str} {vs : List V} {i : Nat} {v : V} (h : vs[i]? = some v) : (L2.start N vs)[i]? = some (some v) := by
  unfold L2.start
  have hi : i < vs.length := (List.getElem?_eq_some_iff.mp h).1
  rw [List.getElem?_append_left (by simpa using hi), List.getElem?_map, h]
  rfl
theorem init_at {as : List Arg} {m i : Nat} {s : Sl} (h : (as.map Arg.sl ++ List.replicate m .u)[i]? = some s) (hs : s ≠ .u) : ∃ a, as[i]? = some a ∧ a.sl = s := by
  by_cases hi : i < as.length
  · rw [List.getElem?_append_left (by simpa using hi), List.getElem?_map] at h
    cases e : as[i]? with
    | none => rw [e] at h; cases h
    | some a => rw [e] at h; exact ⟨a, rfl, Option.some.inj h⟩
  · rw [List.getElem?_append_right (by simpa using hi), List.getElem?_replicate] at h
    split at h
    · cases h; exact absurd rfl hs
    · cases h
theorem init_sl {as : List Arg} {m i : Nat} {a : Arg} (h : as[i]? = some a) : (as.map Arg.sl ++ List.replicate m .u)[i]? = some a.sl := by
  have hi : i < as.length := (List.getElem?_eq_some_iff.mp h).1
  rw [List.getElem?_append_left (by simpa using hi), List.getElem?_map, h]
  rfl
theorem Paired.at2 {α β : Type} {R : α → β → Prop} : ∀ {xs : List α} {ys : List β} {j : Nat} {x : α}, Paired R xs ys → xs[j]? = some x → ∃ y, ys[j]? = some y ∧ R x y
  | _, _, _, _, .nil, e => by simp at e
  | _, _, 0, _, .cons r _, e => by simp at e; subst e; exact ⟨_, rfl, r⟩
  | _, _, j + 1, x, .cons _ t, e => by
    obtain ⟨y, h1, h2⟩ := Paired.at2 (j := j) (x := x) t (by simpa using e)
    exact ⟨y, by simpa using h1, h2⟩
theorem argsBack_ok {G : Gm} {F F' H' : Hp} {σ' : L2.St} {K : PySem.W.Frag} : ∀ {vs : List V} {as : List Arg} {r : PEn} {H : Hp}, Paired (ArgR K F H) vs as → as.length ≤ r.length → Same F F' →
    (∀ (j : Nat) (a : Addr) (xs : List PyData), vs[j]? = some (.ref a) → as[j]? = some (.l xs) → ∃ ys : List PyData, r[j]? = some (.l true ys) ∧ ArgR K F' H' (.ref a) (.l ys)) → Paired (ArgR K F' H') vs (argsBack as r)
  | _, _, _, _, .nil, _, _, _ => .nil
  | v :: vs, a :: as, [], _, .cons h t, hl, _, _ => by simp at hl
  | v :: vs, a :: as, s :: r, H, .cons h t, hl, e, k => by
    have ih := argsBack_ok (G := G) (H' := H') (σ' := σ') (r := r) t (by simpa using hl) e fun j b xs h1 h2 => by
      obtain ⟨ys, h3, h4⟩ := k (j + 1) b xs (by simpa using h1) (by simpa using h2)
      exact ⟨ys, by simpa using h3, h4⟩
    cases a with
    | d x => exact .cons (DV.mono e h) ih
    | l xs =>
      obtain ⟨b, us, rfl, _⟩ := h
      obtain ⟨ys, h3, h4⟩ := k 0 b xs rfl rfl
      simp only [List.getElem?_cons_zero, Option.some.injEq] at h3
      subst h3
      exact .cons h4 ih
/-- THE RULE: a def computes what its body's denotation says -/
theorem fn_den {x qual : Str} {st : Stmt} {f : Addr} {fd : FuncData} {N ps : List Str} {k : Nat} {g : PEn → Out Fl} (Fn : Fun K x qual st f fd) (S : FnScope N ps (defScope st)) (hl : ps.length ≤ N.length)
    (hbody : ∀ (cdv : Value) (A : Around) (outer : List Env) (s : Shared) (H : Hp) (E : XK), Rm k (A.deeper (envOfC qual (defScope st) s.heap.objs.size f cdv)) →
      JSs (cxOf (L2.CX P w) P w K mg base N qual (defScope st) f cdv A outer s H E) (fun c d _ H => E c d H) (defBody st) g) : FnG P w K mg base (L2.CX P w) (k + 1) f fd ps (spD K mg (den g ps.length N.length)) := by
  refine .mk_ Fn S (fun vs H Q E h => ?_) (fun cdv A outer s H vs Q E hr h => ?_)
  · obtain ⟨F, as, _, pa, _, q⟩ := h
    rw [Paired.length pa]
    unfold den at q
    by_cases hn : as.length = ps.length
    · exact hn
    · rw [if_neg hn] at q
      exact q.elim
  · refine ⟨_, hbody cdv A outer s H E hr, ?_⟩
    obtain ⟨F, as, sub, pa, nd, q⟩ := h
    have hpl := Paired.length pa
    unfold den at q
    by_cases hn : as.length = ps.length
    · rw [if_pos hn] at q
      have T : Stt K ⟨F, H, pensOf 0 vs as, N.length⟩ (as.map Arg.sl ++ List.replicate (N.length - ps.length) .u) (L2.start N vs) F H := by
        refine ⟨⟨?_, sub, fun i d e => ?_, fun i p xs e => ?_, fun i j p q xs ys a e1 e2 e3 e4 => ?_⟩, ?_, Same.refl _, fun _ f _ => f, fun _ _ e _ => e, fun _ n => n, fun p hp => ?_, fun i xs a e1 e2 => ?_, fun i xs a e1 e2 => ?_⟩
        · unfold L2.start
          rw [List.length_append, List.length_append, List.length_map, List.length_map, List.length_replicate, List.length_replicate, hpl, hn]
        · obtain ⟨a, e1, e2⟩ := init_at e (by simp)
          obtain ⟨v, e3, r3⟩ := paired_at pa e1
          cases a with
          | d x => cases e2; exact ⟨v, start_at e3, r3⟩
          | l xs => cases e2
        · obtain ⟨a, e1, e2⟩ := init_at e (by simp)
          obtain ⟨v, e3, r3⟩ := paired_at pa e1
          cases a with
          | d x => cases e2
          | l xs => cases e2; obtain ⟨b, us, rfl, f, h, dv⟩ := r3; exact ⟨b, us, start_at e3, f, h, dv⟩
        · have pn : ∀ {i : Nat} {p : Bool} {xs : List PyData}, (as.map Arg.sl ++ List.replicate (N.length - ps.length) .u)[i]? = some (.l p xs) → (L2.start N vs)[i]? = some (some (.ref a)) → (i, a) ∈ pensOf 0 vs as := fun {i p xs} e1 e2 => by
            obtain ⟨c, e3, e4⟩ := init_at e1 (by simp)
            obtain ⟨v, e5, r5⟩ := paired_at pa e3
            rw [start_at e5] at e2
            cases e2
            cases c with
            | d x => cases e4
            | l ys => exact mem_pens.mpr ⟨i, by omega, e5, ys, e3⟩
          exact pens_inj nd (pn e1 e3) (pn e2 e4)
        · show (as.map Arg.sl ++ List.replicate (N.length - ps.length) Sl.u).length = N.length
          rw [List.length_append, List.length_map, List.length_replicate, hn]
          omega
        · obtain ⟨i, a⟩ := p
          obtain ⟨k', e1, e2, xs, e3⟩ := mem_pens.mp hp
          have : i = k' := by omega
          subst this
          exact ⟨start_at e2, xs, init_sl e3⟩
        · obtain ⟨c, e3, e4⟩ := init_at e1 (by simp)
          cases c <;> cases e4
        · obtain ⟨c, e3, e4⟩ := init_at e1 (by simp)
          obtain ⟨v, e5, r5⟩ := paired_at pa e3
          rw [start_at e5] at e2
          cases e2
          cases c with
          | d x => cases e4
          | l ys => exact List.mem_map.mpr ⟨(i, a), mem_pens.mpr ⟨i, by omega, e5, ys, e3⟩, rfl⟩
      have back : ∀ {r' : PEn} {σ' : L2.St} {F' H' : Hp}, Stt K ⟨F, H, pensOf 0 vs as, N.length⟩ r' σ' F' H' → as.length ≤ r'.length → CallSt K F H vs as (argsBack as r') F' H' := fun {r' σ' F' H'} T' hlen =>
        ⟨T'.ff0, T'.rel.sub, T'.fn0, T'.kp0, T'.th0, argsBack_ok (G := ⟨F, H, pensOf 0 vs as, N.length⟩) (σ' := σ') pa hlen T'.ff0 fun j a xs h1 h2 => by
          obtain ⟨e1, ys, e2⟩ := T'.pen (j, a) (mem_pens.mpr ⟨j, by omega, h1, xs, h2⟩)
          obtain ⟨b, us, e3, f, h, dv⟩ := T'.rel.lst j true ys e2
          have e1' : σ'[j]? = some (some (.ref a)) := e1
          rw [e1'] at e3
          cases e3
          exact ⟨ys, e2, a, us, rfl, f, h, dv⟩⟩
      refine ⟨_, F, _, T, ?_⟩
      cases z : g (as.map Arg.sl ++ List.replicate (N.length - ps.length) .u) with
      | bad => rw [z] at q; exact q.elim
      | exc e r' =>
        rw [z] at q
        exact fun c d σ' F' H' T' xv => q c d F' H' (back T' (by rw [T'.ln, hn]; exact hl)) xv
      | ok fl r' =>
        rw [z] at q
        cases fl with
        | next => exact fun σ' F' H' T' => q .non F' H' (back T' (by rw [T'.ln, hn]; exact hl)) .non
        | brk => exact q.elim
        | cont => exact q.elim
        | ret v =>
          simp only at q
          intro σ' F' H' T' x rx
          cases zo : v.out r' with
          | none => rw [zo] at q; exact q.elim
          | some zr =>
            rw [zo] at q
            refine q x F' H' (back T' (by rw [T'.ln, hn]; exact hl)) ?_
            cases v with
            | v d => cases zo; exact rx
            | n xs => cases zo; obtain ⟨a, us, e, h0, f, _, h, dv⟩ := rx; exact ⟨a, us, e, h0, f, h, dv⟩
            | b i =>
              obtain ⟨e1, _⟩ := rx
              simp only [Val.out] at zo
              split at zo
              · rename_i d hd
                cases zo
                obtain ⟨v, e2, dv⟩ := T'.rel.dat i _ hd
                rw [e1] at e2
                cases e2
                exact dv
              · rename_i xs hx
                cases zo
                obtain ⟨a, us, e2, f, h, dv⟩ := T'.rel.lst i _ _ hx
                rw [e1] at e2
                cases e2
                exact ⟨a, us, rfl, T'.loc i xs a hx e1, f, h, dv⟩
              · cases zo
    · rw [if_neg hn] at q
      exact q.elim
end
end PD

/-! PDCall: a call of a def of the text. -/
namespace PD
open PySem PySem.Spec PyProof.Rows L2
/-- a prepared argument: data, or the place of a list that is handed on itself -/
inductive Pr where
  | d (x : PyData)
  | s (i : Nat)
def prep1 (m : Bool) (v : Val) (r : PEn) : Option (Pr × PEn) := match m, v with
  | true, .b i => match r[i]? with
    | some (.l _ _) => some (.s i, r)
    | some (.d d) => some (.d d, r)
    | _ => none
  | _, v => match v.fz r with
    | some (d, r1) => some (.d d, r1)
    | none => none
def prep : List Bool → List Val → PEn → Option (List Pr × PEn)
  | [], [], r => some ([], r)
  | m :: ms, v :: vs, r => match prep1 m v r with
    | some (p, r1) => match prep ms vs r1 with
      | some (ps, r2) => some (p :: ps, r2)
      | none => none
    | none => none
  | _, _, _ => none
def argOf (r : PEn) : Pr → Option Arg
  | .d x => some (.d x)
  | .s i => match r[i]? with
    | some (.l _ xs) => some (.l xs)
    | _ => none
def argsOf (r : PEn) : List Pr → Option (List Arg)
  | [] => some []
  | p :: ps => match argOf r p, argsOf r ps with
    | some a, some as => some (a :: as)
    | _, _ => none
def places : List Pr → List Nat
  | [] => []
  | .s i :: ps => i :: places ps
  | .d _ :: ps => places ps
def apart : List Nat → Bool
  | [] => true
  | i :: is => !is.contains i && apart is
def backs : List Pr → List Arg → List (Nat × List PyData)
  | .s i :: ps, .l xs :: as => (i, xs) :: backs ps as
  | _ :: ps, _ :: as => backs ps as
  | _, _ => []
def look : List (Nat × List PyData) → Nat → Option (List PyData)
  | [], _ => none
  | p :: q, i => if p.1 = i then some p.2 else look q i
def upB (q : List (Nat × List PyData)) : Nat → PEn → PEn
  | _, [] => []
  | j, .l p xs :: r => .l p ((look q j).getD xs) :: upB q (j + 1) r
  | j, .u :: r => .u :: upB q (j + 1) r
  | j, .d x :: r => .d x :: upB q (j + 1) r
/-- each list is given back as a list -/
def okB : List Pr → List Arg → Bool
  | [], [] => true
  | .s _ :: ps, .l _ :: as => okB ps as
  | .d _ :: ps, _ :: as => okB ps as
  | _, _ => false
def callD (M : List Arg → FO) (ms : List Bool) (vs : List Val) : PEn → Out Val := fun r => match prep ms vs r with
  | some (ps, r1) => if apart (places ps) = true then match argsOf r1 ps with
      | some as => match M as with
        | .ok z as' => if okB ps as' = true then .ok z.val (upB (backs ps as') 0 r1) else .bad
        | .exc e as' => if okB ps as' = true then .exc e (upB (backs ps as') 0 r1) else .bad
        | .bad => .bad
      | none => .bad
    else .bad
  | none => .bad
def eCall (M : List Arg → FO) (ms : List Bool) (fs : PEn → Out (List Val)) : PEn → Out Val := fun r => (fs r).bind (callD M ms)
theorem upB_at (q : List (Nat × List PyData)) : ∀ (j : Nat) (r : PEn) (i : Nat), (upB q j r)[i]? = (r[i]?).map fun s => match s with
    | .l p xs => .l p ((look q (j + i)).getD xs)
    | s => s
  | j, [], i => by simp [upB]
  | j, s :: r, 0 => by cases s <;> simp [upB]
  | j, s :: r, i + 1 => by
    have ih := upB_at q (j + 1) r i
    have e : j + 1 + i = j + (i + 1) := by omega
    rw [e] at ih
    cases s <;> (simp only [upB, List.getElem?_cons_succ]; exact ih)
theorem upB_len (q : List (Nat × List PyData)) : ∀ (j : Nat) (r : PEn), (upB q j r).length = r.length
  | j, [] => rfl
  | j, s :: r => by cases s <;> simp [upB, upB_len q (j + 1) r]
/-- a prepared argument's value -/
def PrR (K : PySem.W.Frag) (r : PEn) (σ : L2.St) (F : Hp) (x : V) : Pr → Prop
  | .d d => DV K F x d
  | .s i => σ[i]? = some (some x) ∧ ((∃ d : PyData, r[i]? = some (.d d)) ∨ ∃ (p : Bool) (xs : List PyData), r[i]? = some (.l p xs))
section
variable {K : PySem.W.Frag} {mg : Str → Option Value} {W : WX} {r0 r r' : PEn} {σ : L2.St} {F0 H0 F F' H H' : Hp}
theorem prep1_ok {m : Bool} {x : V} {v : Val} {p : Pr} (R : Rel K F r σ H) (S : Stp r0 σ F0 H0 r F H) (h : RZ K r σ H0 F H x v) (e : prep1 m v r = some (p, r')) :
    ∃ F', Same F F' ∧ Rel K F' r' σ H ∧ PrR K r' σ F' x p ∧ Stp r0 σ F0 H0 r' F' H ∧ (∀ {y : V} {w : Val}, RZ K r σ H0 F H y w → RZ K r' σ H0 F' H y w) ∧ ∀ {y : V} {w : Pr}, PrR K r σ F y w → PrR K r' σ F' y w := by
  have fz : ∀ {d : PyData} {r1 : PEn}, v.fz r = some (d, r1) → p = .d d → r' = r1 → ∃ F', Same F F' ∧ Rel K F' r' σ H ∧ PrR K r' σ F' x p ∧ Stp r0 σ F0 H0 r' F' H ∧ (∀ {y : V} {w : Val}, RZ K r σ H0 F H y w → RZ K r' σ H0 F' H y w) ∧ ∀ {y : V} {w : Pr}, PrR K r σ F y w → PrR K r' σ F' y w := fun {d r1} z ep er => by
    subst ep er
    obtain ⟨F1, s1, R1, q1, S1, k1⟩ := fz1 R S h z
    refine ⟨F1, s1, R1, q1, S1, k1, fun {y w} hw => ?_⟩
    cases w with
    | d d => exact DV.mono s1 hw
    | s i =>
      have hw' : RZ K r σ H0 F H y (.b i) := hw
      exact k1 hw'
  cases m with
  | false =>
    simp only [prep1] at e
    cases z : v.fz r with
    | none => rw [z] at e; cases e
    | some y =>
      obtain ⟨d, r1⟩ := y
      rw [z] at e
      simp only [Option.some.injEq, Prod.mk.injEq] at e
      exact fz z e.1.symm e.2.symm
  | true =>
    cases v with
    | v d' =>
      simp only [prep1, Val.fz, Option.some.injEq, Prod.mk.injEq] at e
      exact fz rfl e.1.symm e.2.symm
    | n xs =>
      simp only [prep1, Val.fz, Option.some.injEq, Prod.mk.injEq] at e
      exact fz rfl e.1.symm e.2.symm
    | b i =>
      simp only [prep1] at e
      split at e
      · simp only [Option.some.injEq, Prod.mk.injEq] at e
        obtain ⟨rfl, rfl⟩ := e
        exact ⟨F, Same.refl _, R, h, S, fun h => h, fun h => h⟩
      · rename_i d hd
        simp only [Option.some.injEq, Prod.mk.injEq] at e
        exact fz (show (Val.b i).fz r = some (d, r) by simp only [Val.fz, hd]) e.1.symm e.2.symm
      · cases e
theorem prep_ok : ∀ {ms : List Bool} {xs : List V} {vs : List Val} {ps : List Pr} {r r' : PEn} {F : Hp}, Rel K F r σ H → Stp r0 σ F0 H0 r F H → Paired (RZ K r σ H0 F H) xs vs → prep ms vs r = some (ps, r') →
    ∃ F', Same F F' ∧ Rel K F' r' σ H ∧ Paired (PrR K r' σ F') xs ps ∧ Stp r0 σ F0 H0 r' F' H ∧ ∀ {y : V} {w : Pr}, PrR K r σ F y w → PrR K r' σ F' y w
  | [], _, _, _, r, r', F, R, S, .nil, e => by
    simp only [prep, Option.some.injEq, Prod.mk.injEq] at e
    obtain ⟨rfl, rfl⟩ := e
    exact ⟨F, Same.refl _, R, .nil, S, fun h => h⟩
  | m :: ms, _, _, _, r, r', F, R, S, .nil, e => by cases e
  | [], _, _ :: _, _, r, r', F, R, S, .cons _ _, e => by cases e
  | m :: ms, x :: xs, v :: vs, ps, r, r', F, R, S, .cons h t, e => by
    simp only [prep] at e
    cases z : prep1 m v r with
    | none => rw [z] at e; cases e
    | some y =>
      obtain ⟨p, r1⟩ := y
      rw [z] at e
      simp only at e
      cases z2 : prep ms vs r1 with
      | none => rw [z2] at e; cases e
      | some y2 =>
        obtain ⟨qs, r2⟩ := y2
        rw [z2] at e
        simp only [Option.some.injEq, Prod.mk.injEq] at e
        obtain ⟨rfl, rfl⟩ := e
        obtain ⟨F1, s1, R1, q1, S1, k1, l1⟩ := prep1_ok R S h z
        have t' : ∀ {xs : List V} {vs : List Val}, Paired (RZ K r σ H0 F H) xs vs → Paired (RZ K r1 σ H0 F1 H) xs vs := fun t => by
          induction t with
          | nil => exact .nil
          | cons h _ ih => exact .cons (k1 h) ih
        obtain ⟨F2, s2, R2, q2, S2, l2⟩ := prep_ok R1 S1 (t' t) z2
        exact ⟨F2, s1.trans s2, R2, .cons (l2 q1) q2, S2, fun h => l2 (l1 h)⟩
/-- the arguments, and where they come from -/
theorem args_ok (R : Rel K F r σ H) : ∀ {xs : List V} {ps : List Pr} {as : List Arg}, Paired (PrR K r σ F) xs ps → argsOf r ps = some as → Paired (ArgR K F H) xs as ∧
    ∀ (k : Nat) (a : Addr) (ys : List PyData), xs[k]? = some (.ref a) → as[k]? = some (.l ys) → ∃ i p, ps[k]? = some (.s i) ∧ σ[i]? = some (some (.ref a)) ∧ r[i]? = some (.l p ys)
  | _, _, as, .nil, e => by
    simp only [argsOf, Option.some.injEq] at e
    subst e
    exact ⟨.nil, fun k a ys h => by simp at h⟩
  | x :: xs, p :: ps, as, .cons h t, e => by
    simp only [argsOf] at e
    cases z : argOf r p with
    | none => rw [z] at e; cases e
    | some a =>
      cases z2 : argsOf r ps with
      | none => rw [z, z2] at e; cases e
      | some as' =>
        rw [z, z2] at e
        simp only [Option.some.injEq] at e
        subst e
        obtain ⟨q1, q2⟩ := args_ok R t z2
        have hd : ArgR K F H x a ∧ ∀ (b : Addr) (ys : List PyData), x = .ref b → a = .l ys → ∃ i p', p = .s i ∧ σ[i]? = some (some (.ref b)) ∧ r[i]? = some (.l p' ys) := by
          cases p with
          | d d =>
            simp only [argOf, Option.some.injEq] at z
            subst z
            exact ⟨h, fun b ys _ e => by cases e⟩
          | s i =>
            simp only [argOf] at z
            split at z
            · rename_i p' ys hi
              simp only [Option.some.injEq] at z
              subst z
              obtain ⟨b, us, e2, f, h1, dv⟩ := R.lst i p' ys hi
              obtain ⟨e1, _⟩ := h
              rw [e1] at e2
              cases e2
              exact ⟨⟨b, us, rfl, f, h1, dv⟩, fun c zs e3 e4 => by cases e3; cases e4; exact ⟨i, p', rfl, e1, hi⟩⟩
            · cases z
        refine ⟨.cons hd.1 q1, fun k b ys h1 h2 => ?_⟩
        cases k with
        | zero =>
          simp only [List.getElem?_cons_zero, Option.some.injEq] at h1 h2
          obtain ⟨i, p', e1, e2, e3⟩ := hd.2 b ys h1 h2
          exact ⟨i, p', by rw [e1]; rfl, e2, e3⟩
        | succ k =>
          obtain ⟨i, p', e1, e2, e3⟩ := q2 k b ys (by simpa using h1) (by simpa using h2)
          exact ⟨i, p', by simpa using e1, e2, e3⟩
theorem apart_nodup : ∀ {l : List Nat}, apart l = true → l.Nodup
  | [], _ => List.nodup_nil
  | i :: is, h => by
    simp only [apart, Bool.and_eq_true, Bool.not_eq_true'] at h
    refine List.nodup_cons.mpr ⟨fun hm => ?_, apart_nodup h.2⟩
    have : is.contains i = true := by simpa using hm
    rw [this] at h
    cases h.1
theorem places_at : ∀ {ps : List Pr} {i k : Nat}, ps[k]? = some (.s i) → i ∈ places ps
  | p :: ps, i, 0, h => by
    simp only [List.getElem?_cons_zero, Option.some.injEq] at h
    subst h
    exact List.mem_cons_self
  | p :: ps, i, k + 1, h => by
    have := places_at (ps := ps) (i := i) (k := k) (by simpa using h)
    cases p with
    | d x => exact this
    | s j => exact List.mem_cons_of_mem _ this
/-- the addresses stand apart, as the places do -/
theorem refs_apart (R : Rel K F r σ H) : ∀ {xs : List V} {ps : List Pr} {as : List Arg} {j : Nat}, Paired (PrR K r σ F) xs ps → argsOf r ps = some as → (places ps).Nodup → ((pensOf j xs as).map (·.2)).Nodup ∧
    ∀ q ∈ pensOf j xs as, ∃ i ∈ places ps, ∃ p ys, σ[i]? = some (some (.ref q.2)) ∧ r[i]? = some (.l p ys)
  | _, _, as, j, .nil, e, _ => by
    simp only [argsOf, Option.some.injEq] at e
    subst e
    exact ⟨by simp [pensOf], fun q h => by simp [pensOf] at h⟩
  | x :: xs, p :: ps, as, j, .cons h t, e, nd => by
    simp only [argsOf] at e
    cases z : argOf r p with
    | none => rw [z] at e; cases e
    | some a =>
      cases z2 : argsOf r ps with
      | none => rw [z, z2] at e; cases e
      | some as' =>
        rw [z, z2] at e
        simp only [Option.some.injEq] at e
        subst e
        cases p with
        | d d =>
          simp only [argOf, Option.some.injEq] at z
          subst z
          obtain ⟨q1, q2⟩ := refs_apart R (j := j + 1) t z2 nd
          have e0 : pensOf j (x :: xs) (.d d :: as') = pensOf (j + 1) xs as' := by cases x <;> rfl
          rw [e0]
          exact ⟨q1, q2⟩
        | s i =>
          obtain ⟨q1, q2⟩ := refs_apart R (j := j + 1) t z2 (List.nodup_cons.mp nd).2
          simp only [argOf] at z
          split at z
          · rename_i p' ys hi
            simp only [Option.some.injEq] at z
            subst z
            obtain ⟨b, us, e2, f, h1, dv⟩ := R.lst i p' ys hi
            obtain ⟨e1, _⟩ := h
            rw [e1] at e2
            cases e2
            have e0 : pensOf j (.ref b :: xs) (.l ys :: as') = (j, b) :: pensOf (j + 1) xs as' := rfl
            rw [e0]
            refine ⟨List.nodup_cons.mpr ⟨fun hm => ?_, q1⟩, fun q hq => ?_⟩
            · obtain ⟨q, hq, eq⟩ := List.mem_map.mp hm
              obtain ⟨i', hi', p2, zs, e3, e4⟩ := q2 q hq
              have eq' : q.2 = b := eq
              rw [eq'] at e3
              have : i = i' := R.inj _ _ _ _ _ _ _ hi e4 e1 e3
              exact (List.nodup_cons.mp nd).1 (by rw [this]; exact hi')
            · rcases List.mem_cons.mp hq with e3 | hq
              · rw [e3]; exact ⟨i, List.mem_cons_self, p', ys, e1, hi⟩
              · obtain ⟨i', hi', rest⟩ := q2 q hq
                exact ⟨i', List.mem_cons_of_mem _ hi', rest⟩
          · cases z
theorem look_at : ∀ {ps : List Pr} {as' : List Arg} {i k : Nat} {ys : List PyData}, (places ps).Nodup → ps[k]? = some (.s i) → as'[k]? = some (.l ys) → look (backs ps as') i = some ys
  | p :: ps, a :: as, i, 0, ys, nd, h1, h2 => by
    simp only [List.getElem?_cons_zero, Option.some.injEq] at h1 h2
    subst h1 h2
    simp [backs, look]
  | p :: ps, a :: as, i, k + 1, ys, nd, h1, h2 => by
    have h1' : ps[k]? = some (.s i) := by simpa using h1
    have h2' : as[k]? = some (.l ys) := by simpa using h2
    cases p with
    | d x =>
      have : backs (.d x :: ps) (a :: as) = backs ps as := by cases a <;> rfl
      rw [this]
      exact look_at nd h1' h2'
    | s j =>
      have nd' := List.nodup_cons.mp nd
      have ih := look_at (as' := as) nd'.2 h1' h2'
      have hj : j ≠ i := fun z => nd'.1 (by rw [z]; exact places_at h1')
      cases a with
      | d x => exact ih
      | l zs => simp only [backs, look, if_neg hj]; exact ih
  | [], _, _, _, _, _, h1, _ => by simp at h1
  | _ :: _, [], _, _, _, _, _, h2 => by simp at h2
theorem okB_at : ∀ {ps : List Pr} {as' : List Arg} {i k : Nat}, okB ps as' = true → ps[k]? = some (.s i) → ∃ ys, as'[k]? = some (.l ys)
  | [], _, _, _, _, h => by simp at h
  | .s j :: ps, [], _, _, h, _ => by cases h
  | .d x :: ps, [], _, _, h, _ => by cases h
  | .s j :: ps, .d x :: as, _, _, h, _ => by cases h
  | .s j :: ps, .l ys :: as, i, 0, h, _ => ⟨ys, rfl⟩
  | .s j :: ps, .l ys :: as, i, k + 1, h, e => by
    obtain ⟨zs, e2⟩ := okB_at (ps := ps) (as' := as) h (by simpa using e)
    exact ⟨zs, by simpa using e2⟩
  | .d x :: ps, a :: as, i, 0, h, e => by simp at e
  | .d x :: ps, a :: as, i, k + 1, h, e => by
    have h' : okB ps as = true := by cases a <;> exact h
    obtain ⟨zs, e2⟩ := okB_at (ps := ps) (as' := as) h' (by simpa using e)
    exact ⟨zs, by simpa using e2⟩
theorem look_some : ∀ {ps : List Pr} {as' : List Arg} {i : Nat} {ys : List PyData}, look (backs ps as') i = some ys → ∃ k : Nat, ps[k]? = some (.s i) ∧ as'[k]? = some (.l ys)
  | [], as', i, ys, h => by cases as' <;> simp [backs, look] at h
  | p :: ps, [], i, ys, h => by cases p <;> simp [backs, look] at h
  | p :: ps, a :: as, i, ys, h => by
    have step : look (backs ps as) i = some ys → ∃ k : Nat, (p :: ps)[k]? = some (.s i) ∧ (a :: as)[k]? = some (.l ys) := fun h => by
      obtain ⟨k, h1, h2⟩ := look_some h
      exact ⟨k + 1, by simpa using h1, by simpa using h2⟩
    cases p with
    | d x =>
      have : backs (.d x :: ps) (a :: as) = backs ps as := by cases a <;> rfl
      rw [this] at h
      exact step h
    | s j =>
      cases a with
      | d x => exact step h
      | l zs =>
        simp only [backs, look] at h
        by_cases e : j = i
        · rw [if_pos e] at h
          simp only [Option.some.injEq] at h
          subst h e
          exact ⟨0, rfl, rfl⟩
        · rw [if_neg e] at h
          exact step h
/-- behind a call -/
theorem call_back {xs : List V} {ps : List Pr} {as as' : List Arg} (R : Rel K F r σ H) (pp : Paired (PrR K r σ F) xs ps) (ea : argsOf r ps = some as) (nd : (places ps).Nodup) (ob : okB ps as' = true) (C : CallSt K F H xs as as' F' H') :
    Rel K F' (upB (backs ps as') 0 r) σ H' ∧ Stp r σ F H (upB (backs ps as') 0 r) F' H' := by
  obtain ⟨pa, src⟩ := args_ok R pp ea
  have refs := (refs_apart R (j := 0) pp ea nd).2
  have up : ∀ (i : Nat) (s : Sl), (upB (backs ps as') 0 r)[i]? = some s → ∃ s0, r[i]? = some s0 ∧ s = match s0 with
      | .l p xs => .l p ((look (backs ps as') i).getD xs)
      | s => s := fun i s e => by
    rw [upB_at] at e
    cases z : r[i]? with
    | none => rw [z] at e; cases e
    | some s0 =>
      rw [z] at e
      simp only [Option.map_some, Option.some.injEq, Nat.zero_add] at e
      exact ⟨s0, rfl, e.symm⟩
  have upl : ∀ {i : Nat} {p : Bool} {ys : List PyData}, (upB (backs ps as') 0 r)[i]? = some (.l p ys) → ∃ zs, r[i]? = some (.l p zs) ∧ ys = (look (backs ps as') i).getD zs := fun {i p ys} e => by
    obtain ⟨s0, e1, e2⟩ := up i _ e
    cases s0 with
    | u => cases e2
    | d x => cases e2
    | l q zs => cases e2; exact ⟨zs, e1, rfl⟩
  have down : ∀ {i : Nat} {p : Bool} {zs : List PyData}, r[i]? = some (.l p zs) → (upB (backs ps as') 0 r)[i]? = some (.l p ((look (backs ps as') i).getD zs)) := fun {i p zs} e => by
    rw [upB_at, e]
    simp
  have downd : ∀ {i : Nat} {d : PyData}, r[i]? = some (.d d) → (upB (backs ps as') 0 r)[i]? = some (.d d) := fun {i d} e => by
    rw [upB_at, e]
    rfl
  have hlen := Paired.length pa
  refine ⟨⟨by rw [upB_len]; exact R.len, C.sub, fun i d e => ?_, fun i p ys e => ?_, fun i j p q ys zs a e1 e2 e3 e4 => ?_⟩, C.ff, fun b f n _ => C.fn b f n, fun b o e n => C.kp b o e fun hb => ?_, C.th, upB_len _ _ _, fun i p ys e => ?_, fun i ys e => ⟨_, down e⟩, fun i d e => downd e, fun i ys e => .inl ⟨_, down e⟩⟩
  · obtain ⟨s0, e1, e2⟩ := up i _ e
    cases s0 with
    | u => cases e2
    | l q zs => cases e2
    | d x =>
      cases e2
      obtain ⟨v, e3, q⟩ := R.dat i _ e1
      exact ⟨v, e3, DV.mono C.ff q⟩
  · obtain ⟨zs, e1, e2⟩ := upl e
    obtain ⟨a, us, e3, f, h, dv⟩ := R.lst i p zs e1
    cases z : look (backs ps as') i with
    | some ws =>
      rw [z] at e2
      simp only [Option.getD_some] at e2
      subst e2
      obtain ⟨k, h1, h2⟩ := look_some z
      obtain ⟨y, h3, h4⟩ := paired_at pp h1
      obtain ⟨h5, _⟩ := h4
      rw [e3] at h5
      cases h5
      obtain ⟨v, h6, h7⟩ := paired_at C.args h2
      rw [h3] at h6
      cases h6
      obtain ⟨b, vs, e4, f', h', dv'⟩ := h7
      cases e4
      exact ⟨a, vs, e3, f', h', dv'⟩
    | none =>
      rw [z] at e2
      simp only [Option.getD_none] at e2
      subst e2
      have nb : a ∉ refsOf xs as := fun hm => by
        obtain ⟨q, hq, eq⟩ := List.mem_map.mp hm
        obtain ⟨k, _, h2, ys', h3⟩ := mem_pens.mp (show (q.1, a) ∈ pensOf 0 xs as by rw [← eq]; exact hq)
        obtain ⟨i', p', h4, h5, h6⟩ := src k a ys' h2 h3
        have : i = i' := R.inj _ _ _ _ _ _ _ e1 h6 e3 h5
        subst this
        obtain ⟨ws, h7⟩ := okB_at ob h4
        rw [look_at nd h4 h7] at z
        cases z
      exact ⟨a, us, e3, C.fn a f (by rw [h]; simp), C.kp a _ h nb, DVs.mono C.ff dv⟩
  · obtain ⟨_, w1, _⟩ := upl e1
    obtain ⟨_, w2, _⟩ := upl e2
    exact R.inj i j _ _ _ _ a w1 w2 e3 e4
  · obtain ⟨q, hq, eq⟩ := List.mem_map.mp hb
    obtain ⟨i, _, p, ys, h1, h2⟩ := refs q hq
    have eq' : q.2 = b := eq
    rw [eq'] at h1
    exact n ⟨i, p, ys, h2, h1⟩
  · obtain ⟨zs, e1, _⟩ := upl e
    exact ⟨zs, e1⟩
/-- the call's reading -/
theorem call_fin {k : Nat} {xs : List V} {vs : List Val} {M : List Arg → FO} {ms : List Bool} {Q : VK} (R : Rel K F r σ H) (S : Stp r0 σ F0 H0 r F H) (rx : Paired (RV K r σ H0 F H) xs vs)
    (q : Post K mg W r0 σ F0 H0 (callD M ms vs r) fun v r' F' H' => ∀ x, RV K r' σ H0 F' H' x v → Q x H') : spD K mg M xs H Q (WE W σ) := by
  unfold callD at q
  cases z : prep ms vs r with
  | none => rw [z] at q; exact q.elim
  | some y =>
    obtain ⟨ps, r1⟩ := y
    rw [z] at q
    simp only at q
    split at q
    · rename_i hap
      obtain ⟨F1, s1, R1, pp, S1, _⟩ := prep_ok R S (RVs.rz rx) z
      have nd := apart_nodup hap
      cases z2 : argsOf r1 ps with
      | none => rw [z2] at q; exact q.elim
      | some as =>
        rw [z2] at q
        simp only at q
        refine ⟨F1, as, R1.sub, (args_ok R1 pp z2).1, (refs_apart R1 (j := 0) pp z2 nd).1, ?_⟩
        cases z3 : M as with
        | bad => rw [z3] at q; exact q.elim
        | ok zr as' =>
          rw [z3] at q
          simp only at q
          split at q
          · rename_i ob
            intro x F2 H2 C rr
            obtain ⟨R2, S2⟩ := call_back R1 pp z2 nd ob C
            refine q F2 H2 R2 (S1.trans S2) x ?_
            cases zr with
            | v d => exact rr
            | n ys =>
              obtain ⟨a, us, e, h0, f, h, dv⟩ := rr
              refine ⟨a, us, e, ?_, f, fun o => ?_, h, dv⟩
              · cases w : H0 a with
                | none => rfl
                | some o => exact absurd h0 (S1.th a (by rw [w]; simp))
              · obtain ⟨ws, e1⟩ := R1.owH (o.back S2)
                rw [h0] at e1
                cases e1
          · exact q.elim
        | exc e as' =>
          rw [z3] at q
          simp only at q
          split at q
          · rename_i ob
            intro c d F2 H2 C xv
            obtain ⟨R2, S2⟩ := call_back R1 pp z2 nd ob C
            exact q c d F2 H2 R2 (S1.trans S2) xv
          · exact q.elim
    · exact q.elim
end
section
variable {X : Cx} {W : WX} {e : Expr} {es : List Expr} {x : Str} {f : Addr} {fd : FuncData} {ps : List Str} {k : Nat} {p pos : Pos} {M : List Arg → FO} {ms : List Bool} {fs : PEn → Out (List Val)}
theorem j_call (F : FnG X.prog X.w X.K X.mg X.base (L2.CX X.prog X.w) k f fd ps (spD X.K X.mg M)) (hr : Rm k X.A) (hg : Gl X x) (hm : X.mg x = some (.ref f)) (hk : PySem.W.keepIn X.K (.ref f) = true) (hb : Binds X.K fd ps []) (hx : ∀ σ, PassesAt (L2.CX X.prog X.w) X σ (WE W σ))
    (ha : JA X W (e :: es) fs) (hdb : (x == ("__debug__" : Str)) = false := by decide) (he : starEach (e :: es) X.env = (false, eval e X.env) :: starEach es X.env := by rfl) (hpl : (backTo pos (starEach es X.env)).any (·.1) = false := by rfl) :
    JE X W (.Call (.Name x p) (e :: es) [] pos) (eCall M ms fs) := by
  refine pe_mono (pe_callG F hr hg hm hk hb hx ha hdb he hpl) fun σ H Q h => ?_
  obtain ⟨F0, r, R, q⟩ := h
  exact ⟨F0, r, R, q.bind0.imp fun vs r1 F1 H1 R1 S1 q1 xs rx _ => call_fin (k := k) R1 S1 rx q1⟩
/-- where nothing may be let out -/
theorem passes0 {X : Cx} (σ : L2.St) : PassesAt (L2.CX X.prog X.w) X σ (WE W0 σ) := fun _ _ _ _ _ _ h => by
  obtain ⟨_, _, _, _, _, _, _, _, _, _, _, _, h⟩ := h
  exact h.elim
end
end PD

/-! PDIter: enumerate and zip (also strict) over lists and tuples. -/
namespace PD
open PySem PySem.Spec PyProof.Rows L2
/-- an iterator of a list (false) or a tuple (true) -/
def itSt (k : Bool) (it q : Addr) (i : Nat) (h : Heap) : Prop := match k with
  | false => h.IsListIter it q i
  | true => h.IsTupleIter it q i
def srcSt (k : Bool) (q : Addr) (its : Array Value) (h : Heap) : Prop := match k with
  | false => h.IsList q its
  | true => h.IsTuple q its
def itOb (k : Bool) (q : Addr) : Obj := match k with
  | false => { cls := .type "list_iterator", data := .fields #[.ref q, .int 0 0] }
  | true => { cls := .type "tuple_iterator", data := .fields #[.ref q, .int 0 0] }
def seqK (k : Bool) (K : PySem.W.Frag) (F : Hp) (q : Addr) (vs : List V) : Prop := match k with
  | false => SqL K F q vs
  | true => SqT K F q vs
theorem seqK_mono {k : Bool} {K : PySem.W.Frag} {F H : Hp} {q : Addr} {vs : List V} (s : Same F H) (h : seqK k K F q vs) : seqK k K H q vs := by
  cases k with
  | false => exact Same.seq (K := K) s h
  | true => exact seqT_mono s h
theorem drawsK {prog : Program} {w : World} {A : Around} (k : Bool) (hh : A.handled = none) (it q : Addr) (hne : q ≠ it) (its : Array Value) :
    Draws prog w A it [it, q] its.size (fun i v => its[i]? = some v) (fun i h => itSt k it q i h ∧ srcSt k q its h) := by
  cases k with
  | false => exact Draws.list hh it q hne its
  | true => exact Draws.tuple hh it q hne its
theorem beginsK (k : Bool) (q : Addr) (its : Array Value) : Begins (.ref q) (itOb k q) (srcSt k q its) := by
  cases k with
  | false => exact begins_list q its
  | true => exact begins_tuple q its
theorem itSt_at {k : Bool} {it q : Addr} {i : Nat} {h h' : Heap} (x : itSt k it q i h) (e : ∀ o, h.get? it = some o → h'.get? it = some o) : itSt k it q i h' := by
  cases k with
  | false => exact Heap.IsListIter.at (h := h) x fun o q => e o q
  | true => exact Heap.IsTupleIter.at (h := h) x fun o q => e o q
theorem itSt_new {k : Bool} {it q : Addr} {h : Heap} (e : h.get? it = some (itOb k q)) : itSt k it q 0 h := by
  cases k with
  | false => exact ⟨_, e, rfl, rfl⟩
  | true => exact ⟨_, e, rfl, rfl⟩
theorem itSt_obj {k : Bool} {it q : Addr} {i : Nat} {h : Heap} (x : itSt k it q i h) : ∃ o, h.get? it = some o ∧ ∀ v, o.data ≠ .cell v := by
  cases k with
  | false => obtain ⟨o, ho, hc, hd⟩ := x; exact ⟨o, ho, fun v z => by rw [hd] at z; cases z⟩
  | true => obtain ⟨o, ho, hc, hd⟩ := x; exact ⟨o, ho, fun v z => by rw [hd] at z; cases z⟩
theorem seqK_its {X : Cx} {pins : List (Addr × Obj)} {σ : L2.St} {H : Hp} {s : Shared} {k : Bool} {q : Addr} {vs : List V} (I : Inv X pins σ H s) (h : seqK k X.K H q vs) : ∃ its : List Value, Vals vs its ∧ srcSt k q its.toArray s.heap ∧ q < s.heap.objs.size := by
  cases k with
  | false => obtain ⟨its, rv, p, _⟩ := I.list h; exact ⟨its, rv, p.isList, p.lt⟩
  | true => obtain ⟨its, rv, p, _⟩ := I.tuple h; exact ⟨its, rv, p, p.lt⟩
/-- what stands for data: a sequence of one kind -/
theorem DV.seqK {K : PySem.W.Frag} {F : Hp} {x : V} {es : List PyData} (h : (∃ q vs, x = .ref q ∧ SqL K F q vs ∧ DVs K F vs es) ∨ ∃ q vs, x = .ref q ∧ SqT K F q vs ∧ DVs K F vs es) : ∃ k q vs, x = .ref q ∧ PD.seqK k K F q vs ∧ DVs K F vs es := by
  rcases h with ⟨q, vs, e, h, d⟩ | ⟨q, vs, e, h, d⟩
  · exact ⟨false, q, vs, e, h, d⟩
  · exact ⟨true, q, vs, e, h, d⟩
/-- pairs, the first parts f i, the second ones of vs -/
def JP (F : Hp) (n : Nat) (f g : Nat → Option V) : It :=
  ⟨fun i H => Same F H ∧ i < n, fun i H v H' => ∃ T x y, v = .ref T ∧ H T = none ∧ H' = upd H T (.tup [x, y]) ∧ f i = some x ∧ g i = some y, fun i H => Same F H ∧ i = n⟩
theorem walk_JP {K : PySem.W.Frag} {F : Hp} {n : Nat} {f g : Nat → Option V} {items : List PyData} (hl : items.length = n) (hd : ∀ i x y, i < n → f i = some x → g i = some y → ∃ a b, items[i]? = some (.tuple [a, b]) ∧ DV K F x a ∧ DV K F y b) : WalkD K (JP F n f g) F items := by
  unfold WalkD
  rw [hl]
  refine ⟨fun i H hi h => ⟨h, hi⟩, fun H h => ⟨h, rfl⟩, fun i H v H' hi h y => ?_⟩
  obtain ⟨T, x, y, e1, e2, e3, e4, e5⟩ := y
  obtain ⟨a, b, e6, dx, dy⟩ := hd i x y hi e4 e5
  exact ⟨_, e6, .inr ⟨T, [x, y], [a, b], e1, rfl, e2, e3, .cons dx (.cons dy .nil)⟩⟩
section
variable {X : Cx} {W : WX} {a b c e e2 tg iter elt : Expr} {elts : List Expr} {pos pos' p p2 tpos : Pos} {kk : Nat}
/-! ### enumerate -/
theorem turn_enumK {P : Program} {w : World} {K : PySem.W.Frag} {F : Hp} {k : Bool} {q : Addr} {vs : List V} (hq : seqK k K F q vs) (en it : Addr) (hne : en ≠ it) (hqi : q ≠ it) (hqe : q ≠ en) :
    Turn P w K (.Tuple elts kk tpos) (JP F vs.length (fun i => some (.int (i : Nat))) (fun i => vs[i]?)) [en, it] en (fun i h => (∃ old, IsEnum h en it ((0 : Int) + ((i : Nat) : Int)) old) ∧ itSt k it q i h) where
  mem := List.mem_cons_self
  obj := fun i h st x hx => by
    obtain ⟨⟨old, he⟩, hi⟩ := st
    rcases List.mem_cons.mp hx with z | z
    · subst z; exact ⟨_, he, fun v y => nomatch y⟩
    · rw [List.mem_singleton.mp z]; exact itSt_obj hi
  keep := fun i h h' st kp => ⟨⟨st.1.choose, kp en List.mem_cons_self _ st.1.choose_spec⟩, itSt_at st.2 fun o e => kp it (by simp) o e⟩
  item := by
    intro X hP hw hK hc i pins s σ H E I hf st hg
    subst hP hw hK
    obtain ⟨sub, hi⟩ := hg
    obtain ⟨its, rv, hsrc, _⟩ := seqK_its I (seqK_mono sub hq)
    have hlen := rv.length
    have G := GoesN.enumFrom (elts := elts) (x1 := kk) (pos := tpos) 0 (drawsK (prog := X.prog) (w := X.w) (A := X.A.in1) k (I.ok.hd hc) it q hqi its.toArray) en hne (by simp [hne, Ne.symm hqe]) (by simp)
    refine G.goes i s _ E (by simp; omega) ⟨st.1, st.2, hsrc⟩ fun v h' tk hY st' hkp htk => ?_
    obtain ⟨T, t, u, ev, hT, hu, hTup⟩ := hY
    obtain ⟨x, hx⟩ : ∃ x, vs[i]? = some x := ⟨vs[i], by simp [hi]⟩
    obtain ⟨u', hu', ru⟩ := rv.get hx
    have e1 : its[i]? = some u := by simpa using hu
    rw [e1] at hu'
    cases hu'
    obtain ⟨oT, hoT, hcT, nT, hdT⟩ := hTup
    have new : ObjOk X.prog X.w (upd H T (.tup [.int (i : Nat), x])) h' T (.tup [.int (i : Nat), x]) :=
      ⟨by show 2 ≤ sizeLine; decide, [.int ((0 : Int) + (i : Nat)) t, u], .cons ⟨t, by simp⟩ (.cons ru .nil), ⟨oT, hoT, hcT, nT, hdT⟩⟩
    refine ⟨.ref T, _, I.turnedNew (ch := [en, it]) (fun c o hc e => hkp c o hc e) hf hT new, ev ▸ rfl, ⟨T, _, x, rfl, I.hok.fresh hT, rfl, rfl, hx⟩, ⟨st'.1, st'.2.1⟩, fun c hcm => ?_⟩
    obtain ⟨o, ho, _⟩ : ∃ o, s.heap.get? c = some o ∧ ∀ v, o.data ≠ .cell v := by
      rcases List.mem_cons.mp hcm with z | z
      · obtain ⟨old, he⟩ := st.1
        subst z; exact ⟨_, he, fun v y => nomatch y⟩
      · rw [List.mem_singleton.mp z]; exact itSt_obj st.2
    rw [upd_ne (Nat.ne_of_lt (Nat.lt_of_lt_of_le (Heap.lt_size ho) hT))]
    exact (hf c hcm).1
  done := by
    intro X hP hw hK hc i pins s σ H E I hf st hg
    subst hP hw hK
    obtain ⟨sub, hi⟩ := hg
    obtain ⟨its, rv, hsrc, _⟩ := seqK_its I (seqK_mono sub hq)
    have hlen := rv.length
    have G := GoesN.enumFrom (elts := elts) (x1 := kk) (pos := tpos) 0 (drawsK (prog := X.prog) (w := X.w) (A := X.A.in1) k (I.ok.hd hc) it q hqi its.toArray) en hne (by simp [hne, Ne.symm hqe]) (by simp)
    have en' : i = its.toArray.size := by simp; omega
    rw [en'] at st
    exact G.stops s _ E ⟨st.1, st.2, hsrc⟩ fun h' tk hk _ => I.turnedL (ch := [en, it]) (fun c o hb q => hk c o hb q) hf
  self := fun A i s Q E st h => let ⟨⟨_, he⟩, _⟩ := st; wpAny_pyIter_enum he h
def enumD (xs : List PyData) : List PyData := xs.mapIdx fun i x => PyData.tuple [.int (i : Nat), x]
def iEnumD (f : PEn → Out Val) : PEn → Out (List PyData) := fun r => (f r).bind fun v r1 => (srcOf v r1).bind fun xs r2 => .ok (enumD xs) r2
set_option maxHeartbeats 1000000 in
theorem meets_enum1 {v : Value} {o : Obj} {Hs : Heap → Prop} (B : Begins v o Hs) :
    Meets (Builtin.«enumerate.__new__» ⟨[.type "enumerate", v], []⟩) (fun _ R s => Hs s.heap ∧
      R (.ok (.ret (.ref (s.heap.push o).objs.size))) { s with heap := (s.heap.push o).push { cls := .type "enumerate", data := .fields #[.none, .bool false, .ref s.heap.objs.size, rawInt 0, .none, .none] } }) :=
  .of_wp fun prog w A R s hh => by
    obtain ⟨hp, g, d, tk, os⟩ := s
    obtain ⟨hb, hh⟩ := hh
    have hsub := sub_enumerate
    have it1 : ∀ {A' : Around} {E : Value → Shared → Prop} {Q : Value → Shared → Prop}, Q (.ref hp.objs.size) ⟨hp.push o, g, d, tk, os⟩ → wpAny (model prog w) A' (pyIter v) Q E ⟨hp, g, d, tk, os⟩ :=
      fun z => B.iter prog w _ _ ⟨hp, g, d, tk, os⟩ _ hb z
    wp_walk using it1
    refine wpAny_stack_any fun st => wpAny_pure ?_
    split
    · rename_i cc _ _ _ _ _
      cases (cc == Value.type "enumerate")
      · wp_walk using it1
        exact ⟨_, rfl, hh⟩
      · wp_walk using it1
        exact ⟨_, rfl, hh⟩
    · wp_walk using it1
      exact ⟨_, rfl, hh⟩
theorem enum_begins1 {prog : Program} {w : World} {A : Around} {E : Value → Shared → Prop} {s : Shared} {v : Value} {o : Obj} {Hs : Heap → Prop} {Q : Value → Shared → Prop} (B : Begins v o Hs) (h1 : Hs s.heap)
    (h : ∀ h', IsEnum h' (s.heap.objs.size + 1) s.heap.objs.size 0 .none → h'.get? s.heap.objs.size = some o → (∀ b o, s.heap.get? b = some o → h'.get? b = some o) → Q (.ref (s.heap.objs.size + 1)) { s with heap := h' }) :
    wpAny (model prog w) A (call (.type "enumerate") [v]) Q E s := by
  refine callType_new F.called_enumerate (by decide) (F.typeCall_enumerate_1 _) (F.newCall_enumerate_1 _) (fun obj => F.args_object_init_2 obj _) F.entry_enumerate_new (meets_enum1 B) ⟨h1, ?_⟩
  have z1 : (s.heap.push o).objs.size = s.heap.objs.size + 1 := Heap.size_push ..
  show _ ∧ _
  rw [z1]
  have he := Heap.get?_push_size (s.heap.push o) (o := { cls := .type "enumerate", data := .fields #[.none, .bool false, .ref s.heap.objs.size, rawInt 0, .none, .none] }) rfl
  rw [z1] at he
  exact ⟨⟨_, he, rfl⟩, h _ he (Heap.get?_push_of_some _ (Heap.get?_push_size _ B.free)) fun b o x => Heap.get?_push_of_some _ (Heap.get?_push_of_some _ x)⟩
/-- the source of a call's one argument -/
theorem i_enum {f : PEn → Out Val} (hg : Gl X "enumerate") (hm : X.mg "enumerate" = none) (he : JE X W e f) (hs : starEach [e] X.env = [(false, eval e X.env)] := by rfl) :
    JI X W (.Tuple elts kk tpos) (.Call (.Name "enumerate" p) [e] [] pos) (iEnumD f) := by
  refine ⟨fun pins s σ H R I h => ?_⟩
  have ha := pa_cons he pa_nil hs
  obtain ⟨F0, r, R0, q⟩ := h
  refine Call_ (ld_blt I hg hm boot_enumerate (PyProof.Rows.callWith_type1 (thn (ha.run pos pins s σ H (fun xs H1 => ∃ x es F', xs = [x] ∧ Same F' H1 ∧ ((∃ q vs, x = V.ref q ∧ SqL X.K F' q vs ∧ DVs X.K F' vs es) ∨ ∃ q vs, x = V.ref q ∧ SqT X.K F' q vs ∧ DVs X.K F' vs es) ∧ ∀ J, WalkD X.K J F' (enumD es) → R J H1) I ⟨F0, r, R0, ?_⟩) fun us s1 ⟨vs, H1, I1, r1, q1⟩ => ?_) hs rfl))
  · refine q.bind0.imp fun v r1 F1 H1 R1 S1 q1 x rx => ?_
    obtain ⟨es, F', r', R', S', hx, k⟩ := src_fin R1 S1 rx (Post.bind0 q1)
    exact ⟨x, es, F', rfl, R'.sub, hx, k F' H1 R' S'⟩
  · obtain ⟨x, es, F', ex, sub, hx, k⟩ := q1
    subst ex
    obtain ⟨u, rfl, ru⟩ := Vals.one r1
    obtain ⟨kd, qa, vs, ex2, hq, dv⟩ := DV.seqK hx
    rw [ex2] at ru
    obtain rfl : u = Value.ref qa := ru
    obtain ⟨its, rv, hsrc, hlt⟩ := seqK_its I1 (seqK_mono sub hq)
    refine enum_begins1 (beginsK kd qa its.toArray) hsrc fun h' hen hit hk => wpAny_pyIter_enum hen ?_
    have I2 : Inv X pins σ H1 { s1 with heap := h' } := I1.kept (t' := s1.toks) hk
    refine ⟨s1.heap.objs.size + 1, [s1.heap.objs.size + 1, s1.heap.objs.size], _, _, H1, rfl, I2, turn_enumK hq (s1.heap.objs.size + 1) s1.heap.objs.size (Nat.succ_ne_self _) (Nat.ne_of_lt hlt) (Nat.ne_of_lt (Nat.lt_succ_of_lt hlt)), ⟨⟨.none, hen⟩, itSt_new hit⟩, fun b hb => ?_, k _ ?_⟩
    · have hle : s1.heap.objs.size ≤ b := by
        rcases List.mem_cons.mp hb with z | z
        · rw [z]; exact Nat.le_succ _
        · rw [List.mem_singleton.mp z]; exact Nat.le_refl _
      exact I1.fpOk hle (I1.hok.fresh hle)
    · refine walk_JP (by unfold enumD; rw [List.length_mapIdx, dv.len]) fun i x y hi h1 h2 => ?_
      obtain ⟨d, e3, q3⟩ := dv.at' h2
      cases h1
      exact ⟨.int (i : Nat), d, by unfold enumD; rw [List.getElem?_mapIdx, e3]; rfl, .int _, q3⟩
end
end PD

/-! PDZip: zip(.., strict=True) at the model's level. -/
namespace PD
open PySem PySem.Spec PyProof.Rows L2
/-- a zip that is strict -/
abbrev IsZipX (h : Heap) (z TI TO : Addr) (f0 : Value) : Prop := h.get? z = some { cls := .type "zip", data := .fields #[f0, .bool false, .bool true, .ref TI, .ref TO] }
section
variable {prog : Program} {w : World} {A : Around} {E : Value → Shared → Prop} {s : Shared}
theorem ends_item {it : Addr} {fp : List Addr} {n i : Nat} {P : Nat → Value → Prop} {St : Nat → Heap → Prop} {Q : Option Value → Shared → Prop} (D : Draws prog w A it fp n P St) (hi : i < n) (st : St i s.heap)
    (hQ : ∀ x h' tk, P i x → St (i + 1) h' → Heap.SameBut it s.heap h' → Q (some x) { s with heap := h', toks := tk }) : wpAny (model prog w) A (Builtin.SmallTypes.nextOrEnd (.ref it)) Q E s := by
  unfold Builtin.SmallTypes.nextOrEnd
  exact wpAny_bind (wpAny_attempt (D.item i s _ _ hi st fun x h' tk hp hs hb => wpAny_pure (hQ x h' tk hp hs hb)))
theorem ends_done {it : Addr} {fp : List Addr} {n : Nat} {P : Nat → Value → Prop} {St : Nat → Heap → Prop} {Q : Option Value → Shared → Prop} (D : Draws prog w A it fp n P St) (st : St n s.heap)
    (hQ : ∀ h', Heap.ExtBut it s.heap h' → Q none { s with heap := h' }) : wpAny (model prog w) A (Builtin.SmallTypes.nextOrEnd (.ref it)) Q E s := by
  unfold Builtin.SmallTypes.nextOrEnd
  refine wpAny_bind (wpAny_attempt (D.done s _ _ st fun h' e hx he => ?_))
  obtain ⟨o, ho, hc⟩ := he
  refine wpAny_bind (wpAny_isInstance (T := "StopIteration") (b := true) ⟨o, ho, hc⟩ isSubtype_stop ?_)
  exact wpAny_pure (hQ h' hx)
end
section
variable {prog : Program} {w : World} {A : Around} {E : Value → Shared → Prop} {s : Shared} {z TI TO i1 i2 : Addr} {fp1 fp2 : List Addr} {n i : Nat} {P1 P2 : Nat → Value → Prop} {St1 St2 : Nat → Heap → Prop} {a1 a2 : Value}
theorem zipX_item {Q : Value → Shared → Prop} (S : ZipSep2 z TI TO i1 i2 fp1 fp2) (D1 : Draws prog w A i1 fp1 n P1 St1) (D2 : Draws prog w A i2 fp2 n P2 St2)
    (hz : IsZipX s.heap z TI TO .none) (hTI : IsTupOf2 s.heap TI (.ref i1) (.ref i2)) (hTO : IsTupOf2 s.heap TO a1 a2) (st1 : St1 i s.heap) (st2 : St2 i s.heap) (hlt : i < n)
    (hQ : ∀ x1 x2 h' tk, P1 i x1 → P2 i x2 → IsZipX h' z TI TO (rawInt s.heap.objs.size) → IsTupOf2 h' TO x1 x2 → St1 (i + 1) h' → St2 (i + 1) h' → IsTupOf2 h' s.heap.objs.size x1 x2 →
      (∀ c o, c ≠ z → c ≠ TO → c ≠ i1 → c ≠ i2 → s.heap.get? c = some o → h'.get? c = some o) → Q (.ref s.heap.objs.size) { s with heap := h', toks := tk }) :
    wpAny (model prog w) A (Builtin.«zip.__next__» ⟨[.ref z], []⟩) (fun fin s' => ∃ v, fin = .done (.ret v) ∧ Q v s') E s := by
  obtain ⟨hp, g, d, tk0, os⟩ := s
  show wpAny _ _ (field (.ref z) 2 >>= _) _ _ _
  refine wpAny_bind (wpAny_field hz rfl (x := .bool true) rfl ?_)
  show wpAny _ _ (field (.ref z) 3 >>= _) _ _ _
  refine wpAny_bind (wpAny_field hz rfl (x := .ref TI) rfl (wpAny_bind (wpAny_seqItems hTI rfl ?_)))
  show wpAny _ _ (Builtin.SmallTypes.ownedTupleIsFree (.ref z) >>= _) _ _ _
  refine wpAny_bind ?_
  unfold Builtin.SmallTypes.ownedTupleIsFree
  refine wpAny_bind (wpAny_field hz rfl (x := .none) rfl (wpAny_pure ?_))
  simp only [if_true]
  refine wpAny_bind (wpAny_rule (wpAny_bind (wpAny_field hz rfl (x := .ref TO) rfl ?_)))
  refine wpAny_bind (wpAny_setField_rec hz (by simp) fun g0 hz0 hs0 => ?_)
  replace hz0 : IsZipX g0 z TI TO .ellipsis := hz0
  replace hs0 : Heap.SameBut z hp g0 := hs0
  refine wpAny_bind ?_
  simp only [List.zipIdx_cons, List.zipIdx_nil, List.forIn_cons, List.forIn_nil]
  refine wpAny_bind (wpAny_bind (wpAny_onRaise ?_))
  show wpAny _ _ (Builtin.SmallTypes.nextOrEnd (.ref i1)) _ _ ⟨g0, g, d, tk0, os⟩
  refine ends_item D1 hlt (D1.over st1 hs0 S.zf1) fun x1 p1 tk1 hx1 sn1 hp1 => ?_
  replace hp1 : Heap.SameBut i1 g0 p1 := hp1
  have hU1 : IsTupOf2 p1 TO a1 a2 := hp1.extBut _ _ S.Ti1 (hs0.extBut _ _ S.TOz hTO)
  refine wpAny_bind (wpAny_seqItems (s := ⟨p1, g, d, tk1, os⟩) hU1 rfl (wpAny_bind (updateSeq_IsTupOf2 (s := ⟨p1, g, d, tk1, os⟩) hU1 fun g1 hT1 hs1 => ?_)))
  replace hT1 : IsTupOf2 g1 TO x1 a2 := hT1
  replace hs1 : Heap.SameBut TO p1 g1 := hs1
  refine wpAny_bind (wpAny_letGo (wpAny_pure (wpAny_bind (wpAny_bind (wpAny_onRaise ?_)))))
  show wpAny _ _ (Builtin.SmallTypes.nextOrEnd (.ref i2)) _ _ ⟨g1, g, d, tk1, os⟩
  refine ends_item D2 hlt (D2.over (D2.over (D2.over st2 hs0 S.zf2) hp1 S.sep1_2) hs1 S.Tf2) fun x2 p2 tk2 hx2 sn2 hp2 => ?_
  replace hp2 : Heap.SameBut i2 g1 p2 := hp2
  have hU2 : IsTupOf2 p2 TO x1 a2 := hp2.extBut _ _ S.Ti2 hT1
  refine wpAny_bind (wpAny_seqItems (s := ⟨p2, g, d, tk2, os⟩) hU2 rfl (wpAny_bind (updateSeq_IsTupOf2 (s := ⟨p2, g, d, tk2, os⟩) hU2 fun g2 hT2 hs2 => ?_)))
  replace hT2 : IsTupOf2 g2 TO x1 x2 := hT2
  replace hs2 : Heap.SameBut TO p2 g2 := hs2
  refine wpAny_bind (wpAny_letGo (wpAny_pure (wpAny_pure (wpAny_bind (wpAny_seqItems (s := ⟨g2, g, d, tk2, os⟩) hT2 rfl (wpAny_bind (wpAny_newTuple ?_)))))))
  have hsz : g2.objs.size = hp.objs.size := by rw [hs2.1, hp2.1, hs1.1, hp1.1, hs0.1]
  have hzz : IsZipX g2 z TI TO .ellipsis := (hs2.extBut _ _ S.TOz.symm (hp2.extBut _ _ S.zi2 (hs1.extBut _ _ S.TOz.symm (hp1.extBut _ _ S.zi1 hz0))))
  have hkk : ∀ c o, c ≠ z → c ≠ TO → c ≠ i1 → c ≠ i2 → hp.get? c = some o → g2.get? c = some o := fun c o cz cT c1 c2 e => hs2.extBut _ _ cT (hp2.extBut _ _ c2 (hs1.extBut _ _ cT (hp1.extBut _ _ c1 (hs0.extBut _ _ cz e))))
  have hj1 : St1 (i + 1) g2 := D1.over (D1.over (D1.over sn1 hs1 S.Tf1) hp2 S.sep2_1) hs2 S.Tf1
  have hj2 : St2 (i + 1) g2 := D2.over sn2 hs2 S.Tf2
  have hzlt : z < g2.objs.size := Heap.lt_size hzz
  show wpAny _ _ (Builtin.SmallTypes.ownedTupleHandOut (.ref z) (.ref g2.objs.size) >>= _) _ _ ⟨g2.push { cls := .type "tuple", data := .seq #[x1, x2] }, g, d, tk2, os⟩
  refine wpAny_bind ?_
  unfold Builtin.SmallTypes.ownedTupleHandOut
  have hz6 : IsZipX (g2.push { cls := .type "tuple", data := .seq #[x1, x2] }) z TI TO .ellipsis := Heap.get?_push_of_some _ hzz
  refine wpAny_bind (wpAny_setField_rec hz6 (by simp) fun h7 hz7 hs7 => ?_)
  replace hz7 : IsZipX h7 z TI TO (rawInt g2.objs.size) := hz7
  refine wpAny_setField_rec hz7 (by simp) fun h8 hz8 hs8 => ?_
  replace hz8 : IsZipX h8 z TI TO (rawInt g2.objs.size) := hz8
  replace hs7 : Heap.SameBut z (g2.push { cls := .type "tuple", data := .seq #[x1, x2] }) h7 := hs7
  replace hs8 : Heap.SameBut z h7 h8 := hs8
  have up : ∀ c o, c ≠ z → g2.get? c = some o → h8.get? c = some o := fun c o c1 e => hs8.extBut _ _ c1 (hs7.extBut _ _ c1 (Heap.get?_push_of_some _ e))
  have hT8 : IsTupOf2 h8 g2.objs.size x1 x2 := hs8.extBut _ _ (Nat.ne_of_gt hzlt) (hs7.extBut _ _ (Nat.ne_of_gt hzlt) (Heap.get?_push_size _ rfl))
  rw [hsz] at hz8 hT8
  refine wpAny_pure ⟨_, rfl, ?_⟩
  show Q (.ref g2.objs.size) ⟨h8, g, d, tk2, os⟩
  rw [hsz]
  exact hQ x1 x2 h8 tk2 hx1 hx2 hz8 (up _ _ S.TOz hT2) (D1.frame _ _ _ hj1 fun b hb o e => up b o (fun q => S.zf1 (q ▸ hb)) e) (D2.frame _ _ _ hj2 fun b hb o e => up b o (fun q => S.zf2 (q ▸ hb)) e) hT8 fun c o cz cT c1 c2 e => up c o cz (hkk c o cz cT c1 c2 e)
theorem zipX_end {Q : Fin → Shared → Prop} (hh : A.handled = none) (S : ZipSep2 z TI TO i1 i2 fp1 fp2) (D1 : Draws prog w A i1 fp1 n P1 St1) (D2 : Draws prog w A i2 fp2 n P2 St2)
    (hz : IsZipX s.heap z TI TO .none) (hTI : IsTupOf2 s.heap TI (.ref i1) (.ref i2)) (hTO : IsTupOf2 s.heap TO a1 a2) (st1 : St1 n s.heap) (st2 : St2 n s.heap)
    (hE : ∀ h' tk e, (∀ c o, c ≠ z → c ≠ TO → c ≠ i1 → c ≠ i2 → s.heap.get? c = some o → h'.get? c = some o) → (∃ o, h'.get? e = some o ∧ o.cls = .type "StopIteration") → E (.ref e) { s with heap := h', toks := tk }) :
    wpAny (model prog w) A (Builtin.«zip.__next__» ⟨[.ref z], []⟩) Q E s := by
  obtain ⟨hp, g, d, tk0, os⟩ := s
  show wpAny _ _ (field (.ref z) 2 >>= _) _ _ _
  refine wpAny_bind (wpAny_field hz rfl (x := .bool true) rfl ?_)
  show wpAny _ _ (field (.ref z) 3 >>= _) _ _ _
  refine wpAny_bind (wpAny_field hz rfl (x := .ref TI) rfl (wpAny_bind (wpAny_seqItems hTI rfl ?_)))
  show wpAny _ _ (Builtin.SmallTypes.ownedTupleIsFree (.ref z) >>= _) _ _ _
  refine wpAny_bind ?_
  unfold Builtin.SmallTypes.ownedTupleIsFree
  refine wpAny_bind (wpAny_field hz rfl (x := .none) rfl (wpAny_pure ?_))
  simp only [if_true]
  refine wpAny_bind (wpAny_rule (wpAny_bind (wpAny_field hz rfl (x := .ref TO) rfl ?_)))
  refine wpAny_bind (wpAny_setField_rec hz (by simp) fun g0 hz0 hs0 => ?_)
  replace hz0 : IsZipX g0 z TI TO .ellipsis := hz0
  replace hs0 : Heap.SameBut z hp g0 := hs0
  refine wpAny_bind ?_
  simp only [List.zipIdx_cons, List.zipIdx_nil, List.forIn_cons, List.forIn_nil]
  refine wpAny_bind (wpAny_bind (wpAny_onRaise ?_))
  show wpAny _ _ (Builtin.SmallTypes.nextOrEnd (.ref i1)) _ _ ⟨g0, g, d, tk0, os⟩
  refine ends_done D1 (D1.over st1 hs0 S.zf1) fun p1 hp1 => ?_
  replace hp1 : Heap.ExtBut i1 g0 p1 := hp1
  have hzp : IsZipX p1 z TI TO .ellipsis := hp1 _ _ S.zi1 hz0
  refine wpAny_bind (wpAny_setField_rec (s := ⟨p1, g, d, tk0, os⟩) hzp (by simp) fun g1 hz1 hs1 => ?_)
  replace hs1 : Heap.SameBut z p1 g1 := hs1
  refine wpAny_bind ?_
  show wpAny _ _ (_ >>= _) _ _ _
  refine wpAny_bind ?_
  simp only [List.drop_succ_cons, List.drop_zero, List.zipIdx_cons, List.zipIdx_nil, List.forIn_cons, List.forIn_nil]
  refine wpAny_bind (wpAny_bind (ends_done D2 (s := ⟨g1, g, d, tk0, os⟩) ?_ fun p2 hp2 => ?_))
  · exact D2.over (D2.frame _ _ _ (D2.over st2 hs0 S.zf2) fun b hb o e => hp1 b o (fun q => S.sep1_2 (q ▸ hb)) e) hs1 S.zf2
  · replace hp2 : Heap.ExtBut i2 g1 p2 := hp2
    simp only [Option.isSome_none, Bool.false_eq_true, if_false]
    refine wpAny_pure (wpAny_pure (wpAny_bind (wpAny_rule ?_)))
    show wpAny _ _ (newExc (.type "StopIteration") [] >>= _) _ _ _
    refine wpAny_bind ?_
    simp only [newExc, newTuple]
    refine wpAny_bind (wpAny_newObj_type ?_ (by size_fits))
    refine wpAny_bind (m := firstArgMember _ _) (wpAny_of_eq (a := Value.none) (by first | rfl | (simp only [firstArgMember]; rfl)) (wpAny_newObj_type ?_ (by size_fits)))
    simp only [raiseNew]
    refine wpAny_bind (wpAny_handled ?_)
    rw [hh]
    refine wpAny_bind (wpAny_pure (wpAny_throw ?_))
    refine hE _ _ _ (fun c o cz cT c1 c2 e => ?_) ⟨_, Heap.get?_push_size _ rfl, rfl⟩
    exact Heap.get?_push_of_some _ (Heap.get?_push_of_some _ (hp2 c o c2 (hs1.extBut c o cz (hp1 c o c1 (hs0.extBut c o cz e)))))
theorem zipX_go {elts : List Expr} {x1 : Nat} {pos : Pos} {T : Addr} {Q : Unit → Shared → Prop} (hz : IsZipX s.heap z TI TO (rawInt T)) (hQ : ∀ h', IsZipX h' z TI TO .none → Heap.SameBut z s.heap h' → Q () { s with heap := h' }) :
    wpAny (model prog w) A (letOwnedTupleGo (.Tuple elts x1 pos) (.ref z) (.ref T)) Q E s := by
  unfold letOwnedTupleGo
  refine wpAny_bind (wpAny_load hz ?_)
  show wpAny _ _ (if (["enumerate", "zip", "dict_itemiterator", "dict_reverseitemiterator", "odict_iterator", "itertools.zip_longest", "itertools.pairwise"].contains "zip" && (#[rawInt T, .bool false, .bool true, .ref TI, .ref TO] : Array Value)[0]? == some (rawInt T)) = true then _ else _) Q E s
  rw [if_pos (by simp)]
  exact wpAny_bind (wpAny_rule (wpAny_setField_rec hz (by simp) fun h' a b => hQ h' a b))
theorem zipX_iter {f0 : Value} {Q : Value → Shared → Prop} (hz : IsZipX s.heap z TI TO f0) (h : Q (.ref z) s) : wpAny (model prog w) A (pyIter (.ref z)) Q E s := by
  have hT : s.TypeIs (.ref z) "zip" := ⟨_, hz, rfl⟩
  refine wpAny_pyIter_slot hT F.slot_zip_iter (wpAny_call_entry F.slot_zip_iter hT F.entry_zip_iter (Q := fun v s' => _) ?_ (F.args_zip_iter_1 _))
  show wpAny _ _ (ret (.ref z)) _ _ s
  exact wpAny_pure ⟨_, rfl, "zip", _, hT, F.slot_zip_next.lookup, h⟩
theorem zipX_next_item {Q : Option Value → Shared → Prop} (S : ZipSep2 z TI TO i1 i2 fp1 fp2) (D1 : Draws prog w A.in1 i1 fp1 n P1 St1) (D2 : Draws prog w A.in1 i2 fp2 n P2 St2)
    (hz : IsZipX s.heap z TI TO .none) (hTI : IsTupOf2 s.heap TI (.ref i1) (.ref i2)) (hTO : IsTupOf2 s.heap TO a1 a2) (st1 : St1 i s.heap) (st2 : St2 i s.heap) (hlt : i < n)
    (hQ : ∀ x1 x2 h' tk, P1 i x1 → P2 i x2 → IsZipX h' z TI TO (rawInt s.heap.objs.size) → IsTupOf2 h' TO x1 x2 → St1 (i + 1) h' → St2 (i + 1) h' → IsTupOf2 h' s.heap.objs.size x1 x2 →
      (∀ c o, c ≠ z → c ≠ TO → c ≠ i1 → c ≠ i2 → s.heap.get? c = some o → h'.get? c = some o) → Q (some (.ref s.heap.objs.size)) { s with heap := h', toks := tk }) : wpAny (model prog w) A (pyNext (.ref z)) Q E s := by
  have hT : s.TypeIs (.ref z) "zip" := ⟨_, hz, rfl⟩
  unfold pyNext
  exact wpAny_bind (wpAny_attempt (wpAny_callSpecial?_slot (name := Str.ofString "__next__") hT F.slot_zip_next (wpAny_call_entry F.slot_zip_next hT F.entry_zip_next
    (zipX_item S D1 D2 hz hTI hTO st1 st2 hlt fun x1 x2 h' tk y1 y2 b1 b2 d1 d2 b5 b6 => wpAny_pure (hQ x1 x2 h' tk y1 y2 b1 b2 d1 d2 b5 b6)) (F.args_zip_next_1 _))))
theorem zipX_next_end {Q : Option Value → Shared → Prop} (hh : A.handled = none) (S : ZipSep2 z TI TO i1 i2 fp1 fp2) (D1 : Draws prog w A.in1 i1 fp1 n P1 St1) (D2 : Draws prog w A.in1 i2 fp2 n P2 St2)
    (hz : IsZipX s.heap z TI TO .none) (hTI : IsTupOf2 s.heap TI (.ref i1) (.ref i2)) (hTO : IsTupOf2 s.heap TO a1 a2) (st1 : St1 n s.heap) (st2 : St2 n s.heap)
    (hQ : ∀ h' tk, (∀ c o, c ≠ z → c ≠ TO → c ≠ i1 → c ≠ i2 → s.heap.get? c = some o → h'.get? c = some o) → Q none { s with heap := h', toks := tk }) : wpAny (model prog w) A (pyNext (.ref z)) Q E s := by
  have hT : s.TypeIs (.ref z) "zip" := ⟨_, hz, rfl⟩
  unfold pyNext
  refine wpAny_bind (wpAny_attempt (wpAny_callSpecial?_slot (name := Str.ofString "__next__") hT F.slot_zip_next (wpAny_call_entry F.slot_zip_next hT F.entry_zip_next (zipX_end hh S D1 D2 hz hTI hTO st1 st2 fun h' tk e hk he => ?_) (F.args_zip_next_1 _))))
  obtain ⟨o, ho, hc⟩ := he
  exact wpAny_bind (wpAny_isInstance (T := "StopIteration") (b := true) ⟨o, ho, hc⟩ isSubtype_stop (wpAny_pure (hQ _ _ hk)))
/-- the strict zip over two iterators of as many turns -/
theorem zipX_goes {elts : List Expr} {x1 : Nat} {pos : Pos} (hh : A.handled = none) (S : ZipSep2 z TI TO i1 i2 fp1 fp2) (D1 : Draws prog w A.in1 i1 fp1 n P1 St1) (D2 : Draws prog w A.in1 i2 fp2 n P2 St2) :
    GoesN prog w A (.Tuple elts x1 pos) z (z :: TI :: TO :: (fp1 ++ fp2)) [z, TO, i1, i2] n (fun i h0 v h => ∃ T x y, v = .ref T ∧ h0.objs.size ≤ T ∧ P1 i x ∧ P2 i y ∧ h.IsTuple T #[x, y])
      (fun i h => IsZipX h z TI TO .none ∧ IsTupOf2 h TI (.ref i1) (.ref i2) ∧ (∃ a1 a2, IsTupOf2 h TO a1 a2) ∧ St1 i h ∧ St2 i h) where
  sub := fun c hc => by
    have hc' : c = z ∨ c = TO ∨ c = i1 ∨ c = i2 := by simpa using hc
    rcases hc' with e | e | e | e
    · simp [e]
    · simp [e]
    · simp [e, S.mem1]
    · simp [e, S.mem2]
  frame := fun i h h' hst hk => by
    obtain ⟨hz, hTI, ⟨a1, a2, hTO⟩, st1, st2⟩ := hst
    exact ⟨hk z (by simp) _ hz, hk TI (by simp) _ hTI, ⟨a1, a2, hk TO (by simp) _ hTO⟩, D1.frame _ _ _ st1 fun b hb o e => hk b (by simp [hb]) o e, D2.frame _ _ _ st2 fun b hb o e => hk b (by simp [hb]) o e⟩
  goes := fun i s Q E hi hst hQ => by
    obtain ⟨hz, hTI, ⟨a1, a2, hTO⟩, st1, st2⟩ := hst
    refine wpAny_with_toks (n := s.toks) (Nat.le_refl _) (zipX_next_item S D1 D2 hz hTI hTO st1 st2 hi fun x1 x2 h' tk y1 y2 b1 b2 d1 d2 b5 hk htk => ⟨_, rfl, ?_⟩)
    have lt : ∀ {c o}, s.heap.get? c = some o → s.heap.objs.size ≠ c := fun e => Nat.ne_of_gt (Heap.lt_size e)
    refine zipX_go (s := { s with heap := h', toks := tk }) b1 fun h2 hz2 hs2 => ?_
    replace hs2 : Heap.SameBut z h' h2 := hs2
    have hTI' : IsTupOf2 h' TI (.ref i1) (.ref i2) := hk _ _ S.TIz S.TITO S.TIi1 S.TIi2 hTI
    exact hQ _ h2 tk ⟨_, x1, x2, rfl, Nat.le_refl _, y1, y2, ⟨_, hs2.extBut _ _ (lt hz) b5, rfl, _, rfl⟩⟩ ⟨hz2, hs2.extBut _ _ S.TIz hTI', ⟨_, _, hs2.extBut _ _ S.TOz b2⟩, D1.over d1 hs2 S.zf1, D2.over d2 hs2 S.zf2⟩
      (fun c o hc e => hs2.extBut _ _ (fun x => hc (by simp [x])) (hk c o (fun x => hc (by simp [x])) (fun x => hc (by simp [x])) (fun x => hc (by simp [x])) (fun x => hc (by simp [x])) e)) htk
  stops := fun s Q E hst hQ => by
    obtain ⟨hz, hTI, ⟨a1, a2, hTO⟩, st1, st2⟩ := hst
    exact wpAny_with_toks (n := s.toks) (Nat.le_refl _) (zipX_next_end hh S D1 D2 hz hTI hTO st1 st2 fun h' tk hk htk => ⟨rfl, hQ h' tk (fun c o hc e => hk c o (fun x => hc (by simp [x])) (fun x => hc (by simp [x])) (fun x => hc (by simp [x])) (fun x => hc (by simp [x])) e) htk⟩)
  self := fun i s Q E hst hQ => zipX_iter hst.1 hQ
end
theorem F_typeCall (a b c : Value) : checkTypeCall "zip" ⟨[a, b], [(Str.ofString "strict", c)]⟩ = pure () := by kernel_rfl
theorem F_newCall (a b c : Value) : checkBuiltinCall "zip.__new__" ⟨[.type "zip", a, b], [(Str.ofString "strict", c)]⟩ = pure () := by kernel_rfl
theorem F_initArgs (obj a b c : Value) : argsOk "object.__init__" ⟨[obj, a, b], [(Str.ofString "strict", c)]⟩ := by unfold argsOk; kernel_rfl
abbrev gzX (h : Heap) (o1 o2 : Obj) : Heap := (gzO2 h o1 o2).push { cls := .type "zip", data := .fields #[.none, .bool false, .bool true, .ref ((h.push o1).push o2).objs.size, .ref (gzT2 h o1 o2).objs.size] }
theorem meets_zipX {v1 v2 : Value} {o1 o2 : Obj} {H1 H2 : Heap → Prop} (B1 : Begins v1 o1 H1) (B2 : Begins v2 o2 H2) :
    Meets (Builtin.«zip.__new__» ⟨[.type "zip", v1, v2], [(Str.ofString "strict", .bool true)]⟩) (fun _ R s => (H1 s.heap ∧ H2 s.heap) ∧ R (.ok (.ret (.ref (gzO2 s.heap o1 o2).objs.size))) { s with heap := gzX s.heap o1 o2 }) :=
  .of_wp fun prog w A R s h => by
    obtain ⟨hp, g, d, tk, os⟩ := s
    obtain ⟨⟨h1, h2⟩, h⟩ := h
    have hsub := sub_zip
    have e1 : (Str.ofString "strict" != ("strict" : Str)) = false := by decide +kernel
    have e2 : (Str.ofString "strict" == ("strict" : Str)) = true := by decide +kernel
    have q1 : ∀ {A' : Around} {E : Value → Shared → Prop} {Q : Value → Shared → Prop}, Q (.ref hp.objs.size) ⟨(hp.push o1), g, d, tk, os⟩ → wpAny (model prog w) A' (pyIter v1) Q E ⟨hp, g, d, tk, os⟩ :=
      fun q => B1.iter prog w _ _ ⟨hp, g, d, tk, os⟩ _ (B1.keeps _ _ h1 fun b o' e => e) q
    have q2 : ∀ {A' : Around} {E : Value → Shared → Prop} {Q : Value → Shared → Prop}, Q (.ref (hp.push o1).objs.size) ⟨((hp.push o1).push o2), g, d, tk, os⟩ → wpAny (model prog w) A' (pyIter v2) Q E ⟨(hp.push o1), g, d, tk, os⟩ :=
      fun q => B2.iter prog w _ _ ⟨(hp.push o1), g, d, tk, os⟩ _ (B2.keeps _ _ h2 fun b o' e => (Heap.get?_push_of_some _ e)) q
    wp_walk using q1, q2
    exact ⟨_, rfl, h⟩
theorem zipX_begins {prog : Program} {w : World} {A : Around} {E : Value → Shared → Prop} {s : Shared} {v1 v2 : Value} {o1 o2 : Obj} {H1 H2 : Heap → Prop} {Q : Value → Shared → Prop} (B1 : Begins v1 o1 H1) (B2 : Begins v2 o2 H2) (h1 : H1 s.heap) (h2 : H2 s.heap)
    (h : ∀ h', IsZipX h' (s.heap.objs.size + 4) (s.heap.objs.size + 2) (s.heap.objs.size + 3) .none → IsTupOf2 h' (s.heap.objs.size + 2) (.ref s.heap.objs.size) (.ref (s.heap.objs.size + 1)) →
      IsTupOf2 h' (s.heap.objs.size + 3) .none .none → h'.get? s.heap.objs.size = some o1 → h'.get? (s.heap.objs.size + 1) = some o2 → (∀ c o, s.heap.get? c = some o → h'.get? c = some o) → Q (.ref (s.heap.objs.size + 4)) { s with heap := h' }) :
    wpAny (model prog w) A (call (.type "zip") [v1, v2] [(Str.ofString "strict", .bool true)]) Q E s := by
  refine callType_newKw F.called_zip (by decide) (F_typeCall _ _ _) (F_newCall _ _ _) (fun obj => F_initArgs obj _ _ _) F.entry_zip_new (meets_zipX B1 B2) ⟨⟨h1, h2⟩, ?_⟩
  have z1 : (s.heap.push o1).objs.size = s.heap.objs.size + 1 := by rw [Heap.size_push]
  have z2 : ((s.heap.push o1).push o2).objs.size = s.heap.objs.size + 2 := by rw [Heap.size_push, z1]
  have zT : (gzT2 s.heap o1 o2).objs.size = s.heap.objs.size + 3 := by rw [Heap.size_push, z2]
  have zO : (gzO2 s.heap o1 o2).objs.size = s.heap.objs.size + 4 := by rw [Heap.size_push, zT]
  have gZ : (gzX s.heap o1 o2).get? (gzO2 s.heap o1 o2).objs.size = some { cls := .type "zip", data := .fields #[.none, .bool false, .bool true, .ref ((s.heap.push o1).push o2).objs.size, .ref (gzT2 s.heap o1 o2).objs.size] } := Heap.get?_push_size _ rfl
  have gO : (gzX s.heap o1 o2).get? (gzT2 s.heap o1 o2).objs.size = some { cls := .type "tuple", data := .seq #[.none, .none] } := Heap.get?_push_of_some _ (Heap.get?_push_size _ rfl)
  have gT : (gzX s.heap o1 o2).get? ((s.heap.push o1).push o2).objs.size = some { cls := .type "tuple", data := .seq #[.ref s.heap.objs.size, .ref (s.heap.push o1).objs.size] } := Heap.get?_push_of_some _ (Heap.get?_push_of_some _ (Heap.get?_push_size _ rfl))
  have g1 : (gzX s.heap o1 o2).get? s.heap.objs.size = some o1 := Heap.get?_push_of_some _ (Heap.get?_push_of_some _ (Heap.get?_push_of_some _ (Heap.get?_push_of_some _ (Heap.get?_push_size _ B1.free))))
  have g2 : (gzX s.heap o1 o2).get? (s.heap.push o1).objs.size = some o2 := Heap.get?_push_of_some _ (Heap.get?_push_of_some _ (Heap.get?_push_of_some _ (Heap.get?_push_size _ B2.free)))
  rw [zO, zT, z2] at gZ
  rw [zT] at gO
  rw [z2, z1] at gT
  rw [z1] at g2
  show _ ∧ _
  rw [zO]
  exact ⟨⟨_, gZ, rfl⟩, h _ gZ gT gO g1 g2 fun c o e => Heap.get?_push_of_some _ (Heap.get?_push_of_some _ (Heap.get?_push_of_some _ (Heap.get?_push_of_some _ (Heap.get?_push_of_some _ e))))⟩
/-! ### over the layer -/
def isZ (x : Bool) (h : Heap) (z TI TO : Addr) : Prop := match x with
  | false => IsZip h z TI TO .none
  | true => IsZipX h z TI TO .none
theorem goesZ {prog : Program} {w : World} {A : Around} {z TI TO i1 i2 : Addr} {fp1 fp2 : List Addr} {n1 n2 n : Nat} {P1 P2 : Nat → Value → Prop} {St1 St2 : Nat → Heap → Prop} (x : Bool) {elts : List Expr} {x1 : Nat} {pos : Pos} (hh : A.handled = none) (S : ZipSep2 z TI TO i1 i2 fp1 fp2) (D1 : Draws prog w A.in1 i1 fp1 n1 P1 St1) (D2 : Draws prog w A.in1 i2 fp2 n2 P2 St2) (hn : n = min n1 n2) (hx : x = true → n1 = n2) :
    GoesN prog w A (.Tuple elts x1 pos) z (z :: TI :: TO :: (fp1 ++ fp2)) [z, TO, i1, i2] n (fun i h0 v h => ∃ T x y, v = .ref T ∧ h0.objs.size ≤ T ∧ P1 i x ∧ P2 i y ∧ h.IsTuple T #[x, y])
      (fun i h => isZ x h z TI TO ∧ IsTupOf2 h TI (.ref i1) (.ref i2) ∧ (∃ a1 a2, IsTupOf2 h TO a1 a2) ∧ St1 i h ∧ St2 i h) := by
  cases x with
  | false => subst hn; exact GoesN.zip2 S D1 D2
  | true =>
    have e := hx rfl
    subst e
    have e2 : n = n1 := by omega
    subst e2
    exact zipX_goes hh S D1 D2
section
variable {X : Cx} {W : WX} {e e2 : Expr} {elts : List Expr} {pos p tpos kp cp : Pos} {kk : Nat}
theorem turn_zipK {P : Program} {w : World} {K : PySem.W.Frag} {F : Hp} {x : Bool} {k1 k2 : Bool} {q1 q2 : Addr} {vs ws : List V} {n : Nat} (hq1 : seqK k1 K F q1 vs) (hq2 : seqK k2 K F q2 ws) (hn : n = min vs.length ws.length) (hx : x = true → vs.length = ws.length) (z TI TO i1 i2 : Addr)
    (S : ZipSep2 z TI TO i1 i2 [i1, q1] [i2, q2]) (n1 : q1 ≠ i1) (n2 : q2 ≠ i2) :
    Turn P w K (.Tuple elts kk tpos) (JP F n (fun i => vs[i]?) (fun i => ws[i]?)) [z, TI, TO, i1, i2] z (fun i h => isZ x h z TI TO ∧ IsTupOf2 h TI (.ref i1) (.ref i2) ∧ (∃ a1 a2, IsTupOf2 h TO a1 a2) ∧ itSt k1 i1 q1 i h ∧ itSt k2 i2 q2 i h) where
  mem := List.mem_cons_self
  obj := fun i h st c hc => by
    obtain ⟨hz, hTI, ⟨a1, a2, hTO⟩, s1, s2⟩ := st
    have hc' : c = z ∨ c = TI ∨ c = TO ∨ c = i1 ∨ c = i2 := by simpa using hc
    rcases hc' with y | y | y | y | y
    · rw [y]
      cases x with
      | false => exact ⟨_, hz, fun v q => nomatch q⟩
      | true => exact ⟨_, hz, fun v q => nomatch q⟩
    · rw [y]; exact ⟨_, hTI, fun v q => nomatch q⟩
    · rw [y]; exact ⟨_, hTO, fun v q => nomatch q⟩
    · rw [y]; exact itSt_obj s1
    · rw [y]; exact itSt_obj s2
  keep := fun i h h' st k => by
    obtain ⟨hz, hTI, ⟨a1, a2, hTO⟩, s1, s2⟩ := st
    refine ⟨?_, k TI (by simp) _ hTI, ⟨a1, a2, k TO (by simp) _ hTO⟩, itSt_at s1 fun o e => k i1 (by simp) o e, itSt_at s2 fun o e => k i2 (by simp) o e⟩
    cases x with
    | false => exact k z (by simp) _ hz
    | true => exact k z (by simp) _ hz
  item := by
    intro X hP hw hK hc i pins s σ H E I hf st hg
    subst hP hw hK
    obtain ⟨sub, hi⟩ := hg
    obtain ⟨its1, rv1, hs1, _⟩ := seqK_its I (seqK_mono sub hq1)
    obtain ⟨its2, rv2, hs2, _⟩ := seqK_its I (seqK_mono sub hq2)
    have l1 := rv1.length
    have l2 := rv2.length
    have G := goesZ (elts := elts) (x1 := kk) (pos := tpos) x (A := X.A) (n := n) (I.ok.hd hc) S (drawsK (prog := X.prog) (w := X.w) (A := X.A.in1) k1 (I.ok.hd hc) i1 q1 n1 its1.toArray) (drawsK (prog := X.prog) (w := X.w) (A := X.A.in1) k2 (I.ok.hd hc) i2 q2 n2 its2.toArray) (by simp; omega) (fun e => by have := hx e; simp; omega)
    obtain ⟨hz, hTI, hTO, s1, s2⟩ := id st
    refine G.goes i s _ E hi ⟨hz, hTI, hTO, ⟨s1, hs1⟩, s2, hs2⟩ fun v h' tk hY st' hkp htk => ?_
    obtain ⟨T, u1, u2, ev, hT, hu1, hu2, hTup⟩ := hY
    obtain ⟨y1, hy1⟩ : ∃ y, vs[i]? = some y := ⟨vs[i]'(by omega), List.getElem?_eq_getElem _⟩
    obtain ⟨y2, hy2⟩ : ∃ y, ws[i]? = some y := ⟨ws[i]'(by omega), List.getElem?_eq_getElem _⟩
    obtain ⟨u1', hu1', r1⟩ := rv1.get hy1
    obtain ⟨u2', hu2', r2⟩ := rv2.get hy2
    have e1 : its1[i]? = some u1 := by simpa using hu1
    have e2 : its2[i]? = some u2 := by simpa using hu2
    rw [e1] at hu1'
    rw [e2] at hu2'
    cases hu1'
    cases hu2'
    obtain ⟨oT, hoT, hcT, nT, hdT⟩ := hTup
    have new : ObjOk X.prog X.w (upd H T (.tup [y1, y2])) h' T (.tup [y1, y2]) := ⟨by show 2 ≤ sizeLine; decide, [u1, u2], .cons r1 (.cons r2 .nil), ⟨oT, hoT, hcT, nT, hdT⟩⟩
    have hfw : ∀ c ∈ [z, TO, i1, i2], FpOk X pins H c := fun c hcm => hf c (by
      have hc' : c = z ∨ c = TO ∨ c = i1 ∨ c = i2 := by simpa using hcm
      rcases hc' with y | y | y | y <;> simp [y])
    refine ⟨.ref T, _, I.turnedNew (ch := [z, TO, i1, i2]) (fun c o hc e => hkp c o hc e) hfw hT new, ev ▸ rfl, ⟨T, y1, y2, rfl, I.hok.fresh hT, rfl, hy1, hy2⟩, ⟨st'.1, st'.2.1, st'.2.2.1, st'.2.2.2.1.1, st'.2.2.2.2.1⟩, fun c hcm => ?_⟩
    have hlt : c < s.heap.objs.size := by
      have hc' : c = z ∨ c = TI ∨ c = TO ∨ c = i1 ∨ c = i2 := by simpa using hcm
      rcases hc' with y | y | y | y | y
      · rw [y]
        cases x with
        | false => exact Heap.lt_size hz
        | true => exact Heap.lt_size hz
      · rw [y]; exact Heap.lt_size hTI
      · rw [y]; obtain ⟨a1, a2, hTO⟩ := hTO; exact Heap.lt_size hTO
      · rw [y]; obtain ⟨o, ho, _⟩ := itSt_obj s1; exact Heap.lt_size ho
      · rw [y]; obtain ⟨o, ho, _⟩ := itSt_obj s2; exact Heap.lt_size ho
    rw [upd_ne (Nat.ne_of_lt (Nat.lt_of_lt_of_le hlt hT))]
    exact (hf c hcm).1
  done := by
    intro X hP hw hK hc i pins s σ H E I hf st hg
    subst hP hw hK
    obtain ⟨sub, hi⟩ := hg
    obtain ⟨its1, rv1, hs1, _⟩ := seqK_its I (seqK_mono sub hq1)
    obtain ⟨its2, rv2, hs2, _⟩ := seqK_its I (seqK_mono sub hq2)
    have l1 := rv1.length
    have l2 := rv2.length
    have G := goesZ (elts := elts) (x1 := kk) (pos := tpos) x (A := X.A) (n := n) (I.ok.hd hc) S (drawsK (prog := X.prog) (w := X.w) (A := X.A.in1) k1 (I.ok.hd hc) i1 q1 n1 its1.toArray) (drawsK (prog := X.prog) (w := X.w) (A := X.A.in1) k2 (I.ok.hd hc) i2 q2 n2 its2.toArray) (by simp; omega) (fun e => by have := hx e; simp; omega)
    obtain ⟨hz, hTI, hTO, s1, s2⟩ := id st
    rw [hi] at s1 s2
    have hfw : ∀ c ∈ [z, TO, i1, i2], FpOk X pins H c := fun c hcm => hf c (by
      have hc' : c = z ∨ c = TO ∨ c = i1 ∨ c = i2 := by simpa using hcm
      rcases hc' with y | y | y | y <;> simp [y])
    exact G.stops s _ E ⟨hz, hTI, hTO, ⟨s1, hs1⟩, s2, hs2⟩ fun h' tk hk _ => I.turnedL (ch := [z, TO, i1, i2]) (fun c o hb q => hk c o hb q) hfw
  self := fun A i s Q E st h => by
    cases x with
    | false => exact wpAny_pyIter_zip st.1 h
    | true => exact zipX_iter st.1 h
def zipD (xs ys : List PyData) : List PyData := List.zipWith (fun x y => PyData.tuple [x, y]) xs ys
/-- the state at a zip that has just been made -/
theorem zip_in {pins : List (Addr × Obj)} {σ : L2.St} {H F : Hp} {s1 : Shared} {R : It → Hp → Prop} {E : Value → Shared → Prop} {x k1 k2 : Bool} {q1 q2 : Addr} {vs ws : List V} {es fs : List PyData} {h' : Heap} (I : Inv X pins σ H s1) (sub : Same F H)
    (hq1 : seqK k1 X.K F q1 vs) (hq2 : seqK k2 X.K F q2 ws) (d1 : DVs X.K F vs es) (d2 : DVs X.K F ws fs) (hx : x = true → es.length = fs.length)
    (hz : isZ x h' (s1.heap.objs.size + 4) (s1.heap.objs.size + 2) (s1.heap.objs.size + 3)) (hTI : IsTupOf2 h' (s1.heap.objs.size + 2) (.ref s1.heap.objs.size) (.ref (s1.heap.objs.size + 1))) (hTO : IsTupOf2 h' (s1.heap.objs.size + 3) .none .none)
    (h1 : h'.get? s1.heap.objs.size = some (itOb k1 q1)) (h2 : h'.get? (s1.heap.objs.size + 1) = some (itOb k2 q2)) (hk : ∀ c o, s1.heap.get? c = some o → h'.get? c = some o) (k : ∀ J, WalkD X.K J F (zipD es fs) → R J H) :
    wpAny (model X.prog X.w) X.A (pyIter (.ref (s1.heap.objs.size + 4))) (PIE X pins σ (.Tuple elts kk tpos) R) E { s1 with heap := h' } := by
  have I2 : Inv X pins σ H { s1 with heap := h' } := I.kept (t' := s1.toks) hk
  obtain ⟨its1, rv1, hs1, lt1⟩ := seqK_its I (seqK_mono sub hq1)
  obtain ⟨its2, rv2, hs2, lt2⟩ := seqK_its I (seqK_mono sub hq2)
  have S := zip_sep2 (N := s1.heap.objs.size) (fp1 := [q1]) (fp2 := [q2]) (fun b hb => by rw [List.mem_singleton.mp hb]; exact lt1) (fun b hb => by rw [List.mem_singleton.mp hb]; exact lt2)
  have fin : PIE X pins σ (.Tuple elts kk tpos) R (.ref (s1.heap.objs.size + 4)) { s1 with heap := h' } := by
    refine ⟨_, [s1.heap.objs.size + 4, s1.heap.objs.size + 2, s1.heap.objs.size + 3, s1.heap.objs.size, s1.heap.objs.size + 1], _, _, H, rfl, I2, turn_zipK (x := x) (n := min vs.length ws.length) hq1 hq2 rfl (fun e => by have := hx e; rw [d1.len, d2.len]; exact this) _ _ _ _ _ S (Nat.ne_of_lt lt1) (Nat.ne_of_lt (Nat.lt_succ_of_lt lt2)),
      ⟨hz, hTI, ⟨_, _, hTO⟩, itSt_new h1, itSt_new h2⟩, fun b hb => ?_, k _ ?_⟩
    · have hle : s1.heap.objs.size ≤ b := by
        have hb' : b = s1.heap.objs.size + 4 ∨ b = s1.heap.objs.size + 2 ∨ b = s1.heap.objs.size + 3 ∨ b = s1.heap.objs.size ∨ b = s1.heap.objs.size + 1 := by simpa using hb
        have le5 : ∀ N : Nat, ∀ b : Nat, (b = N + 4 ∨ b = N + 2 ∨ b = N + 3 ∨ b = N ∨ b = N + 1) → N ≤ b := fun N b h => by omega
        exact le5 _ _ hb'
      exact I.fpOk hle (I.hok.fresh hle)
    · refine walk_JP (by unfold zipD; rw [List.length_zipWith, d1.len, d2.len]) fun i x y hi h1 h2 => ?_
      obtain ⟨a, e1, q1⟩ := d1.at' h1
      obtain ⟨b, e2, q2⟩ := d2.at' h2
      exact ⟨a, b, by unfold zipD; rw [List.getElem?_zipWith, e1, e2], q1, q2⟩
  cases x with
  | false => exact wpAny_pyIter_zip hz fin
  | true => exact zipX_iter hz fin
/-- both sources, read -/
def ZSrc (K : PySem.W.Frag) (x : Bool) (R : It → Hp → Prop) (xs : List V) (H : Hp) : Prop := ∃ k1 k2 q1 q2 vs ws es fs F, xs = [.ref q1, .ref q2] ∧ Same F H ∧ seqK k1 K F q1 vs ∧ seqK k2 K F q2 ws ∧ DVs K F vs es ∧ DVs K F ws fs ∧ (x = true → es.length = fs.length) ∧ ∀ J, WalkD K J F (zipD es fs) → R J H
def seqOf : PyData → Option (List PyData)
  | .list xs => some xs
  | .tuple xs => some xs
  | _ => none
theorem seqOf_ok {K : PySem.W.Frag} {F : Hp} {x : V} {d : PyData} {es : List PyData} (h : DV K F x d) (e : seqOf d = some es) : ∃ k q vs, x = .ref q ∧ seqK k K F q vs ∧ DVs K F vs es := by
  cases h with
  | lst hs dv => simp only [seqOf, Option.some.injEq] at e; subst e; exact ⟨false, _, _, rfl, hs, dv⟩
  | tup hs dv => simp only [seqOf, Option.some.injEq] at e; subst e; exact ⟨true, _, _, rfl, hs, dv⟩
  | non => cases e
  | bl _ => cases e
  | int _ => cases e
  | str _ => cases e
  | dct _ => cases e
def zipS (x : Bool) (vs : List Val) : PEn → Out (List PyData) := fun r => match fzs r vs with
  | some ([d, e], r2) => match seqOf d, seqOf e with
    | some xs, some ys => if x = true ∧ xs.length ≠ ys.length then .bad else .ok (zipD xs ys) r2
    | _, _ => .bad
  | _ => .bad
def iZipD (x : Bool) (fs : PEn → Out (List Val)) : PEn → Out (List PyData) := fun r => (fs r).bind (zipS x)
theorem zsrc_rd {K : PySem.W.Frag} {mg : Str → Option Value} {x : Bool} {fs : PEn → Out (List Val)} {σ : L2.St} {H : Hp} {R : It → Hp → Prop} (h : rdI K mg W (iZipD x fs) σ H R) : rdA K mg W fs σ H (ZSrc K x R) := by
  obtain ⟨F, r, R0, q⟩ := h
  refine ⟨F, r, R0, q.bind0.imp fun vs r1 F1 H1 R1 S1 q1 xs rx _ => ?_⟩
  unfold zipS at q1
  cases z : fzs r1 vs with
  | none => rw [z] at q1; exact q1.elim
  | some y =>
    obtain ⟨ds, r2⟩ := y
    rw [z] at q1
    obtain ⟨F2, s2, R2, dv, S2⟩ := fz_all R1 S1 (RVs.rz rx) z
    match ds, q1, dv with
    | [], q1, _ => exact q1.elim
    | [_], q1, _ => exact q1.elim
    | _ :: _ :: _ :: _, q1, _ => exact q1.elim
    | [d, e], q1, dv =>
      simp only at q1
      cases z1 : seqOf d with
      | none => rw [z1] at q1; exact q1.elim
      | some es =>
        cases z2 : seqOf e with
        | none => rw [z1, z2] at q1; exact q1.elim
        | some fs =>
          rw [z1, z2] at q1
          simp only at q1
          split at q1
          · exact q1.elim
          · rename_i hn
            cases dv with
            | cons d1 t =>
              cases t with
              | cons d2 t =>
                cases t
                obtain ⟨k1, qa, us, rfl, hs1, dv1⟩ := seqOf_ok d1 z1
                obtain ⟨k2, qb, ws, rfl, hs2, dv2⟩ := seqOf_ok d2 z2
                refine ⟨k1, k2, qa, qb, us, ws, es, fs, F2, rfl, R2.sub, hs1, hs2, dv1, dv2, fun e => ?_, fun J w => q1 F2 H1 R2 S2 J w⟩
                cases Nat.decEq es.length fs.length with
                | isTrue h => exact h
                | isFalse h => exact absurd ⟨e, h⟩ hn
theorem i_zip {fs : PEn → Out (List Val)} (hg : Gl X "zip") (hm : X.mg "zip" = none) (ha : JA X W [e, e2] fs)
    (hs : starEach [e, e2] X.env = (false, eval e X.env) :: starEach [e2] X.env := by rfl) (hpl : (backTo pos (starEach [e2] X.env)).any (·.1) = false := by rfl) :
    JI X W (.Tuple elts kk tpos) (.Call (.Name "zip" p) [e, e2] [] pos) (iZipD false fs) := by
  refine ⟨fun pins s σ H R I h => ?_⟩
  refine Call_ (ld_blt I hg hm PyProof.Rows.boot_zip (PyProof.Rows.callWith_type1 (thn (ha.run pos pins s σ H _ I (zsrc_rd h)) fun us s1 ⟨vs, H1, I1, r1, q1⟩ => ?_) hs hpl))
  obtain ⟨k1, k2, qa, qb, us', ws, es, fs', F, rfl, sub, h1, h2, d1, d2, hx, k⟩ := q1
  obtain ⟨u1, u2, rfl, ra, rb⟩ := Vals.two r1
  obtain rfl : u1 = Value.ref qa := ra
  obtain rfl : u2 = Value.ref qb := rb
  obtain ⟨its1, rv1, hs1, lt1⟩ := seqK_its I1 (seqK_mono sub h1)
  obtain ⟨its2, rv2, hs2, lt2⟩ := seqK_its I1 (seqK_mono sub h2)
  exact zip_begins2 (beginsK k1 qa its1.toArray) (beginsK k2 qb its2.toArray) hs1 hs2 fun h' hz hTI hTO o1 o2 hsz hk => zip_in (x := false) I1 sub h1 h2 d1 d2 hx hz hTI hTO o1 o2 hk k
/-- a built-in class called with a keyword -/
theorem callWith_typeK {M : Model} {A : Around} {E : Value → Shared → Prop} {s : Shared} {env : Env} {pos : Pos} {T : String} {e : Expr} {rest : List Expr} {kws : List Keyword} {Q : Value → Shared → Prop}
    (h : wpAny M A (spliced (backTo pos (starEach (e :: rest) env))) (fun vs s₁ => wpAny M A (evalAll ((backToKw pos (keywordEach kws env)).map (·.2)))
      (fun kvs s₂ => wpAny M A (call (.type T) vs (((backToKw pos (keywordEach kws env)).filterMap (·.1)).zip kvs)) Q E s₂) E s₁) E s)
    (he : backTo pos (starEach (e :: rest) env) = (false, eval e env) :: backTo pos (starEach rest env) := by rfl) (hplain : (backTo pos (starEach (e :: rest) env)).any (·.1) = false := by rfl)
    (hall : (backToKw pos (keywordEach kws env)).all (·.1.isSome) = true := by rfl) (hkw : (backToKw pos (keywordEach kws env)).any (·.1.isNone) = false := by rfl) :
    wpAny M A (callWith pos (.type T) [] (backTo pos (starEach (e :: rest) env)) (backToKw pos (keywordEach kws env))) Q E s := by
  have core : wpAny M A (evalArgs (.type T) true (backTo pos (starEach (e :: rest) env)) (backToKw pos (keywordEach kws env))) (fun a s₁ => wpAny M A (call (.type T) ([] ++ a.pos) a.kw) Q E s₁) E s := by
    rw [he] at h ⊢
    exact PyProof.Rows.evalArgs_kwB hall h
  unfold callWith
  refine wpAny_bind (wpAny_holding (wpAny_mono core (fun a s1 h1 => wpAny_bind (wpAny_standAt ?_)) fun _ _ x => x))
  simp only [hplain, hkw, Bool.or_false]
  exact wpAny_bind (wpAny_pure (wpAny_bind (wpAny_mono h1 (fun r s2 hr => wpAny_bind (wpAny_holding (wpAny_point (wpAny_pure hr)))) fun _ _ x => x)))
theorem i_zipX {fs : PEn → Out (List Val)} {cj : Nat} (hg : Gl X "zip") (hm : X.mg "zip" = none) (ha : JA X W [e, e2] fs)
    (hst : backTo pos (starEach [e, e2] X.env) = (false, eval e X.env) :: backTo pos (starEach [e2] X.env) := by rfl) (hpl : (backTo pos (starEach [e, e2] X.env)).any (·.1) = false := by rfl) :
    JI X W (.Tuple elts kk tpos) (.Call (.Name "zip" p) [e, e2] [⟨some "strict", .Constant (.bool true) cj cp, kp⟩] pos) (iZipD true fs) := by
  refine ⟨fun pins s σ H R I h => ?_⟩
  refine wpAny_Call_Name_kw (ld_blt I hg hm PyProof.Rows.boot_zip (callWith_typeK (thn (ha.run pos pins s σ H _ I (zsrc_rd h)) fun us s1 ⟨vs, H1, I1, r1, q1⟩ => thn ((pk_cons (nm := some "strict") (kpos := kp) (pe_bl (b := true) (j := cj) (pos := cp)) pk_nil).run pos pins s1 σ H1 (fun ks H2 => ks = [.bl true] ∧ H2 = H1) I1 ⟨rfl, rfl⟩) fun ws s2 ⟨zs, H2, I2, r2, q2⟩ => ?_) hst hpl))
  obtain ⟨rfl, rfl⟩ := q2
  obtain ⟨wb, rfl, rb⟩ := Vals.one r2
  obtain rfl : wb = Value.bool true := rb
  obtain ⟨k1, k2, qa, qb, us', ws, es, fs', F, rfl, sub, h1, h2, d1, d2, hx, k⟩ := q1
  obtain ⟨u1, u2, rfl, ra, rb⟩ := Vals.two r1
  obtain rfl : u1 = Value.ref qa := ra
  obtain rfl : u2 = Value.ref qb := rb
  obtain ⟨its1, rv1, hs1, lt1⟩ := seqK_its I2 (seqK_mono sub h1)
  obtain ⟨its2, rv2, hs2, lt2⟩ := seqK_its I2 (seqK_mono sub h2)
  exact zipX_begins (beginsK k1 qa its1.toArray) (beginsK k2 qb its2.toArray) hs1 hs2 fun h' hz hTI hTO o1 o2 hk => zip_in (x := true) I2 sub h1 h2 d1 d2 hx hz hTI hTO o1 o2 hk k
end
end PD

/-! PDOps: operations on data. -/
namespace PD
open PySem PySem.Spec PyProof.Rows L2
abbrev Wd (K : PySem.W.Frag) (F H : Hp) (z : Rs) (Q : VK) : Prop := ∀ x F' H', Grow F H F' H' → RR K H F' H' x z → Q x H'
section
variable {K : PySem.W.Frag} {F H : Hp} {x y : V} {Q : VK} {d e : PyData} {z : Rs}
theorem Wd.old (q : Wd K F H (.v d) Q) (s : Same F H) (h : DV K F x d) : Q x H := q x F H (Grow.refl s) h
theorem Wd.int {n : Int} (q : Wd K F H (.v (.int n)) Q) (s : Same F H) : Q (.int n) H := q.old s (.int n)
theorem Wd.bl {n : Bool} (q : Wd K F H (.v (.bool n)) Q) (s : Same F H) : Q (.bl n) H := q.old s (.bl n)
theorem Wd.str {n : Str} (q : Wd K F H (.v (.str n)) Q) (s : Same F H) : Q (.str n) H := q.old s (.str n)
theorem Wd.tup {vs : List V} {ds : List PyData} (q : Wd K F H (.v (.tuple ds)) Q) (s : Same F H) (h : DVs K F vs ds) : ∀ p, H p = none → Q (.ref p) (upd H p (.tup vs)) := fun p hp =>
  let G := Grow.new (o := HO.tup vs) s hp
  q (.ref p) _ _ G (.tup (.inl (.inl upd_same)) (DVs.mono G.ff h))
theorem Wd.lst {vs : List V} {ds : List PyData} (q : Wd K F H (.n ds) Q) (s : Same F H) (h : DVs K F vs ds) : ∀ p, H p = none → Q (.ref p) (upd H p (.lst vs)) := fun p hp =>
  q (.ref p) _ _ (Grow.free s hp) ⟨p, vs, rfl, hp, s.free hp, upd_same, h⟩
theorem rd2_cases {g : PyData → PyData → Option Rs} (h : rd2 K g x y H Q) : ∃ F d e z, Same F H ∧ DW K F H x d ∧ DW K F H y e ∧ g d e = some z ∧ Wd K F H z Q := by
  obtain ⟨F, ds, z, s, p, e, q⟩ := h
  cases p with
  | cons h1 p =>
    cases p with
    | cons h2 p =>
      cases p
      exact ⟨F, _, _, z, s, h1, h2, e, q⟩
theorem rd1_cases {g : PyData → Option Rs} (h : rd1 K g x H Q) : ∃ F d z, Same F H ∧ DW K F H x d ∧ g d = some z ∧ Wd K F H z Q := by
  obtain ⟨F, ds, z, s, p, e, q⟩ := h
  cases p with
  | cons h1 p =>
    cases p
    exact ⟨F, _, z, s, h1, e, q⟩
theorem DW.int {n : Int} (h : DW K F H x (.int n)) : x = .int n := by cases h with | fr h => cases h; rfl
theorem DW.bl {n : Bool} (h : DW K F H x (.bool n)) : x = .bl n := by cases h with | fr h => cases h; rfl
theorem DW.str {n : Str} (h : DW K F H x (.str n)) : x = .str n := by cases h with | fr h => cases h; rfl
theorem DW.non (h : DW K F H x .none) : x = .non := by cases h with | fr h => cases h; rfl
end
/-- ops by their parts -/
theorem opBy {X : Cx} {f : Value → Value → Sem Value} {r' : R2} (h : ∀ x y H Q, r' x y H Q → ∃ r, OpR X f r ∧ r x y H Q) : OpR X f r' := fun pins s σ H x y v u Q I rx ry q =>
  let ⟨_, o, q⟩ := h x y H Q q
  o pins s σ H x y v u Q I rx ry q
theorem ixBy {X : Cx} {r' : R2} (h : ∀ x y H Q, r' x y H Q → ∃ r, IxR X r ∧ r x y H Q) : IxR X r' := fun value slice pins s σ H x y v u Q I rx ry q hs =>
  let ⟨_, o, q⟩ := h x y H Q q
  o value slice pins s σ H x y v u Q I rx ry q hs
theorem slBy {X : Cx} {r' : V → Option Int → Option Int → Hp → VK → Prop} (h : ∀ x l u H Q, r' x l u H Q → ∃ r, SlR X r ∧ r x l u H Q) : SlR X r' := fun pins s σ H x v vl vu lo hi sl Q I rx hs pl pu q =>
  let ⟨_, o, q⟩ := h x lo hi H Q q
  o pins s σ H x v vl vu lo hi sl Q I rx hs pl pu q
theorem unBy {X : Cx} {f : Value → Sem Value} {r' : V → Hp → VK → Prop} (h : ∀ x H Q, r' x H Q → ∃ r, UnR X f r ∧ r x H Q) : UnR X f r' := fun pins s σ H x v Q I rx q =>
  let ⟨_, o, q⟩ := h x H Q q
  o pins s σ H x v Q I rx q
theorem clBy {X : Cx} {f : Value} {r' : List V → Hp → VK → Prop} (h : ∀ xs H Q, r' xs H Q → ∃ r, CallR X f r ∧ r xs H Q) : CallR X f r' := fun pins s σ H xs us Q I rs q =>
  let ⟨_, o, q⟩ := h xs H Q q
  o pins s σ H xs us Q I rs q

/-! ### + - * // % ** -/
section
variable {X : Cx}
def rCatL (K : PySem.W.Frag) : R2 := fun x y H Q => ∃ l b xs zs, x = .ref l ∧ y = .ref b ∧ SqL K H l xs ∧ SqL K H b zs ∧ xs.length + zs.length ≤ sizeLine ∧ ∀ p, H p = none → Q (.ref p) (upd H p (.lst (xs ++ zs)))
theorem op_catL : OpR X (binaryOp .Add) (rCatL X.K) := by
  intro pins s σ H x y v u Q I rx ry h
  obtain ⟨l, b, xs, zs, rfl, rfl, h1, h2, hz, q⟩ := h
  cases rx
  cases ry
  obtain ⟨its, r, p, _⟩ := I.list h1
  obtain ⟨its2, r2, p2, _⟩ := I.list h2
  obtain ⟨⟨cls, dd, data, sl⟩, n, ho, hc, _, hd⟩ := p
  obtain ⟨⟨cls2, dd2, data2, sl2⟩, n2, ho2, hc2, _, hd2⟩ := p2
  simp only at hc hd hc2 hd2
  subst hc hd hc2 hd2
  have hl := r.length
  have hl2 := r2.length
  refine concat_meets ⟨_, ho, rfl⟩ ⟨_, ho2, rfl⟩ noFill_list_add seq_list_add PySem.F.slot_list_add PySem.F.entry_list_add (PySem.F.args_list_add_2 _ _)
    (list_addW l b its.toArray its2.toArray n n2 dd dd2 sl sl2 (by rw [List.size_toArray, List.size_toArray]; omega)) ⟨ho, ho2, ?_⟩
  have ea : its.toArray ++ its2.toArray = (its ++ its2).toArray := by simp
  rw [ea]
  exact ⟨.ref _, _, I.lnew (t' := s.toks) (r.append r2) (by rw [List.length_append]; omega), rfl, q _ I.fresh⟩
def gAdd : PyData → PyData → Option Rs
  | .int i, .int j => some (.v (.int (i + j)))
  | .str a, .str b => if a.length + b.length ≤ many then some (.v (.str (a ++ b))) else none
  | .tuple xs, .tuple ys => if xs.length + ys.length ≤ many then some (.v (.tuple (xs ++ ys))) else none
  | .list xs, .list ys => if xs.length + ys.length ≤ many then some (.n (xs ++ ys)) else none
  | _, _ => none
theorem o_add : OpR X (binaryOp .Add) (rd2 X.K gAdd) := opBy fun x y H Q h => by
  obtain ⟨F, d, e, z, s, hx, hy, g, q⟩ := rd2_cases h
  unfold gAdd at g
  split at g
  · obtain rfl := Option.some.inj g
    exact ⟨_, op_add, _, _, hx.int, hy.int, q.int s⟩
  · split at g
    · rename_i hz
      obtain rfl := Option.some.inj g
      exact ⟨_, op_add_str, _, _, hx.str, hy.str, Nat.le_trans hz many_le, q.str s⟩
    · cases g
  · split at g
    · rename_i xs ys hz
      obtain rfl := Option.some.inj g
      obtain ⟨a, vs, rfl, h1, f1, r1⟩ := hx.tup s
      obtain ⟨b, ws, rfl, h2, f2, r2⟩ := hy.tup s
      have l1 := r1.len
      have l2 := r2.len
      refine ⟨_, op_catA, a, b, vs, ws, rfl, rfl, h1, h2, by rw [l1, l2]; exact Nat.le_trans hz many_le, fun e => ?_, fun _ e => ?_, fun _ _ => q.tup s (r1.app r2)⟩
      · subst e
        cases r1
        exact q.old s (.tup f2 r2)
      · subst e
        cases r2
        rw [List.append_nil] at q
        exact q.old s (.tup f1 r1)
    · cases g
  · split at g
    · rename_i xs ys hz
      obtain rfl := Option.some.inj g
      obtain ⟨a, vs, rfl, h1, r1⟩ := hx.list s
      obtain ⟨b, ws, rfl, h2, r2⟩ := hy.list s
      have l1 := r1.len
      have l2 := r2.len
      exact ⟨_, op_catL, a, b, vs, ws, rfl, rfl, h1, h2, by rw [l1, l2]; exact Nat.le_trans hz many_le, q.lst s (r1.app r2)⟩
    · cases g
  · cases g
def gSub : PyData → PyData → Option Rs
  | .int i, .int j => some (.v (.int (i - j)))
  | _, _ => none
theorem o_sub : OpR X (binaryOp .Sub) (rd2 X.K gSub) := opBy fun x y H Q h => by
  obtain ⟨F, d, e, z, s, hx, hy, g, q⟩ := rd2_cases h
  unfold gSub at g
  split at g
  · obtain rfl := Option.some.inj g
    exact ⟨_, op_sub, _, _, hx.int, hy.int, q.int s⟩
  · cases g
theorem rep_dvs {K : PySem.W.Frag} {H : Hp} {vs : List V} {ds : List PyData} (h : DVs K H vs ds) : ∀ n : Nat, DVs K H (List.replicate n vs).flatten (List.replicate n ds).flatten
  | 0 => .nil
  | n + 1 => by
    rw [List.replicate_succ, List.replicate_succ, List.flatten_cons, List.flatten_cons]
    exact h.app (rep_dvs h n)
def rRepL (K : PySem.W.Frag) : R2 := fun x y H Q => ∃ l k xs, x = .ref l ∧ y = .int k ∧ SqL K H l xs ∧ -(2 ^ 63) ≤ k ∧ k < 2 ^ 63 ∧ xs.length * k.toNat ≤ sizeLine ∧
  ∀ p, H p = none → Q (.ref p) (upd H p (.lst (List.replicate k.toNat xs).flatten))
end
end PD

/-! PDMul: products. -/
namespace PD
open PySem PySem.Spec PyProof.Rows L2
theorem tmul_one (l : Addr) (its : Array Value) (n : Nat) (dd : Option Addr) (sl : Array (Option Value)) (u : Tok) (he : its.isEmpty = false) :
    Meets (Builtin.«tuple.__mul__» ⟨[.ref l, .int 1 u], []⟩) (fun _ R s => s.heap.get? l = some { cls := .type "tuple", dict := dd, data := .seq its n, slots := sl } ∧
      ∀ tk, R (.ok (.ret (.ref l))) { s with toks := tk }) :=
  .of_wp fun prog w A R s h => by
    obtain ⟨hp, g, d, tk, os⟩ := s
    obtain ⟨hl, h⟩ := h
    have f1 := AutoSeq1.idx_int
    wp_walk using wpAny_loadPart' hl
    repeat (first
      | (refine wpAny_ite_false (decide_eq_false (by decide)) ?_; wp_walk using wpAny_loadPart' hl)
      | (refine wpAny_ite_true (decide_eq_true (by simp)) ?_; wp_walk using wpAny_loadPart' hl))
    exact ⟨_, rfl, h tk⟩
theorem tmul_nil (l : Addr) (its : Array Value) (n : Nat) (dd : Option Addr) (sl : Array (Option Value)) (x : Int) (u : Tok) (c0 : (decide (x < -(2 ^ 63)) || decide (x ≥ 2 ^ 63)) = false) (c1 : (its.isEmpty || x == 1) = false) (c2 : (decide (x ≤ 0) || its.isEmpty) = true) :
    Meets (Builtin.«tuple.__mul__» ⟨[.ref l, .int x u], []⟩) (fun _ R s => s.heap.get? l = some { cls := .type "tuple", dict := dd, data := .seq its n, slots := sl } ∧
      R (.ok (.ret (Value.ref s.heap.objs.size))) { s with heap := s.heap.push { cls := Value.type "tuple", data := Data.seq #[] }, toks := s.toks }) :=
  .of_wp fun prog w A R s h => by
    obtain ⟨hp, g, d, tk, os⟩ := s
    obtain ⟨hl, h⟩ := h
    have f1 := AutoSeq1.idx_int
    wp_walk using wpAny_loadPart' hl
    repeat (first
      | (refine wpAny_ite_false (decide_eq_false (by rw [c0]; exact Bool.false_ne_true)) ?_; wp_walk using wpAny_loadPart' hl)
      | (refine wpAny_ite_false (decide_eq_false (by rw [c1]; exact Bool.false_ne_true)) ?_; wp_walk using wpAny_loadPart' hl)
      | (refine wpAny_ite_true (decide_eq_true (by rw [c2])) ?_; wp_walk using wpAny_loadPart' hl))
    exact ⟨_, rfl, h⟩
theorem lmul_any (l : Addr) (its : Array Value) (n : Nat) (dd : Option Addr) (sl : Array (Option Value)) (x : Int) (u : Tok) (c0 : ¬(!Builtin.List.listFitsIndex x) = true) (c1 : ¬its.size * x.toNat > (2 ^ 63 - 1) / 8) (c2 : ¬Builtin.List.listTooLong (its.size * x.toNat) = true) :
    Meets (Builtin.«list.__mul__» ⟨[.ref l, .int x u], []⟩) (fun _ R s => s.heap.get? l = some { cls := .type "list", dict := dd, data := .seq its n, slots := sl } ∧
      R (.ok (.ret (Value.ref s.heap.objs.size))) { s with heap := s.heap.push { cls := Value.type "list", data := Data.seq (List.foldl (fun x1 x2 => x1 ++ x2) #[] (List.replicate (if its.isEmpty = true then 0 else x.toNat) its)) }, toks := s.toks }) :=
  .of_wp fun prog w A R s h => by
    obtain ⟨hp, g, d, tk, os⟩ := s
    obtain ⟨hl, h⟩ := h
    have fits := PySem.AutoListH.joined_fits c2
    wp_walk
    refine wpAny_ite_false (decide_eq_false (Nat.not_lt.mpr fits)) ?_
    wp_walk
    exact ⟨_, rfl, h⟩
theorem int_rmul_list (a : Int) (t : Tok) (l : Addr) (its : Array Value) (n : Nat) (dd : Option Addr) (sl : Array (Option Value)) :
    Meets (Builtin.«int.__rmul__» ⟨[.int a t, .ref l], []⟩) (fun _ R s => s.heap.get? l = some { cls := .type "list", dict := dd, data := .seq its n, slots := sl } ∧ R (.ok (.ret Value.notImplemented)) s) :=
  .of_wp fun prog w A R s h => by
    obtain ⟨hp, g, d, tk, os⟩ := s
    obtain ⟨hl, h⟩ := h
    wp_walk using wpAny_loadPart' hl
    exact ⟨_, rfl, h⟩
section
variable {X : Cx}
theorem op_repL : OpR X (binaryOp .Mult) (rRepL X.K) := by
  intro pins s σ H x y v u Q I rx ry h
  obtain ⟨l, k, xs, rfl, rfl, hL, h1, h2, hz, q⟩ := h
  cases rx
  obtain ⟨t, rfl⟩ := ry
  obtain ⟨its, r, ⟨⟨cls, dd, data, sl⟩, n, ho, hc, hdn, hd⟩, _⟩ := I.list hL
  simp only at hc hd
  subst hc hd
  have hl := r.length
  have c1 : its.toArray.size * k.toNat ≤ sizeLine := by rw [List.size_toArray, ← hl]; exact hz
  have c2 : ¬ its.toArray.size * k.toNat > (2 ^ 63 - 1) / 8 := by
    have : (sizeLine : Nat) ≤ (2 ^ 63 - 1) / 8 := by decide
    omega
  have c3 : ¬ (!Builtin.List.listFitsIndex k) = true := by
    rw [fitsIndex_both h1 h2]
    exact Bool.false_ne_true
  have c4 : ¬ Builtin.List.listTooLong (its.toArray.size * k.toNat) = true := by
    rw [notLongL c1]
    exact Bool.false_ne_true
  have e : List.foldl (fun x1 x2 => x1 ++ x2) #[] (List.replicate (if its.toArray.isEmpty = true then 0 else k.toNat) its.toArray) = (List.replicate k.toNat its).flatten.toArray := by
    rw [size_rep]
    cases its with
    | nil => simp
    | cons a r' => rw [if_neg (by simp)]
  refine wpAny_binaryOp_repeat_ref (T := "list") (U := "int") (by decide) ⟨_, ho, rfl⟩ (fun s' => typeIs_int s' k t) noFill_list_mul PySem.F.fills_int_mul PySem.F.slot_int_rmul repeat_list PySem.F.slot_int_index.lookup ?_
  refine call_meets PySem.F.slot_int_rmul (typeIs_int s k t) PySem.F.entry_int_rmul (PySem.F.args_int_rmul_2 _ _) (int_rmul_list k t l its.toArray n dd sl) ⟨ho, rfl, ⟨_, ho, rfl⟩, ?_⟩
  refine call_meets PySem.F.slot_list_mul ⟨_, ho, rfl⟩ PySem.F.entry_list_mul (PySem.F.args_list_mul_2 _ _) (lmul_any l its.toArray n dd sl k t c3 c2 c4) ⟨ho, ?_⟩
  rw [e]
  exact ⟨.ref _, _, I.lnew (t' := s.toks) (r.rep k.toNat) (by rw [PyProof.Rows.lm_len_rep_flat, Nat.mul_comm]; exact hz), rfl, q _ I.fresh⟩
end
section
variable {X : Cx}
/-- t * k, all k up to 1000 -/
def rRepA (K : PySem.W.Frag) : R2 := fun x y H Q => ∃ l k xs, x = .ref l ∧ y = .int k ∧ SqT K H l xs ∧ xs ≠ [] ∧ 0 ≤ k ∧ k ≤ 1000 ∧ xs.length ≤ 1000 ∧ (k = 1 → Q (.ref l) H) ∧ (k ≠ 1 → ∀ p, H p = none → Q (.ref p) (upd H p (.tup (List.replicate k.toNat xs).flatten)))
theorem op_repA : OpR X (binaryOp .Mult) (rRepA X.K) := by
  intro pins s σ H x y v u Q I rx ry h
  obtain ⟨l, k, xs, rfl, rfl, hT, hne, h0, h1, hz, q1, q⟩ := h
  by_cases h2 : 2 ≤ k
  · exact op_repT pins s σ H _ _ v u Q I rx ry ⟨l, k, xs, rfl, rfl, hT, hne, h2, h1, hz, q (by omega)⟩
  cases rx
  obtain ⟨t, rfl⟩ := ry
  obtain ⟨its, r, ⟨⟨cls, dd, data, sl⟩, ho, hc, n, hd⟩, hs⟩ := I.tuple hT
  simp only at hc hd
  subst hc hd
  have hi : its.toArray.isEmpty = false := by
    cases its with
    | nil => cases r; exact absurd rfl hne
    | cons a b => rfl
  by_cases hk : k = 1
  · subst hk
    refine wpAny_binaryOp_repeat_ref (T := "tuple") (U := "int") (by decide) ⟨_, ho, rfl⟩ (fun s' => typeIs_int s' 1 t) noFill_tuple_mul PySem.F.fills_int_mul PySem.F.slot_int_rmul repeat_tuple PySem.F.slot_int_index.lookup ?_
    refine call_meets PySem.F.slot_int_rmul (typeIs_int s 1 t) PySem.F.entry_int_rmul (PySem.F.args_int_rmul_2 _ _) (int_rmul_tuple 1 t l its.toArray n dd sl) ⟨ho, rfl, ⟨_, ho, rfl⟩, ?_⟩
    refine call_meets PySem.F.slot_tuple_mul ⟨_, ho, rfl⟩ PySem.F.entry_tuple_mul (PySem.F.args_tuple_mul_2 _ _) (tmul_one l its.toArray n dd sl t hi) ⟨ho, fun tk => ?_⟩
    exact ⟨.ref l, H, I.tok _, rfl, q1 rfl⟩
  · have k0 : k = 0 := by omega
    subst k0
    refine wpAny_binaryOp_repeat_ref (T := "tuple") (U := "int") (by decide) ⟨_, ho, rfl⟩ (fun s' => typeIs_int s' 0 t) noFill_tuple_mul PySem.F.fills_int_mul PySem.F.slot_int_rmul repeat_tuple PySem.F.slot_int_index.lookup ?_
    refine call_meets PySem.F.slot_int_rmul (typeIs_int s 0 t) PySem.F.entry_int_rmul (PySem.F.args_int_rmul_2 _ _) (int_rmul_tuple 0 t l its.toArray n dd sl) ⟨ho, rfl, ⟨_, ho, rfl⟩, ?_⟩
    refine call_meets PySem.F.slot_tuple_mul ⟨_, ho, rfl⟩ PySem.F.entry_tuple_mul (PySem.F.args_tuple_mul_2 _ _) (tmul_nil l its.toArray n dd sl 0 t (by decide) (by rw [hi]; rfl) rfl) ⟨ho, ?_⟩
    have q := q (by omega)
    refine ⟨.ref s.heap.objs.size, upd H s.heap.objs.size (.tup []), I.laid (t' := s.toks) (fun b u e => Heap.get?_push_of_some _ e) (Nat.le_refl _) ?_, rfl, q _ I.fresh⟩
    exact ⟨Nat.zero_le _, [], .nil, ⟨_, Heap.get?_push_size _ rfl, rfl, _, rfl⟩⟩
def gMul : PyData → PyData → Option Rs
  | .int i, .int j => if i.natAbs.log2 + j.natAbs.log2 < 1000000 ∨ ((-(2 ^ 64) < i ∧ i < 2 ^ 64) ∨ (-(2 ^ 64) < j ∧ j < 2 ^ 64)) then some (.v (.int (i * j))) else none
  | .tuple xs, .int k => if xs ≠ [] ∧ 0 ≤ k ∧ k ≤ 1000 ∧ xs.length ≤ 1000 then some (.v (.tuple (List.replicate k.toNat xs).flatten)) else none
  | .list xs, .int k => if 0 ≤ k ∧ k ≤ 1000 ∧ xs.length ≤ 1000 then some (.n (List.replicate k.toNat xs).flatten) else none
  | _, _ => none
theorem o_mul : OpR X (binaryOp .Mult) (rd2 X.K gMul) := opBy fun x y H Q h => by
  obtain ⟨F, d, e, z, s, hx, hy, g, q⟩ := rd2_cases h
  unfold gMul at g
  split at g
  · split at g
    · rename_i hb
      obtain rfl := Option.some.inj g
      rcases hb with hb | hb
      · exact ⟨_, op_mulW, _, _, hx.int, hy.int, hb, q.int s⟩
      · exact ⟨_, op_mul, _, _, hx.int, hy.int, hb, q.int s⟩
    · cases g
  · split at g
    · rename_i xs k hb
      obtain rfl := Option.some.inj g
      obtain ⟨a, vs, rfl, h1, f1, r1⟩ := hx.tup s
      have l1 := r1.len
      refine ⟨_, op_repA, a, k, vs, rfl, hy.int, h1, fun e => hb.1 (List.eq_nil_of_length_eq_zero (by rw [← l1, e]; rfl)), hb.2.1, hb.2.2.1, by omega, fun e => ?_, fun _ => q.tup s (rep_dvs r1 _)⟩
      subst e
      exact q.old s (.tup f1 (by simpa using r1))
    · cases g
  · split at g
    · rename_i xs k hb
      obtain rfl := Option.some.inj g
      obtain ⟨a, vs, rfl, h1, r1⟩ := hx.list s
      have l1 := r1.len
      have hm : vs.length * k.toNat ≤ 1000 * 1000 := Nat.mul_le_mul (by omega) (by omega)
      exact ⟨_, op_repL, a, k, vs, rfl, hy.int, h1, by omega, by omega, Nat.le_trans hm (by decide), q.lst s (rep_dvs r1 _)⟩
    · cases g
  · cases g
end
end PD

/-! PDData: more operations: // % ** neg, comparisons, places, slices, built-in functions. -/
namespace PD
open PySem PySem.Spec PyProof.Rows L2
section
variable {X : Cx}
def gMod : PyData → PyData → Option Rs
  | .int i, .int j => if j ≠ 0 then some (.v (.int (i.fmod j))) else none
  | _, _ => none
theorem o_mod : OpR X (binaryOp .Mod) (rd2 X.K gMod) := opBy fun x y H Q h => by
  obtain ⟨F, d, e, z, s, hx, hy, g, q⟩ := rd2_cases h
  unfold gMod at g
  split at g
  · split at g
    · rename_i hb
      obtain rfl := Option.some.inj g
      exact ⟨_, op_modN, _, _, hx.int, hy.int, hb, q.int s⟩
    · cases g
  · cases g
def gFdiv : PyData → PyData → Option Rs
  | .int i, .int j => if 0 < j ∧ j.natAbs.log2 < 9000 then some (.v (.int (i / j))) else none
  | _, _ => none
theorem o_fdiv : OpR X (binaryOp .FloorDiv) (rd2 X.K gFdiv) := opBy fun x y H Q h => by
  obtain ⟨F, d, e, z, s, hx, hy, g, q⟩ := rd2_cases h
  unfold gFdiv at g
  split at g
  · split at g
    · rename_i hb
      obtain rfl := Option.some.inj g
      exact ⟨_, op_fdivW, _, _, hx.int, hy.int, hb, q.int s⟩
    · cases g
  · cases g
def gPow : PyData → PyData → Option Rs
  | .int i, .int j => if 0 ≤ j ∧ j ≤ 1000000 ∧ i.natAbs < 2 ^ 64 then some (.v (.int (i ^ j.toNat))) else none
  | _, _ => none
theorem o_pow : OpR X (binaryOp .Pow) (rd2 X.K gPow) := opBy fun x y H Q h => by
  obtain ⟨F, d, e, z, s, hx, hy, g, q⟩ := rd2_cases h
  unfold gPow at g
  split at g
  · split at g
    · rename_i hb
      obtain rfl := Option.some.inj g
      exact ⟨_, op_pow, _, _, hx.int, hy.int, hb, q.int s⟩
    · cases g
  · cases g
def gNeg : PyData → Option Rs
  | .int i => some (.v (.int (-i)))
  | _ => none
theorem o_neg : UnR X (unaryOp .USub) (rd1 X.K gNeg) := unBy fun x H Q h => by
  obtain ⟨F, d, z, s, hx, g, q⟩ := rd1_cases h
  unfold gNeg at g
  split at g
  · obtain rfl := Option.some.inj g
    exact ⟨_, un_neg, _, hx.int, q.int s⟩
  · cases g
/-! ### comparisons -/
def gLt : PyData → PyData → Option Rs
  | .int i, .int j => some (.v (.bool (decide (i < j))))
  | _, _ => none
def gLe : PyData → PyData → Option Rs
  | .int i, .int j => some (.v (.bool (decide (i ≤ j))))
  | _, _ => none
def gGt : PyData → PyData → Option Rs
  | .int i, .int j => some (.v (.bool (decide (j < i))))
  | _, _ => none
def gGe : PyData → PyData → Option Rs
  | .int i, .int j => some (.v (.bool (decide (j ≤ i))))
  | _, _ => none
theorem o_lt : OpR X (compareOp .Lt) (rd2 X.K gLt) := opBy fun x y H Q h => by
  obtain ⟨F, d, e, z, s, hx, hy, g, q⟩ := rd2_cases h
  unfold gLt at g
  split at g
  · obtain rfl := Option.some.inj g
    exact ⟨_, op_lt, _, _, hx.int, hy.int, q.bl s⟩
  · cases g
theorem o_le : OpR X (compareOp .LtE) (rd2 X.K gLe) := opBy fun x y H Q h => by
  obtain ⟨F, d, e, z, s, hx, hy, g, q⟩ := rd2_cases h
  unfold gLe at g
  split at g
  · obtain rfl := Option.some.inj g
    exact ⟨_, op_le, _, _, hx.int, hy.int, q.bl s⟩
  · cases g
theorem o_gt : OpR X (compareOp .Gt) (rd2 X.K gGt) := opBy fun x y H Q h => by
  obtain ⟨F, d, e, z, s, hx, hy, g, q⟩ := rd2_cases h
  unfold gGt at g
  split at g
  · obtain rfl := Option.some.inj g
    exact ⟨_, op_gt, _, _, hx.int, hy.int, q.bl s⟩
  · cases g
theorem o_ge : OpR X (compareOp .GtE) (rd2 X.K gGe) := opBy fun x y H Q h => by
  obtain ⟨F, d, e, z, s, hx, hy, g, q⟩ := rd2_cases h
  unfold gGe at g
  split at g
  · obtain rfl := Option.some.inj g
    exact ⟨_, op_ge, _, _, hx.int, hy.int, q.bl s⟩
  · cases g
def strs2 : PyData → PyData → Option (Str × Str)
  | .str a, .str b => some (a, b)
  | _, _ => none
theorem strs2_eq {d e : PyData} {p : Str × Str} (h : strs2 d e = some p) : d = .str p.1 ∧ e = .str p.2 := by
  unfold strs2 at h
  split at h
  · cases h; exact ⟨rfl, rfl⟩
  · cases h
/-- what == and != are known of: values without dicts; any tuple against () -/
def eqOk (d e : PyData) : Bool := (d.plain && e.plain && decide (d.depth ≤ 64)) || (match d, e with
  | .tuple _, .tuple [] => true
  | _, _ => false)
def gEq (d e : PyData) : Option Rs := if eqOk d e = true then some (.v (.bool (PyData.eqv d e))) else none
def gNe (d e : PyData) : Option Rs := if eqOk d e = true then some (.v (.bool (!PyData.eqv d e))) else none
theorem eqOk_plain {d e : PyData} (h1 : d.plain = true) (h2 : e.plain = true) (h3 : d.depth ≤ 64) : eqOk d e = true := by
  unfold eqOk
  rw [h1, h2, decide_eq_true h3]
  rfl
theorem gEq_pl {d e : PyData} (h1 : d.plain = true) (h2 : e.plain = true) (h3 : d.depth ≤ 64) : gEq d e = some (.v (.bool (PyData.eqv d e))) := if_pos (eqOk_plain h1 h2 h3)
theorem gNe_pl {d e : PyData} (h1 : d.plain = true) (h2 : e.plain = true) (h3 : d.depth ≤ 64) : gNe d e = some (.v (.bool (!PyData.eqv d e))) := if_pos (eqOk_plain h1 h2 h3)
theorem gEq_sh {d e : PyData} (h : strs2 d e = none) (h1 : SeqAt.shaped d = true) (h2 : SeqAt.shaped e = true) : gEq d e = some (.v (.bool (PyData.eqv d e))) :=
  gEq_pl (PyData.plain_of_canLay0 _ (SeqAt.canLay_of_shaped h1)) (PyData.plain_of_canLay0 _ (SeqAt.canLay_of_shaped h2)) (SeqAt.depth_of_shaped h1)
theorem gNe_sh {d e : PyData} (h : strs2 d e = none) (h1 : SeqAt.shaped d = true) (h2 : SeqAt.shaped e = true) : gNe d e = some (.v (.bool (!PyData.eqv d e))) :=
  gNe_pl (PyData.plain_of_canLay0 _ (SeqAt.canLay_of_shaped h1)) (PyData.plain_of_canLay0 _ (SeqAt.canLay_of_shaped h2)) (SeqAt.depth_of_shaped h1)
theorem gEq_tup0' (xs : List PyData) : gEq (.tuple xs) (.tuple []) = some (.v (.bool xs.isEmpty)) := by
  have e : PyData.eqv (.tuple xs) (.tuple []) = xs.isEmpty := by cases xs <;> rfl
  rw [← e]
  exact if_pos (Bool.or_eq_true_iff.mpr (.inr rfl))
theorem dec_strV {a b : Str} : decide (V.str a = V.str b) = decide (a = b) := by
  by_cases h : a = b
  · rw [h, decide_eq_true rfl, decide_eq_true rfl]
  · rw [decide_eq_false h, decide_eq_false fun e => h (by cases e; rfl)]
theorem o_eq (hu : X.A.units + 64 < cLine) : OpR X (compareOp .Eq) (rd2 X.K gEq) := by
  intro pins s σ H x y v u Q I rx ry h
  obtain ⟨F, d, e, z, s0, hx, hy, g, q⟩ := rd2_cases h
  unfold gEq at g
  split at g
  · rename_i hok
    obtain rfl := Option.some.inj g
    obtain ⟨as, r1⟩ := (hx.dv s0).reads I rx
    obtain ⟨bs, r2⟩ := (hy.dv s0).reads I ry
    rcases Bool.or_eq_true_iff.mp hok with hb | hb
    · rw [Bool.and_eq_true, Bool.and_eq_true, decide_eq_true_eq] at hb
      exact PySem.SeqAt.eq_plain r1 r2 hb.1.1 hb.1.2 (Nat.lt_of_le_of_lt (Nat.add_le_add_left (Nat.le_trans (Nat.min_le_left _ _) hb.2) _) hu) ⟨.bl _, H, I, rfl, q.bl s0⟩
    · split at hb
      · rename_i xs
        cases r1 with
        | @tuple _ _ vs _ _ _ h1 h2 h3 h4 =>
          cases r2 with
          | @tuple _ _ ws _ _ _ k1 k2 k3 k4 =>
            have n1 : vs.size = xs.length := by simpa using SeqAt.ReadsAll.length _ _ _ h4
            have n2 : ws.size = 0 := by simpa using SeqAt.ReadsAll.length _ _ _ k4
            have e0 : ((List.range (min vs.size ws.size)).all (fun _ => true) && vs.size == ws.size) = PyData.eqv (.tuple xs) (.tuple []) := by
              have n3 : PyData.eqv (.tuple xs) (.tuple []) = xs.isEmpty := by cases xs <;> rfl
              rw [n3, n1, n2, Nat.min_zero]
              cases xs <;> rfl
            refine SeqAt.RcAt.tuples (e := fun _ => true) ⟨_, h1, h2, _, h3⟩ ⟨_, k1, k2, _, k3⟩ (by omega) (fun j _ j2 => absurd j2 (by omega)) _ _ _ _ ?_
            rw [e0]
            exact ⟨.bl _, H, I, rfl, q.bl s0⟩
      · cases hb
  · cases g
theorem o_ne (hu : X.A.units + 64 < cLine) : OpR X (compareOp .NotEq) (rd2 X.K gNe) := by
  intro pins s σ H x y v u Q I rx ry h
  obtain ⟨F, d, e, z, s0, hx, hy, g, q⟩ := rd2_cases h
  unfold gNe at g
  split at g
  · rename_i hok
    obtain rfl := Option.some.inj g
    obtain ⟨as, r1⟩ := (hx.dv s0).reads I rx
    obtain ⟨bs, r2⟩ := (hy.dv s0).reads I ry
    rcases Bool.or_eq_true_iff.mp hok with hb | hb
    · rw [Bool.and_eq_true, Bool.and_eq_true, decide_eq_true_eq] at hb
      exact PySem.SeqAt.ne_plain r1 r2 hb.1.1 hb.1.2 (Nat.lt_of_le_of_lt (Nat.add_le_add_left (Nat.le_trans (Nat.min_le_left _ _) hb.2) _) hu) ⟨.bl _, H, I, rfl, q.bl s0⟩
    · split at hb
      · rename_i xs
        cases r1 with
        | @tuple _ _ vs _ _ _ h1 h2 h3 h4 =>
          cases r2 with
          | @tuple _ _ ws _ _ _ k1 k2 k3 k4 =>
            have n1 : vs.size = xs.length := by simpa using SeqAt.ReadsAll.length _ _ _ h4
            have n2 : ws.size = 0 := by simpa using SeqAt.ReadsAll.length _ _ _ k4
            have e0 : ((List.range (min vs.size ws.size)).all (fun _ => true) && vs.size == ws.size) = PyData.eqv (.tuple xs) (.tuple []) := by
              have n3 : PyData.eqv (.tuple xs) (.tuple []) = xs.isEmpty := by cases xs <;> rfl
              rw [n3, n1, n2, Nat.min_zero]
              cases xs <;> rfl
            refine SeqAt.RcNeAt.tuples (e := fun _ => true) ⟨_, h1, h2, _, h3⟩ ⟨_, k1, k2, _, k3⟩ (by omega) (fun j _ j2 => absurd j2 (by omega)) _ _ _ _ ?_
            rw [e0]
            exact ⟨.bl _, H, I, rfl, q.bl s0⟩
      · cases hb
  · cases g
def isNone : PyData → Bool
  | .none => true
  | _ => false
theorem DV.isNone {K : PySem.W.Frag} {H : Hp} {x : V} {d : PyData} (h : DV K H x d) : decide (x = .non) = PD.isNone d := by
  cases h <;> first | rfl | exact decide_eq_false (fun z => nomatch z)
def gIs (d : PyData) : PyData → Option Rs
  | .none => some (.v (.bool (isNone d)))
  | .bool b => match d with
    | .bool a => some (.v (.bool (decide (a = b))))
    | _ => none
  | _ => none
def gIsNot (d : PyData) : PyData → Option Rs
  | .none => some (.v (.bool (!isNone d)))
  | .bool b => match d with
    | .bool a => some (.v (.bool (!decide (a = b))))
    | _ => none
  | _ => none
theorem o_is : OpR X (compareOp .Is) (rd2 X.K gIs) := opBy fun x y H Q h => by
  obtain ⟨F, d, e, z, s, hx, hy, g, q⟩ := rd2_cases h
  unfold gIs at g
  split at g
  · obtain rfl := Option.some.inj g
    have h := (hx.dv s).isNone
    exact ⟨_, op_isN, hy.non, by rw [h]; exact q.bl s⟩
  · split at g
    · obtain rfl := Option.some.inj g
      exact ⟨_, op_is_bl, _, _, hx.bl, hy.bl, q.bl s⟩
    · cases g
  · cases g
theorem o_isnot : OpR X (compareOp .IsNot) (rd2 X.K gIsNot) := opBy fun x y H Q h => by
  obtain ⟨F, d, e, z, s, hx, hy, g, q⟩ := rd2_cases h
  unfold gIsNot at g
  split at g
  · obtain rfl := Option.some.inj g
    have h := (hx.dv s).isNone
    exact ⟨_, op_notN, hy.non, by rw [h]; exact q.bl s⟩
  · split at g
    · obtain rfl := Option.some.inj g
      exact ⟨_, op_isnot_bl, _, _, hx.bl, hy.bl, q.bl s⟩
    · cases g
  · cases g
def gIn (d : PyData) : PyData → Option Rs
  | .list xs => if SeqAt.shaped d = true ∧ SeqAt.shaped (.list xs) = true then some (.v (.bool (xs.any fun z => PyData.eqv z d))) else none
  | .tuple xs => if SeqAt.shaped d = true ∧ SeqAt.shaped (.tuple xs) = true then some (.v (.bool (xs.any fun z => PyData.eqv z d))) else none
  | _ => none
def gNotIn (d : PyData) : PyData → Option Rs
  | .list xs => if SeqAt.shaped d = true ∧ SeqAt.shaped (.list xs) = true then some (.v (.bool (!xs.any fun z => PyData.eqv z d))) else none
  | .tuple xs => if SeqAt.shaped d = true ∧ SeqAt.shaped (.tuple xs) = true then some (.v (.bool (!xs.any fun z => PyData.eqv z d))) else none
  | _ => none
theorem o_in (hu : X.A.units + 65 < cLine) : OpR X (compareOp .In) (rd2 X.K gIn) := by
  intro pins s σ H x y v u Q I rx ry h
  obtain ⟨F, d, e, z, s0, hx, hy, g, q⟩ := rd2_cases h
  unfold gIn at g
  split at g
  · split at g
    · rename_i xs hb
      obtain rfl := Option.some.inj g
      obtain ⟨as, r1⟩ := (hx.dv s0).reads I rx
      obtain ⟨bs, r2⟩ := (hy.dv s0).reads I ry
      exact SeqAt.in_list_reads r2 r1 (SeqAt.canLay_of_shaped hb.2) (SeqAt.canLay_of_shaped hb.1) (room_in_shaped hb.1 hu) ⟨.bl _, H, I, rfl, q.bl s0⟩
    · cases g
  · split at g
    · rename_i xs hb
      obtain rfl := Option.some.inj g
      obtain ⟨as, r1⟩ := (hx.dv s0).reads I rx
      obtain ⟨bs, r2⟩ := (hy.dv s0).reads I ry
      exact SeqAt.in_tuple_reads r2 r1 (SeqAt.canLay_of_shaped hb.2) (SeqAt.canLay_of_shaped hb.1) (room_in_shaped hb.1 hu) ⟨.bl _, H, I, rfl, q.bl s0⟩
    · cases g
  · cases g
theorem o_notin (hu : X.A.units + 65 < cLine) : OpR X (compareOp .NotIn) (rd2 X.K gNotIn) := by
  intro pins s σ H x y v u Q I rx ry h
  obtain ⟨F, d, e, z, s0, hx, hy, g, q⟩ := rd2_cases h
  unfold gNotIn at g
  split at g
  · split at g
    · rename_i xs hb
      obtain rfl := Option.some.inj g
      obtain ⟨as, r1⟩ := (hx.dv s0).reads I rx
      obtain ⟨bs, r2⟩ := (hy.dv s0).reads I ry
      exact SeqAt.notIn_list_reads r2 r1 (SeqAt.canLay_of_shaped hb.2) (SeqAt.canLay_of_shaped hb.1) (room_in_shaped hb.1 hu) ⟨.bl _, H, I, rfl, q.bl s0⟩
    · cases g
  · split at g
    · rename_i xs hb
      obtain rfl := Option.some.inj g
      obtain ⟨as, r1⟩ := (hx.dv s0).reads I rx
      obtain ⟨bs, r2⟩ := (hy.dv s0).reads I ry
      exact SeqAt.notIn_tuple_reads r2 r1 (SeqAt.canLay_of_shaped hb.2) (SeqAt.canLay_of_shaped hb.1) (room_in_shaped hb.1 hu) ⟨.bl _, H, I, rfl, q.bl s0⟩
    · cases g
  · cases g
/-! ### places, slices -/
def gIx : PyData → PyData → Option Rs
  | .list xs, .int i => (atI xs i).map .v
  | .tuple xs, .int i => (atI xs i).map .v
  | .str z, .int i => if z.length ≤ many then (atI z.cps.toList i).map fun c => .v (.str ⟨#[c]⟩) else none
  | _, _ => none
theorem at_dvs {K : PySem.W.Frag} {H : Hp} {vs : List V} {ds : List PyData} (h : DVs K H vs ds) {i : Int} {d : PyData} (e : atI ds i = some d) : ∃ v, atI vs i = some v ∧ DV K H v d := by
  unfold atI at e ⊢
  rw [h.len]
  cases z : ixN ds.length i with
  | none => rw [z] at e; cases e
  | some j => rw [z] at e; exact h.at e
theorem o_ix : IxR X (rd2 X.K gIx) := ixBy fun x y H Q h => by
  obtain ⟨F, d, e, z, s, hx, hy, g, q⟩ := rd2_cases h
  unfold gIx at g
  split at g
  · rename_i xs i
    obtain ⟨w, e, rfl⟩ := Option.map_eq_some_iff.mp g
    obtain ⟨a, vs, rfl, h1, r1⟩ := hx.list s
    obtain ⟨v, e1, dv⟩ := at_dvs r1 e
    exact ⟨_, ix_list, a, vs, i, v, rfl, hy.int, h1, e1, q.old s dv⟩
  · rename_i xs i
    obtain ⟨w, e, rfl⟩ := Option.map_eq_some_iff.mp g
    obtain ⟨a, vs, rfl, h1, f1, r1⟩ := hx.tup s
    obtain ⟨v, e1, dv⟩ := at_dvs r1 e
    exact ⟨_, ix_tup, a, vs, i, v, rfl, hy.int, h1, e1, q.old s dv⟩
  · split at g
    · rename_i z i hz
      obtain ⟨w, e, rfl⟩ := Option.map_eq_some_iff.mp g
      exact ⟨_, ix_str, _, i, w, hx.str, hy.int, Nat.le_trans hz many_le, e, q.str s⟩
    · cases g
  · cases g
def cutD (xs : List PyData) (lo hi : Option Int) : List PyData := (xs.drop (HT.sIx xs.length 0 lo)).take (HT.sIx xs.length xs.length hi - HT.sIx xs.length 0 lo)
theorem cut_dvs {K : PySem.W.Frag} {H : Hp} {vs : List V} {ds : List PyData} (h : DVs K H vs ds) (lo hi : Option Int) : DVs K H (cutV vs lo hi) (cutD ds lo hi) := by
  unfold cutV cutD
  rw [h.len]
  exact (h.drop _).take _
def gSl (d : PyData) (lo hi : Option Int) : Option Rs := match d with
  | .list xs => some (.n (cutD xs lo hi))
  | .tuple xs => some (.v (.tuple (cutD xs lo hi)))
  | .str z => if z.length ≤ many then some (.v (.str (cutS z lo hi))) else none
  | _ => none
def rdSl (K : PySem.W.Frag) : V → Option Int → Option Int → Hp → VK → Prop := fun x lo hi H Q => rd1 K (fun d => gSl d lo hi) x H Q
theorem cut_all (xs : List PyData) {lo hi : Option Int} (h1 : HT.sIx xs.length 0 lo = 0) (h2 : HT.sIx xs.length xs.length hi = xs.length) : cutD xs lo hi = xs := by
  unfold cutD
  rw [h1, h2, List.drop_zero, Nat.sub_zero, List.take_length]
theorem o_sl : SlR X (rdSl X.K) := slBy fun x lo hi H Q h => by
  obtain ⟨F, d, z, s, hx, g, q⟩ := rd1_cases h
  unfold gSl at g
  split at g
  · obtain rfl := Option.some.inj g
    obtain ⟨a, vs, rfl, h1, r1⟩ := hx.list s
    exact ⟨_, sl_list, a, vs, rfl, h1, q.lst s (cut_dvs r1 lo hi)⟩
  · rename_i xs
    obtain rfl := Option.some.inj g
    obtain ⟨a, vs, rfl, h1, f1, r1⟩ := hx.tup s
    refine ⟨_, sl_tupA, a, vs, rfl, h1, fun e => ?_, fun _ => q.tup s (cut_dvs r1 lo hi)⟩
    rw [r1.len] at e
    rw [cut_all xs e.1 e.2] at q
    exact q.old s (.tup f1 r1)
  · split at g
    · rename_i z hz
      obtain rfl := Option.some.inj g
      exact ⟨_, sl_str, _, hx.str, Nat.le_trans hz many_le, q.str s⟩
    · cases g
  · cases g
/-- the parts of a slice -/
def rdO (K : PySem.W.Frag) (mg : Str → Option Value) (W : WX) (f : PEn → Out (Option Int)) : TO := fun σ H Q => ∃ F r, Rel K F r σ H ∧ Post K mg W r σ F H (f r) fun o _ _ H' => Q o H'
abbrev JO (X : Cx) (W : WX) (e : Option Expr) (f : PEn → Out (Option Int)) : Prop := PO X e (rdO X.K X.mg W f)
theorem po_mono {e : Option Expr} {t t' : TO} (h : PO X e t) (m : ∀ σ H Q, t' σ H Q → t σ H Q) : PO X e t' := ⟨fun pins s σ H Q I q => h.run pins s σ H Q I (m σ H Q q)⟩
def oNo : PEn → Out (Option Int) := fun r => .ok none r
def oInt (v : Val) : PEn → Out (Option Int) := fun r => match v with
  | .v (.int i) => .ok (some i) r
  | _ => .bad
def oYes (f : PEn → Out Val) : PEn → Out (Option Int) := fun r => (f r).bind oInt
variable {W : WX} {a : Expr} {lo hi : Option Expr} {pos p2 : Pos}
theorem jo_no : JO X W none oNo := po_mono po_none fun σ H Q h => by
  obtain ⟨F, r, R, q⟩ := h
  exact q F H R Stp.refl
theorem jo_yes {f : PEn → Out Val} (h : JE X W a f) : JO X W (some a) (oYes f) := po_mono (po_some h) fun σ H Q h => by
  obtain ⟨F, r, R, q⟩ := h
  refine ⟨F, r, R, q.bind.imp fun v r1 F1 H1 R1 S1 q1 x rx => ?_⟩
  unfold oInt at q1
  split at q1
  · rename_i i
    cases rx
    exact ⟨i, rfl, q1 F1 H1 R1 Stp.refl⟩
  · exact q1.elim
def eSl (fa : PEn → Out Val) (fl fh : PEn → Out (Option Int)) : PEn → Out Val := fun r => (fa r).bind fun v r1 => (fl r1).bind fun l r2 => (fh r2).bind fun u r3 => op1 (fun d => gSl d l u) v r3
theorem j_sl {fa : PEn → Out Val} {fl fh : PEn → Out (Option Int)} (ha : JE X W a fa) (hl : JO X W lo fl) (hh : JO X W hi fh) : JE X W (.Subscript a (.Slice lo hi none p2) pos) (eSl fa fl fh) := by
  refine pe_mono (pe_slice o_sl ha hl hh) fun σ H Q h => ?_
  obtain ⟨F, r, R, q⟩ := h
  refine ⟨F, r, R, q.bind.imp fun v r1 F1 H1 R1 S1 q1 x rx => ?_⟩
  refine ⟨F1, r1, R1, q1.bind.imp fun l r2 F2 H2 R2 S2 q2 => ?_⟩
  refine ⟨F2, r2, R2, q2.bind.imp fun u r3 F3 H3 R3 S3 q3 => ?_⟩
  exact fin1 R3 ((rx.step S2).step S3) (fwd (fun b n => S3.th b (S2.th b (S1.th b n))) q3)
end
end PD

/-! PDBuilt: built-in functions on data. -/
namespace PD
open PySem PySem.Spec PyProof.Rows L2
section
variable {X : Cx} {W : WX} {a b e : Expr} {pos p p2 : Pos}
theorem call1 {g : PyData → Option Rs} {f : PEn → Out Val} (h : ∀ {t}, PA X [a] t → PE X e (tCB (rdV X.K (on1 g)) t)) (ha : JE X W a f) (hs : starEach [a] X.env = (false, eval a X.env) :: starEach [] X.env := by rfl) : JE X W e (eOp1 g f) := by
  refine pe_mono (h (pa_cons ha pa_nil hs)) fun σ H Q h => ?_
  obtain ⟨F, r, R, q⟩ := h
  exact ⟨F, r, R, q.bind.imp fun v r1 F1 H1 R1 S1 q1 x rx => fin1 R1 rx (fwd S1.th q1)⟩
theorem call2 {g : PyData → PyData → Option Rs} {f f' : PEn → Out Val} (h : ∀ {t}, PA X [a, b] t → PE X e (tCB (rdV X.K (on2 g)) t)) (ha : JE X W a f) (hb : JE X W b f')
    (hs : starEach [a, b] X.env = (false, eval a X.env) :: starEach [b] X.env := by rfl) (hs2 : starEach [b] X.env = (false, eval b X.env) :: starEach [] X.env := by rfl) : JE X W e (eOp2 g f f') := by
  refine pe_mono (h (pa_cons ha (pa_cons hb pa_nil hs2) hs)) fun σ H Q h => ?_
  obtain ⟨F, r, R, q⟩ := h
  refine ⟨F, r, R, q.bind.imp fun v r1 F1 H1 R1 S1 q1 x rx => ?_⟩
  exact ⟨F1, r1, R1, q1.bind.imp fun w r2 F2 H2 R2 S2 q2 y ry => fin2 R2 (rx.step S2) ry (fwd (fun b n => S2.th b (S1.th b n)) q2)⟩
theorem on1_cases {K : PySem.W.Frag} {g : PyData → Option Rs} {xs : List V} {H : Hp} {Q : VK} (h : rdV K (on1 g) xs H Q) : ∃ x F d z, xs = [x] ∧ Same F H ∧ DW K F H x d ∧ g d = some z ∧ Wd K F H z Q := by
  obtain ⟨F, ds, z, s, p, e, q⟩ := h
  match ds, p, e with
  | [d], .cons h1 .nil, e => exact ⟨_, F, d, z, rfl, s, h1, e, q⟩
theorem on2_cases {K : PySem.W.Frag} {g : PyData → PyData → Option Rs} {xs : List V} {H : Hp} {Q : VK} (h : rdV K (on2 g) xs H Q) : ∃ x y F d d' z, xs = [x, y] ∧ Same F H ∧ DW K F H x d ∧ DW K F H y d' ∧ g d d' = some z ∧ Wd K F H z Q := by
  obtain ⟨F, ds, z, s, p, e, q⟩ := h
  match ds, p, e with
  | [d, d'], .cons h1 (.cons h2 .nil), e => exact ⟨_, _, F, d, d', z, rfl, s, h1, h2, e, q⟩
/-- a built-in name that the module does not hide -/
structure Bn (X : Cx) (x : Str) : Prop where
  gl : Gl X x
  no : X.mg x = none
/-! ### len, list, tuple, abs, int -/
def gLen : PyData → Option Rs
  | .list xs => some (.v (.int xs.length))
  | .tuple xs => some (.v (.int xs.length))
  | .str z => if z.length ≤ many then some (.v (.int z.length)) else none
  | _ => none
theorem c_len : CallR X (.builtin "len") (rdV X.K (on1 gLen)) := clBy fun xs H Q h => by
  obtain ⟨x, F, d, z, rfl, s, hx, g, q⟩ := on1_cases h
  unfold gLen at g
  split at g
  · obtain rfl := Option.some.inj g
    obtain ⟨a, vs, rfl, h1, r1⟩ := hx.list s
    exact ⟨_, call_len_seq, a, vs, rfl, .inl h1, by rw [r1.len]; exact q.int s⟩
  · obtain rfl := Option.some.inj g
    obtain ⟨a, vs, rfl, h1, _, r1⟩ := hx.tup s
    exact ⟨_, call_len_seq, a, vs, rfl, .inr h1, by rw [r1.len]; exact q.int s⟩
  · split at g
    · rename_i z hz
      obtain rfl := Option.some.inj g
      exact ⟨_, call_len_str, z, by rw [hx.str], Nat.le_trans hz many_le, q.int s⟩
    · cases g
  · cases g
theorem j_len {f : PEn → Out Val} (n : Bn X "len") (ha : JE X W a f) (hs : starEach [a] X.env = (false, eval a X.env) :: starEach [] X.env := by rfl) : JE X W (.Call (.Name "len" p) [a] [] pos) (eOp1 gLen f) :=
  call1 (fun h => pe_callB c_len n.gl n.no rfl h (he := hs)) ha hs
def gList : PyData → Option Rs
  | .list xs => some (.n xs)
  | .tuple xs => some (.n xs)
  | _ => none
theorem c_list : CallR X (.type "list") (rdV X.K (on1 gList)) := clBy fun xs H Q h => by
  obtain ⟨x, F, d, z, rfl, s, hx, g, q⟩ := on1_cases h
  unfold gList at g
  split at g
  · obtain rfl := Option.some.inj g
    obtain ⟨a, vs, rfl, h1, r1⟩ := hx.list s
    exact ⟨_, call_list_of, a, vs, rfl, .inl h1, q.lst s r1⟩
  · obtain rfl := Option.some.inj g
    obtain ⟨a, vs, rfl, h1, _, r1⟩ := hx.tup s
    exact ⟨_, call_list_of, a, vs, rfl, .inr h1, q.lst s r1⟩
  · cases g
theorem j_list {f : PEn → Out Val} (n : Bn X "list") (ha : JE X W a f) (hs : starEach [a] X.env = (false, eval a X.env) :: starEach [] X.env := by rfl) : JE X W (.Call (.Name "list" p) [a] [] pos) (eOp1 gList f) :=
  call1 (fun h => pe_callTy c_list n.gl n.no rfl h (he := hs)) ha hs
def gTuple : PyData → Option Rs
  | .list xs => some (.v (.tuple xs))
  | .tuple xs => some (.v (.tuple xs))
  | _ => none
theorem c_tuple : CallR X (.type "tuple") (rdV X.K (on1 gTuple)) := clBy fun xs H Q h => by
  obtain ⟨x, F, d, z, rfl, s, hx, g, q⟩ := on1_cases h
  unfold gTuple at g
  split at g
  · obtain rfl := Option.some.inj g
    obtain ⟨a, vs, rfl, h1, r1⟩ := hx.list s
    exact ⟨_, call_tuple_of, a, vs, rfl, .inl ⟨h1, q.tup s r1⟩⟩
  · obtain rfl := Option.some.inj g
    obtain ⟨a, vs, rfl, h1, f1, r1⟩ := hx.tup s
    exact ⟨_, call_tuple_of, a, vs, rfl, .inr ⟨h1, q.old s (.tup f1 r1)⟩⟩
  · cases g
theorem j_tuple {f : PEn → Out Val} (n : Bn X "tuple") (ha : JE X W a f) (hs : starEach [a] X.env = (false, eval a X.env) :: starEach [] X.env := by rfl) : JE X W (.Call (.Name "tuple" p) [a] [] pos) (eOp1 gTuple f) :=
  call1 (fun h => pe_callTy c_tuple n.gl n.no rfl h (he := hs)) ha hs
def gAbs : PyData → Option Rs
  | .int i => some (.v (.int (if i < 0 then -i else i)))
  | _ => none
theorem c_abs : CallR X (.builtin "abs") (rdV X.K (on1 gAbs)) := clBy fun xs H Q h => by
  obtain ⟨x, F, d, z, rfl, s, hx, g, q⟩ := on1_cases h
  unfold gAbs at g
  split at g
  · obtain rfl := Option.some.inj g
    exact ⟨_, call_abs, _, by rw [hx.int], q.int s⟩
  · cases g
theorem j_abs {f : PEn → Out Val} (n : Bn X "abs") (ha : JE X W a f) (hs : starEach [a] X.env = (false, eval a X.env) :: starEach [] X.env := by rfl) : JE X W (.Call (.Name "abs" p) [a] [] pos) (eOp1 gAbs f) :=
  call1 (fun h => pe_callB c_abs n.gl n.no rfl h (he := hs)) ha hs
def gInt : PyData → Option Rs
  | .int i => some (.v (.int i))
  | .bool k => some (.v (.int (if k then 1 else 0)))
  | .str z => if z.length ≤ 640 then (PySem.intText? z).map fun n => .v (.int n) else none
  | _ => none
theorem c_int : CallR X (.type "int") (rdV X.K (on1 gInt)) := clBy fun xs H Q h => by
  obtain ⟨x, F, d, z, rfl, s, hx, g, q⟩ := on1_cases h
  unfold gInt at g
  split at g
  · obtain rfl := Option.some.inj g
    exact ⟨_, call_int1, .inl ⟨_, by rw [hx.int], q.int s⟩⟩
  · obtain rfl := Option.some.inj g
    exact ⟨_, call_int1, .inr ⟨_, by rw [hx.bl], q.int s⟩⟩
  · split at g
    · rename_i z hz
      obtain ⟨n, e, rfl⟩ := Option.map_eq_some_iff.mp g
      exact ⟨_, call_int_str, z, n, by rw [hx.str], e, hz, q.int s⟩
    · cases g
  · cases g
theorem j_intOf {f : PEn → Out Val} (n : Bn X "int") (ha : JE X W a f) (hs : starEach [a] X.env = (false, eval a X.env) :: starEach [] X.env := by rfl) : JE X W (.Call (.Name "int" p) [a] [] pos) (eOp1 gInt f) :=
  call1 (fun h => pe_callTy c_int n.gl n.no rfl h (he := hs)) ha hs
/-! ### sum, min, max, all, any -/
def ints? : List PyData → Option (List Int)
  | [] => some []
  | .int i :: r => (ints? r).map (i :: ·)
  | _ => none
theorem ints?_eq : ∀ {ds : List PyData} {ns : List Int}, ints? ds = some ns → ds = ns.map .int
  | [], _, h => by cases h; rfl
  | .int i :: r, _, h => by
    obtain ⟨ms, e, rfl⟩ := Option.map_eq_some_iff.mp h
    rw [List.map_cons, ← ints?_eq e]
  | .none :: r, _, h => by cases h
  | .bool _ :: r, _, h => by cases h
  | .str _ :: r, _, h => by cases h
  | .list _ :: r, _, h => by cases h
  | .tuple _ :: r, _, h => by cases h
  | .dict _ :: r, _, h => by cases h
theorem ints?_map : ∀ ns : List Int, ints? (ns.map .int) = some ns
  | [] => rfl
  | n :: ns => by rw [List.map_cons, ints?, ints?_map ns]; rfl
def bools? : List PyData → Option (List Bool)
  | [] => some []
  | .bool i :: r => (bools? r).map (i :: ·)
  | _ => none
theorem bools?_eq : ∀ {ds : List PyData} {ns : List Bool}, bools? ds = some ns → ds = ns.map .bool
  | [], _, h => by cases h; rfl
  | .bool i :: r, _, h => by
    obtain ⟨ms, e, rfl⟩ := Option.map_eq_some_iff.mp h
    rw [List.map_cons, ← bools?_eq e]
  | .none :: r, _, h => by cases h
  | .int _ :: r, _, h => by cases h
  | .str _ :: r, _, h => by cases h
  | .list _ :: r, _, h => by cases h
  | .tuple _ :: r, _, h => by cases h
  | .dict _ :: r, _, h => by cases h
theorem bools?_map : ∀ ns : List Bool, bools? (ns.map .bool) = some ns
  | [] => rfl
  | n :: ns => by rw [List.map_cons, bools?, bools?_map ns]; rfl
theorem DW.ints {K : PySem.W.Frag} {F H : Hp} {x : V} {ds : List PyData} {ns : List Int} (hx : DW K F H x (.list ds)) (s : Same F H) (e : ints? ds = some ns) : ∃ a, x = .ref a ∧ SqL K H a (ns.map V.int) := by
  obtain ⟨a, vs, rfl, h1, r1⟩ := hx.list s
  rw [ints?_eq e] at r1
  rw [r1.ints] at h1
  exact ⟨a, rfl, h1⟩
theorem DW.bools {K : PySem.W.Frag} {F H : Hp} {x : V} {ds : List PyData} {ns : List Bool} (hx : DW K F H x (.list ds)) (s : Same F H) (e : bools? ds = some ns) : ∃ a, x = .ref a ∧ SqL K H a (ns.map V.bl) := by
  obtain ⟨a, vs, rfl, h1, r1⟩ := hx.list s
  rw [bools?_eq e] at r1
  rw [r1.bools] at h1
  exact ⟨a, rfl, h1⟩
theorem DW.intsT {K : PySem.W.Frag} {F H : Hp} {x : V} {ds : List PyData} {ns : List Int} (hx : DW K F H x (.tuple ds)) (s : Same F H) (e : ints? ds = some ns) : ∃ a, x = .ref a ∧ SqT K H a (ns.map V.int) := by
  obtain ⟨a, vs, rfl, h1, f1, r1⟩ := hx.tup s
  rw [ints?_eq e] at r1
  rw [r1.ints] at h1
  exact ⟨a, rfl, h1⟩
def rSumT (K : PySem.W.Frag) : List V → Hp → VK → Prop := fun vs H Q => ∃ (a : Addr) (ns : List Int), vs = [V.ref a] ∧ SqT K H a (ns.map V.int) ∧ Q (.int ns.sum) H
theorem cr_sumT (hc : X.calm = true) : CallR X (.builtin "sum") (rSumT X.K) := by
  intro pins s σ H vs us Q I r h
  obtain ⟨a, ns, rfl, hs, q⟩ := h
  obtain ⟨its, rv, pt, hz⟩ := I.tuple hs
  rw [Vals.ref1 r]
  have hi := rv.ints
  obtain ⟨xs, e⟩ := hi.allInts.items
  have hn : numsOf (intItems xs).toList = ns := by rw [← e]; exact hi.numsOf
  rw [nums_intItems] at hn
  have pt2 : s.heap.IsTuple a its.toArray := pt
  rw [e] at pt2
  refine PySem.W.ktm_sumG (I.ok.hd hc) pt2 fun h' tk t' hk => ⟨.int _, H, I.kept hk, ⟨_, rfl⟩, ?_⟩
  rw [preSum_eq, List.take_of_length_le (by simp), hn]
  exact q
def gSum : PyData → Option Rs
  | .list xs => (ints? xs).map fun ns => .v (.int ns.sum)
  | .tuple xs => (ints? xs).map fun ns => .v (.int ns.sum)
  | _ => none
theorem c_sum (hc : X.calm = true) : CallR X (.builtin "sum") (rdV X.K (on1 gSum)) := clBy fun xs H Q h => by
  obtain ⟨x, F, d, z, rfl, s, hx, g, q⟩ := on1_cases h
  unfold gSum at g
  split at g
  · obtain ⟨ns, e, rfl⟩ := Option.map_eq_some_iff.mp g
    obtain ⟨a, rfl, h1⟩ := hx.ints s e
    exact ⟨_, cr_sum hc, a, ns, rfl, h1, q.int s⟩
  · obtain ⟨ns, e, rfl⟩ := Option.map_eq_some_iff.mp g
    obtain ⟨a, rfl, h1⟩ := hx.intsT s e
    exact ⟨_, cr_sumT hc, a, ns, rfl, h1, q.int s⟩
  · cases g
theorem j_sum {f : PEn → Out Val} (n : Bn X "sum") (ha : JE X W a f) (hc : X.calm = true := by rfl) (hs : starEach [a] X.env = (false, eval a X.env) :: starEach [] X.env := by rfl) : JE X W (.Call (.Name "sum" p) [a] [] pos) (eOp1 gSum f) :=
  call1 (fun h => pe_callB (c_sum hc) n.gl n.no rfl h (he := hs)) ha hs
def gAll : PyData → Option Rs
  | .list xs => (bools? xs).map fun ns => .v (.bool (ns.all id))
  | _ => none
def gAny : PyData → Option Rs
  | .list xs => (bools? xs).map fun ns => .v (.bool (ns.any id))
  | _ => none
theorem c_all (hc : X.calm = true) : CallR X (.builtin "all") (rdV X.K (on1 gAll)) := clBy fun xs H Q h => by
  obtain ⟨x, F, d, z, rfl, s, hx, g, q⟩ := on1_cases h
  unfold gAll at g
  split at g
  · obtain ⟨ns, e, rfl⟩ := Option.map_eq_some_iff.mp g
    obtain ⟨a, rfl, h1⟩ := hx.bools s e
    exact ⟨_, cr_all hc, a, ns, rfl, h1, q.bl s⟩
  · cases g
theorem c_any (hc : X.calm = true) : CallR X (.builtin "any") (rdV X.K (on1 gAny)) := clBy fun xs H Q h => by
  obtain ⟨x, F, d, z, rfl, s, hx, g, q⟩ := on1_cases h
  unfold gAny at g
  split at g
  · obtain ⟨ns, e, rfl⟩ := Option.map_eq_some_iff.mp g
    obtain ⟨a, rfl, h1⟩ := hx.bools s e
    exact ⟨_, cr_any hc, a, ns, rfl, h1, q.bl s⟩
  · cases g
theorem j_all {f : PEn → Out Val} (n : Bn X "all") (ha : JE X W a f) (hc : X.calm = true := by rfl) (hs : starEach [a] X.env = (false, eval a X.env) :: starEach [] X.env := by rfl) : JE X W (.Call (.Name "all" p) [a] [] pos) (eOp1 gAll f) :=
  call1 (fun h => pe_callB (c_all hc) n.gl n.no rfl h (he := hs)) ha hs
theorem j_any {f : PEn → Out Val} (n : Bn X "any") (ha : JE X W a f) (hc : X.calm = true := by rfl) (hs : starEach [a] X.env = (false, eval a X.env) :: starEach [] X.env := by rfl) : JE X W (.Call (.Name "any" p) [a] [] pos) (eOp1 gAny f) :=
  call1 (fun h => pe_callB (c_any hc) n.gl n.no rfl h (he := hs)) ha hs
def leastI : List Int → Int
  | [] => 0
  | x :: xs => xs.foldl (fun a b => if b < a then b else a) x
def mostI : List Int → Int
  | [] => 0
  | x :: xs => xs.foldl (fun a b => if b > a then b else a) x
theorem fold_least : ∀ (xs : List Int) (x : Int), xs.foldl (fun a b => if b < a then b else a) x ∈ x :: xs ∧ ∀ y ∈ x :: xs, xs.foldl (fun a b => if b < a then b else a) x ≤ y
  | [], x => ⟨by simp, fun y h => by simp at h; subst h; exact Int.le_refl _⟩
  | z :: xs, x => by
    obtain ⟨h1, h2⟩ := fold_least xs (if z < x then z else x)
    rw [List.foldl_cons]
    have h3 := h2 _ (List.mem_cons_self ..)
    constructor
    · rcases List.mem_cons.mp h1 with h | h
      · rw [h]
        split
        · exact List.mem_cons_of_mem _ (List.mem_cons_self ..)
        · exact List.mem_cons_self ..
      · exact List.mem_cons_of_mem _ (List.mem_cons_of_mem _ h)
    · intro y hy
      rcases List.mem_cons.mp hy with rfl | hy
      · refine Int.le_trans h3 ?_
        split <;> omega
      · rcases List.mem_cons.mp hy with rfl | hy
        · refine Int.le_trans h3 ?_
          split <;> omega
        · exact h2 y (List.mem_cons_of_mem _ hy)
theorem fold_most : ∀ (xs : List Int) (x : Int), xs.foldl (fun a b => if b > a then b else a) x ∈ x :: xs ∧ ∀ y ∈ x :: xs, y ≤ xs.foldl (fun a b => if b > a then b else a) x
  | [], x => ⟨by simp, fun y h => by simp at h; subst h; exact Int.le_refl _⟩
  | z :: xs, x => by
    obtain ⟨h1, h2⟩ := fold_most xs (if z > x then z else x)
    rw [List.foldl_cons]
    have h3 := h2 _ (List.mem_cons_self ..)
    constructor
    · rcases List.mem_cons.mp h1 with h | h
      · rw [h]
        split
        · exact List.mem_cons_of_mem _ (List.mem_cons_self ..)
        · exact List.mem_cons_self ..
      · exact List.mem_cons_of_mem _ (List.mem_cons_of_mem _ h)
    · intro y hy
      rcases List.mem_cons.mp hy with rfl | hy
      · refine Int.le_trans ?_ h3
        split <;> omega
      · rcases List.mem_cons.mp hy with rfl | hy
        · refine Int.le_trans ?_ h3
          split <;> omega
        · exact h2 y (List.mem_cons_of_mem _ hy)
theorem leastI_at : ∀ {ns : List Int} {m : Int}, m ∈ ns → (∀ y, y ∈ ns → m ≤ y) → m = leastI ns
  | x :: xs, m, h1, h2 => Int.le_antisymm (h2 _ (fold_least xs x).1) ((fold_least xs x).2 m h1)
theorem mostI_at : ∀ {ns : List Int} {m : Int}, m ∈ ns → (∀ y, y ∈ ns → y ≤ m) → m = mostI ns
  | x :: xs, m, h1, h2 => Int.le_antisymm ((fold_most xs x).2 m h1) (h2 _ (fold_most xs x).1)
def gMin1 : PyData → Option Rs
  | .list (x :: xs) => (ints? (x :: xs)).map fun ns => .v (.int (leastI ns))
  | _ => none
def gMax1 : PyData → Option Rs
  | .list (x :: xs) => (ints? (x :: xs)).map fun ns => .v (.int (mostI ns))
  | _ => none
theorem ints?_pos {x : PyData} {xs : List PyData} {ns : List Int} (e : ints? (x :: xs) = some ns) : 0 < ns.length := by
  have h := congrArg List.length (ints?_eq e)
  rw [List.length_map, List.length_cons] at h
  omega
theorem c_min1 (hc : X.calm = true) : CallR X (.builtin "min") (rdV X.K (on1 gMin1)) := clBy fun xs H Q h => by
  obtain ⟨x, F, d, z, rfl, s, hx, g, q⟩ := on1_cases h
  unfold gMin1 at g
  split at g
  · obtain ⟨ns, e, rfl⟩ := Option.map_eq_some_iff.mp g
    obtain ⟨a, rfl, h1⟩ := hx.ints s e
    exact ⟨_, cr_min hc, a, ns, rfl, h1, ints?_pos e, fun m h1 h2 => by rw [leastI_at h1 h2]; exact q.int s⟩
  · cases g
theorem c_max1 (hc : X.calm = true) : CallR X (.builtin "max") (rdV X.K (on1 gMax1)) := clBy fun xs H Q h => by
  obtain ⟨x, F, d, z, rfl, s, hx, g, q⟩ := on1_cases h
  unfold gMax1 at g
  split at g
  · obtain ⟨ns, e, rfl⟩ := Option.map_eq_some_iff.mp g
    obtain ⟨a, rfl, h1⟩ := hx.ints s e
    exact ⟨_, cr_max hc, a, ns, rfl, h1, ints?_pos e, fun m h1 h2 => by rw [mostI_at h1 h2]; exact q.int s⟩
  · cases g
theorem j_min1 {f : PEn → Out Val} (n : Bn X "min") (ha : JE X W a f) (hc : X.calm = true := by rfl) (hs : starEach [a] X.env = (false, eval a X.env) :: starEach [] X.env := by rfl) : JE X W (.Call (.Name "min" p) [a] [] pos) (eOp1 gMin1 f) :=
  call1 (fun h => pe_callB (c_min1 hc) n.gl n.no rfl h (he := hs)) ha hs
theorem j_max1 {f : PEn → Out Val} (n : Bn X "max") (ha : JE X W a f) (hc : X.calm = true := by rfl) (hs : starEach [a] X.env = (false, eval a X.env) :: starEach [] X.env := by rfl) : JE X W (.Call (.Name "max" p) [a] [] pos) (eOp1 gMax1 f) :=
  call1 (fun h => pe_callB (c_max1 hc) n.gl n.no rfl h (he := hs)) ha hs
def gMin2 : PyData → PyData → Option Rs
  | .int i, .int j => some (.v (.int (if j < i then j else i)))
  | _, _ => none
def gMax2 : PyData → PyData → Option Rs
  | .int i, .int j => some (.v (.int (if j > i then j else i)))
  | _, _ => none
theorem c_min2 (hc : X.calm = true) : CallR X (.builtin "min") (rdV X.K (on2 gMin2)) := clBy fun xs H Q h => by
  obtain ⟨x, y, F, d, d', z, rfl, s, hx, hy, g, q⟩ := on2_cases h
  unfold gMin2 at g
  split at g
  · obtain rfl := Option.some.inj g
    exact ⟨_, call_min2 hc, _, _, by rw [hx.int, hy.int], q.int s⟩
  · cases g
theorem c_max2 (hc : X.calm = true) : CallR X (.builtin "max") (rdV X.K (on2 gMax2)) := clBy fun xs H Q h => by
  obtain ⟨x, y, F, d, d', z, rfl, s, hx, hy, g, q⟩ := on2_cases h
  unfold gMax2 at g
  split at g
  · obtain rfl := Option.some.inj g
    exact ⟨_, call_max2 hc, _, _, by rw [hx.int, hy.int], q.int s⟩
  · cases g
theorem j_min2 {f f' : PEn → Out Val} (n : Bn X "min") (ha : JE X W a f) (hb : JE X W b f') (hc : X.calm = true := by rfl) (hs : starEach [a, b] X.env = (false, eval a X.env) :: starEach [b] X.env := by rfl) (hs2 : starEach [b] X.env = (false, eval b X.env) :: starEach [] X.env := by rfl) :
    JE X W (.Call (.Name "min" p) [a, b] [] pos) (eOp2 gMin2 f f') := call2 (fun h => pe_callB (c_min2 hc) n.gl n.no rfl h (he := hs) (hpl := by rw [hs2]; rfl)) ha hb hs hs2
theorem j_max2 {f f' : PEn → Out Val} (n : Bn X "max") (ha : JE X W a f) (hb : JE X W b f') (hc : X.calm = true := by rfl) (hs : starEach [a, b] X.env = (false, eval a X.env) :: starEach [b] X.env := by rfl) (hs2 : starEach [b] X.env = (false, eval b X.env) :: starEach [] X.env := by rfl) :
    JE X W (.Call (.Name "max" p) [a, b] [] pos) (eOp2 gMax2 f f') := call2 (fun h => pe_callB (c_max2 hc) n.gl n.no rfl h (he := hs) (hpl := by rw [hs2]; rfl)) ha hb hs hs2
/-! ### isinstance -/
def Isa (T : String) (q : PyData → Bool) : Prop := ∀ {prog : Program} {w : World} {A : Around} {E : Value → Shared → Prop} {s : Shared} {v : Value} {d : PyData} {as : List Addr} {Q : Value → Shared → Prop}, Reads s.heap v d as →
  (∀ tk, s.toks ≤ tk → Q (.bool (q d)) { s with toks := tk }) → wpAny (model prog w) A (call (.builtin "isinstance") [v, .type T]) Q E s
theorem isa_int : Isa "int" PyData.isInt := fun r h => PySem.W.isinstance_int_data r h
theorem isa_bool : Isa "bool" PyData.isBool := fun r h => PySem.W.isinstance_bool_data r h
theorem isa_str : Isa "str" PyData.isStr := fun r h => PySem.W.isinstance_str_data r h
theorem isa_tuple : Isa "tuple" PyData.isTuple := fun r h => PySem.W.isinstance_tuple_data r h
def gIsa (q : PyData → Bool) : PyData → Option Rs := fun d => some (.v (.bool (q d)))
def rIsaV (K : PySem.W.Frag) (T : String) (q : PyData → Bool) : List V → Hp → VK → Prop := fun xs H Q => ∃ x, xs = [x, .ty T] ∧ rd1 K (gIsa q) x H Q
theorem c_isa {T : String} {q : PyData → Bool} (i : Isa T q) : CallR X (.builtin "isinstance") (rIsaV X.K T q) := by
  intro pins s σ H xs us Q I r h
  obtain ⟨x, rfl, h⟩ := h
  obtain ⟨F, d, z, s0, hx, g, qq⟩ := rd1_cases h
  obtain rfl := Option.some.inj g
  obtain ⟨u1, u2, rfl, r1, r2⟩ := vals2 r
  cases (show u2 = Value.type T from r2)
  obtain ⟨as, rd⟩ := (hx.dv s0).reads I r1
  exact i rd fun tk _ => ⟨.bl _, H, I.tok tk, rfl, qq.bl s0⟩
theorem j_isa {T : String} {t : Str} {q : PyData → Bool} {f : PEn → Out Val} (i : Isa T q) (n : Bn X "isinstance") (m : Bn X t) (ht : bootBuiltins t = some (.type T)) (ha : JE X W a f) (hn : t ≠ "__name__" := by decide) (hd : (t == ("__debug__" : Str)) = false := by decide)
    (hs : starEach [a, .Name t p2] X.env = (false, eval a X.env) :: starEach [.Name t p2] X.env := by rfl) (hs2 : starEach [.Name t p2] X.env = (false, eval (.Name t p2) X.env) :: starEach [] X.env := by rfl) :
    JE X W (.Call (.Name "isinstance" p) [a, .Name t p2] [] pos) (eOp1 (gIsa q) f) := by
  have hT : PE X (.Name t p2) (tC (.ty T)) := pe_bltn m.gl m.no ht (show RelV (.ty T) (.type T) from rfl) hn hd
  refine pe_mono (pe_callB (c_isa i) n.gl n.no rfl (pa_cons ha (pa_cons hT pa_nil hs2) hs) (he := hs) (hpl := by rw [hs2]; rfl)) fun σ H Q h => ?_
  obtain ⟨F, r, R, q⟩ := h
  exact ⟨F, r, R, q.bind.imp fun v r1 F1 H1 R1 S1 q1 x rx => ⟨x, rfl, fin1 R1 rx (fwd S1.th q1)⟩⟩
end
end PD

/-! PDRepr: repr of data. -/
namespace PD
open PySem PySem.Spec PyProof.Rows L2
section
variable {X : Cx} {pins : List (Addr × Obj)} {σ : L2.St} {H : Hp} {s : Shared}
theorem emptyDict (I : Inv X pins σ H s) {p : Addr} (h : H p = some (.dK [])) : (p == sysModules) = false ∧ ∃ o n, s.heap.get? p = some o ∧ o.cls = .type "dict" ∧ o.data = .dict #[] n := by
  obtain ⟨_, hs, vs, kv, o, es, ep, ho, hx, hd, _, hl, _⟩ := I.hok _ _ h
  cases kv
  have e0 : es.toList = [] := by
    generalize es.toList = l at hl
    cases hl
    rfl
  have e1 : es = #[] := Array.toList_inj.mp (by rw [e0])
  subst e1
  exact ⟨hs, o, ep, ho, hx.1, hd⟩
mutual
theorem DV.shows (I : Inv X pins σ H s) : ∀ {d : PyData} {v : V} {u : Value}, DV X.K H v d → RelV v u → d.showable = true → d.shown.length ≤ sizeLine → ∃ bs, ReadAtMost s.heap d.depth bs ∧ ReprK X.prog X.w bs s.heap d.depth u d.shown
  | _, _, _, .non, r, _, _ => by cases r; exact ⟨[], fun _ h => (nomatch h), ReprK.of_is ReprIs.none _ _ _⟩
  | _, _, _, .bl c, r, _, _ => by cases r; exact ⟨[], fun _ h => (nomatch h), ReprK.of_is (ReprIs.bool c) _ _ _⟩
  | _, _, _, .int n, r, sh, _ => by
    obtain ⟨t, rfl⟩ := r
    exact ⟨[], fun _ h => (nomatch h), ReprK.of_is (ReprIs.int t (by simpa [PyData.showable] using sh)) _ _ _⟩
  | _, _, _, .str z, r, _, sz => by
    obtain ⟨t, rfl⟩ := r
    exact ⟨[], fun _ h => (nomatch h), ReprK.of_is (ReprIs.str z t (by simpa only [PyData.shown] using sz)) _ _ _⟩
  | _, _, _, .lst hs ha, r, sh, sz => by
    rename_i p vs es
    have whole := DV.reads I (DV.lst hs ha) r
    cases r
    obtain ⟨its, rv, ⟨o, n, ho, hc, _, hd⟩, _⟩ := I.list hs
    have sz' : (listText (PyData.shownAll es)).length ≤ sizeLine := by simpa only [PyData.shown] using sz
    obtain ⟨bs, hb, hk⟩ := DVs.shows I ha rv (by simpa [PyData.showable] using sh) fun t ht => Nat.le_trans (listText_mem_le ht) sz'
    obtain ⟨as, whole⟩ := whole
    have na : p ∉ bs := not_mem_of_deeper whole (by simp only [PyData.depth]; omega) hb
    refine ⟨p :: bs, ReadAtMost.cons whole (by simp only [PyData.depth]; omega) hb, ?_⟩
    simp only [PyData.depth, PyData.shown]
    cases its with
    | nil =>
      cases rv
      cases ha
      simp only [PyData.shownAll, listText_nil]
      exact ReprK.listEmpty ho hc hd
    | cons y l => exact ReprK.list ho hc hd na (by simpa using hk.length_eq) fun i y e => hk.item i y (by simpa using e)
  | _, _, _, .tup hs ha, r, sh, sz => by
    rename_i p vs es
    have whole := DV.reads I (DV.tup hs ha) r
    cases r
    obtain ⟨its, rv, ⟨o, ho, hc, n, hd⟩, _⟩ := I.tuple hs
    have sz' : (tupleText (PyData.shownAll es)).length ≤ sizeLine := by simpa only [PyData.shown] using sz
    obtain ⟨bs, hb, hk⟩ := DVs.shows I ha rv (by simpa [PyData.showable] using sh) fun t ht => Nat.le_trans (tupleText_mem_le ht) sz'
    obtain ⟨as, whole⟩ := whole
    have na : p ∉ bs := not_mem_of_deeper whole (by simp only [PyData.depth]; omega) hb
    refine ⟨p :: bs, ReadAtMost.cons whole (by simp only [PyData.depth]; omega) hb, ?_⟩
    simp only [PyData.depth, PyData.shown]
    exact ReprK.tuple ho hc hd na hk
  | _, _, _, .dct (p := p) h, r, _, _ => by
    have whole := DV.reads I (DV.dct h) r
    cases r
    obtain ⟨hs, o, n, ho, hc, hd⟩ := emptyDict I h
    obtain ⟨as, whole⟩ := whole
    refine ⟨[p], ReadAtMost.cons whole (Nat.zero_le _) fun _ h => (nomatch h), ?_⟩
    simp only [PyData.depth, PyData.shown]
    exact ReprK.dict ho hc hd hs (List.not_mem_nil) (by exact .nil)
theorem DVs.shows (I : Inv X pins σ H s) : ∀ {ds : List PyData} {vs : List V} {us : List Value}, DVs X.K H vs ds → Vals vs us → PyData.showableAll ds = true → (∀ t ∈ PyData.shownAll ds, t.length ≤ sizeLine) →
    ∃ bs, ReadAtMost s.heap (PyData.depthAll ds) bs ∧ ReprAllK X.prog X.w bs s.heap (PyData.depthAll ds) us (PyData.shownAll ds)
  | _, _, _, .nil, r, _, _ => by cases r; exact ⟨[], fun _ h => (nomatch h), .nil⟩
  | _, _, _, .cons (e := e) (es := es) h1 h2, r, sh, sz => by
    cases r with
    | cons r1 r2 =>
      have sh : e.showable = true ∧ PyData.showableAll es = true := by simpa [PyData.showableAll] using sh
      obtain ⟨b1, g1, k1⟩ := DV.shows I h1 r1 sh.1 (sz _ (by simp only [PyData.shownAll]; exact List.mem_cons_self ..))
      obtain ⟨b2, g2, k2⟩ := DVs.shows I h2 r2 sh.2 fun t ht => sz t (by simp only [PyData.shownAll]; exact List.mem_cons_of_mem _ ht)
      refine ⟨b1 ++ b2, ?_, ?_⟩
      · exact (g1.mono (by simp only [PyData.depthAll]; omega)).append (g2.mono (by simp only [PyData.depthAll]; omega))
      · simp only [PyData.shownAll]
        exact .cons ((k1.more fun b hb => List.mem_append_left _ hb).level_le (by simp only [PyData.depthAll]; omega)) (k2.more_le (fun b hb => List.mem_append_right _ hb) (by simp only [PyData.depthAll]; omega))
end
theorem repr_run (I : Inv X pins σ H s) {d : PyData} {v : V} {u : Value} (h : DV X.K H v d) (r : RelV v u) (sh : d.showable = true) (sz : d.shown.length ≤ sizeLine) (hg : X.A.guards = some []) (hu : X.A.units + (d.depth + 1) < cLine) {Q : VK} (q : Q (.str d.shown) H) :
    wpAny (model X.prog X.w) X.A (call (.builtin "repr") [u]) (EP X pins σ Q) X.xe s := by
  have fin : ∀ h' t tk, (∀ b o, s.heap.get? b = some o → h'.get? b = some o) → EP X pins σ Q (.str d.shown t) { s with heap := h', toks := tk } := fun h' t tk hk => ⟨.str d.shown, H, I.kept hk, ⟨t, rfl⟩, q⟩
  cases h with
  | non => cases r; exact PySem.P.repr_of_none ⟨.str _, H, I.tok _, ⟨_, rfl⟩, q⟩
  | bl c => cases r; exact PySem.P.repr_of_bool ⟨.str _, H, I.tok _, ⟨_, rfl⟩, q⟩
  | int n => obtain ⟨t, rfl⟩ := r; exact PySem.P.repr_of_int (by simpa [PyData.showable] using sh) ⟨.str _, H, I.tok _, ⟨_, rfl⟩, q⟩
  | str z => obtain ⟨t, rfl⟩ := r; exact PySem.P.repr_of_str ⟨.str _, H, I.tok _, ⟨_, rfl⟩, q⟩ (by simpa only [PyData.shown] using sz)
  | lst hs ha =>
    rename_i p vs es
    have whole := DV.reads I (DV.lst hs ha) r
    cases r
    obtain ⟨its, rv, ⟨o, n, ho, hc, _, hd⟩, _⟩ := I.list hs
    have sz' : (listText (PyData.shownAll es)).length ≤ sizeLine := by simpa only [PyData.shown] using sz
    obtain ⟨bs, hb, hk⟩ := DVs.shows I ha rv (by simpa [PyData.showable] using sh) fun t ht => Nat.le_trans (listText_mem_le ht) sz'
    obtain ⟨as, whole⟩ := whole
    have na : p ∉ bs := not_mem_of_deeper whole (by simp only [PyData.depth]; omega) hb
    simp only [PyData.depth] at hu
    refine call_repr_slot (by omega) ⟨o, ho, hc⟩ PySem.F.slot_list_repr.toG ?_
    cases its with
    | nil =>
      cases rv
      cases ha
      refine call_list_repr_empty ⟨o, ho, hc⟩ ho hd ⟨_, _, rfl, ?_⟩
      have := fin s.heap s.toks (s.toks + 1) fun _ _ e => e
      simpa only [PyData.shown, PyData.shownAll, listText_nil] using this
    | cons y l =>
      refine call_list_reprK ho hc hd na (by simpa using hk.length_eq) (fun i y e => hk.item i y (by simpa using e)) hg (fun b _ => Clear.nil b) (by show X.A.units + 1 + _ < cLine; omega) (fun _ _ e => e) (fun h' t tk hk => ⟨_, _, rfl, ?_⟩) sz'
      have := fin h' t tk hk
      simpa only [PyData.shown] using this
  | tup hs ha =>
    rename_i p vs es
    have whole := DV.reads I (DV.tup hs ha) r
    cases r
    obtain ⟨its, rv, ⟨o, ho, hc, n, hd⟩, _⟩ := I.tuple hs
    have sz' : (tupleText (PyData.shownAll es)).length ≤ sizeLine := by simpa only [PyData.shown] using sz
    obtain ⟨bs, hb, hk⟩ := DVs.shows I ha rv (by simpa [PyData.showable] using sh) fun t ht => Nat.le_trans (tupleText_mem_le ht) sz'
    obtain ⟨as, whole⟩ := whole
    have na : p ∉ bs := not_mem_of_deeper whole (by simp only [PyData.depth]; omega) hb
    simp only [PyData.depth] at hu
    refine call_repr_slot (by omega) ⟨o, ho, hc⟩ PySem.F.slot_tuple_repr ?_
    refine call_tuple_reprK ho hc hd na hk hg (fun b _ => Clear.nil b) (by show X.A.units + 1 + _ < cLine; omega) (fun _ _ e => e) (fun h' t tk hk => ⟨_, _, rfl, ?_⟩) sz'
    have := fin h' t tk hk
    simpa only [PyData.shown] using this
  | dct h =>
    rename_i p
    cases r
    obtain ⟨hs, o, n, ho, hc, hd⟩ := emptyDict I h
    simp only [PyData.depth] at hu
    refine call_repr_slot (by omega) ⟨o, ho, hc⟩ PySem.F.slot_dict_repr ?_
    refine call_dict_reprK (ps := []) (as := []) (d := 0) ho hc hd hs (List.not_mem_nil) (by exact .nil) hg (fun b _ => Clear.nil b) (by show X.A.units + 1 + _ < cLine; omega) (fun _ _ e => e) (fun h' t tk hk => ⟨_, _, rfl, ?_⟩) (by decide)
    exact fin h' t tk hk
end
section
variable {X : Cx} {W : WX} {a : Expr} {pos p : Pos}
def gRepr (d : PyData) : Option Rs := if d.showable = true ∧ d.depth ≤ 60 ∧ d.shown.length ≤ many then some (.v (.str d.shown)) else none
theorem c_repr {k : Nat} (rm : Rm k X.A) : CallR X (.builtin "repr") (rdV X.K (on1 gRepr)) := by
  intro pins s σ H xs us Q I r h
  obtain ⟨x, F, d, z, rfl, s0, hx, g, q⟩ := on1_cases h
  unfold gRepr at g
  split at g
  · rename_i hb
    obtain rfl := Option.some.inj g
    obtain ⟨u, rfl, rx⟩ := vals1 r
    have := rm.rm.un
    exact repr_run I (hx.dv s0) rx hb.1 (Nat.le_trans hb.2.2 many_le) rm.gd (by omega) (q.str s0)
  · cases g
theorem j_repr {k : Nat} {f : PEn → Out Val} (rm : Rm k X.A) (n : Bn X "repr") (ha : JE X W a f) (hs : starEach [a] X.env = (false, eval a X.env) :: starEach [] X.env := by rfl) : JE X W (.Call (.Name "repr" p) [a] [] pos) (eOp1 gRepr f) :=
  call1 (fun h => pe_callB (c_repr rm) n.gl n.no rfl h (he := hs)) ha hs
end
end PD

/-! PDGen: the rules in short, as the printed texts use them. -/
namespace PD
open PySem PySem.Spec PyProof.Rows L2
section
variable {X : Cx} {W : WX} {a b e : Expr} {pos p p2 : Pos}
theorem v (i : Nat) {x : Str} (hN : X.N[i]? = some x := by rfl) (hv : Vis X.env.scope x := by first | exact Or.inl rfl | exact Or.inr (Or.inl rfl) | exact Or.inr (Or.inr rfl)) (hd : (x == ("__debug__" : Str)) = false := by decide)
    (hcd : (x == ("__classdict__" : Str)) = false := by decide) : JE X W (.Name x pos) (eVar i) := j_var hN hv hd hcd
theorem gn (i : Nat) {x : Str} (nd : X.N.Nodup) (hi : X.N[i]? = some x := by rfl) (hx : Loc X.env.scope x := by first | exact Or.inl rfl | exact Or.inr rfl)
    (hf : X.fn x = true ∨ X.env.scope.names.lookup x = some .local := by first | exact .inl rfl | exact .inr rfl) : JG X (.Name x pos) (gNm i) := g_nm nd hi hx hf
theorem takesF {P : Program} {w : World} {K : PySem.W.Frag} {mg : Str → Option Value} {base : Heap} {N : List Str} {qual : Str} {scope : Scope} {f : Addr} {cd : Value} {A : Around} {outer : List Env} {s : Shared} {H : Hp} {E : XK} :
    Takes (cxOf (L2.CX P w) P w K mg base N qual scope f cd A outer s H E) (fun c d _ H => E c d H) := takes_of rfl rfl rfl rfl
theorem ownF {P : Program} {w : World} {K : PySem.W.Frag} {mg : Str → Option Value} {base : Heap} {N : List Str} {qual : Str} {scope : Scope} {f : Addr} {cd : Value} {A : Around} {outer : List Env} {s : Shared} {H : Hp} {E : XK} :
    PassesOwn (model P w) (cxOf (L2.CX P w) P w K mg base N qual scope f cd A outer s H E).A (cxOf (L2.CX P w) P w K mg base N qual scope f cd A outer s H E).env (cxOf (L2.CX P w) P w K mg base N qual scope f cd A outer s H E).xe := passes_of rfl
/-- a def that may be called by its name -/
structure Cal (P : Program) (w : World) (K : PySem.W.Frag) (mg : Str → Option Value) (base : Heap) (x : Str) (ps : List Str) (k : Nat) (M : List Arg → FO) : Prop where
  ex : ∃ f fd, mg x = some (.ref f) ∧ PySem.W.keepIn K (.ref f) = true ∧ Binds K fd ps [] ∧ FnG P w K mg base (L2.CX P w) k f fd ps (spD K mg M)
theorem Cal.up {P : Program} {w : World} {K : PySem.W.Frag} {mg : Str → Option Value} {base : Heap} {x : Str} {ps : List Str} {j k : Nat} {M : List Arg → FO} (c : Cal P w K mg base x ps j M) (h : j ≤ k) : Cal P w K mg base x ps k M := by
  obtain ⟨f, fd, a, b, c, d⟩ := c.ex
  exact ⟨⟨f, fd, a, b, c, d.more h⟩⟩
theorem cal {x : Str} {ps : List Str} {j k : Nat} {M : List Arg → FO} {es : List Expr} {fs : PEn → Out (List Val)} (ms : List Bool) (c : Cal X.prog X.w X.K X.mg X.base x ps j M) (hr : Rm k X.A) (hx : ∀ σ, PassesAt (L2.CX X.prog X.w) X σ (WE W σ)) (ha : JA X W (e :: es) fs)
    (hj : j ≤ k := by omega) (hg : Gl X x := by rfl) (hdb : (x == ("__debug__" : Str)) = false := by decide) (he : starEach (e :: es) X.env = (false, eval e X.env) :: starEach es X.env := by rfl) (hpl : (backTo pos (starEach es X.env)).any (·.1) = false := by rfl) :
    JE X W (.Call (.Name x p) (e :: es) [] pos) (eCall M ms fs) := by
  obtain ⟨f, fd, m, kp, b, F⟩ := c.ex
  exact j_call F (hr.down hj) hg m kp b hx ha hdb he hpl
def blkB (N : List Str) (sc scope : Scope) (own : List (Str × Nat)) : Bool :=
  (match scope.kind with | .function => true | _ => false) && scope.names.all (fun y => decide (scope.names.lookup y.1 = some y.2)) && own.all (fun p => decide (N[p.2]? = some p.1)) &&
  scope.names.all (fun y => decide (y.2 = .free → sc.names.lookup y.1 = some .cell ∨ sc.names.lookup y.1 = some .free)) &&
  scope.names.all (fun y => decide ((y.2 = .local ∨ y.2 = .cell) → y.1 ∈ own.map (·.1) ∨ y.1 ∉ N))
theorem blk_of {N : List Str} {sc scope : Scope} {own : List (Str × Nat)} (h : blkB N sc scope own = true) : BlkOk N sc scope own := by
  unfold blkB at h
  simp only [Bool.and_eq_true, List.all_eq_true, decide_eq_true_eq] at h
  obtain ⟨⟨⟨⟨h1, h2⟩, h3⟩, h4⟩, h5⟩ := h
  refine ⟨?_, h2, h3, h4, h5⟩
  split at h1
  · assumption
  · cases h1
end
end PD
namespace PD
open PySem PySem.Spec PyProof.Rows L2
section
variable {X : Cx} {W : WX} {pos : Pos}
theorem Rm.u64 {k : Nat} {A : Around} (r : Rm k A) : A.units + 64 < cLine := by have := r.rm.un; omega
theorem Rm.u65 {k : Nat} {A : Around} (r : Rm k A) : A.units + 65 < cLine := by have := r.rm.un; omega
def eDict0 : PEn → Out Val := fun r => .ok (.v (.dict [])) r
theorem j_dict0 : JE X W (.Dict [] [] pos) eDict0 := by
  refine pe_mono pe_dnewK fun σ H Q h => ?_
  obtain ⟨F, r, R, q⟩ := h
  intro p hp
  have G := Grow.new (F := F) R.sub (o := HO.dK []) hp
  exact q _ _ (R.grow G) G.stp (.ref p) (.dct upd_same)
end
end PD

/-! PDRev: a[::-1]. -/
namespace PD
open PySem PySem.Spec PyProof.Rows L2 HT
section
variable {prog : Program} {w : World} {A : Around} {E : Value → Shared → Prop} {s : Shared}
theorem adjust_rev (n : Nat) : Builtin.Slice.sliceAdjust none none (-1) (n : Int) = ((n : Int) - 1, -1) := by
  unfold Builtin.Slice.sliceAdjust
  simp
theorem places_rev (n : Nat) : Builtin.Slice.slicePlaces ((n : Int) - 1) (-1) (-1) = n := by
  unfold Builtin.Slice.slicePlaces
  have h1 : ¬ (-1 : Int) > 0 := by omega
  simp only [h1, if_false]
  split
  · simp only [Int.neg_neg, Int.ediv_one]
    omega
  · omega
theorem applied_rev {sl : Addr} {t : Tok} {n : Nat} {Q : Int × Int × Nat → Shared → Prop} (hs : s.heap.IsSliceOf sl .none .none (.int (-1) t)) (h : Q ((n : Int) - 1, -1, n) s) : wpAny (model prog w) A (Builtin.Slice.sliceApplied (.ref sl) (pure (n : Int))) Q E s := by
  obtain ⟨os, hos, hcs, hds⟩ := id hs
  unfold Builtin.Slice.sliceApplied Builtin.Slice.sliceFields
  refine wpAny_bind (wpAny_bind (wpAny_field hos hds (x := .none) rfl (wpAny_bind (wpAny_field hos hds (x := .none) rfl (wpAny_bind (wpAny_field hos hds (x := .int (-1) t) rfl (wpAny_pure ?_)))))))
  refine wpAny_bind (slicePart_int ?_)
  show wpAny _ _ (if ((-1 : Int) == 0) = true then _ else _) _ _ s
  rw [if_neg (by decide)]
  refine wpAny_bind (slicePart_none (wpAny_bind (slicePart_none (wpAny_bind (wpAny_pure ?_)))))
  show wpAny _ _ (match Builtin.Slice.sliceAdjust none none (-1) (n : Int) with | (lo, hi) => pure (lo, (-1 : Int), Builtin.Slice.slicePlaces lo hi (-1))) _ _ s
  rw [adjust_rev n]
  show wpAny _ _ (pure ((n : Int) - 1, (-1 : Int), Builtin.Slice.slicePlaces ((n : Int) - 1) (-1) (-1))) _ _ s
  rw [places_rev]
  exact wpAny_pure h
theorem pick_rev (xs : Array Value) : ((List.range xs.size).filterMap fun (m : Nat) => xs[((xs.size : Int) - 1 + (m : Int) * (-1)).toNat]?).toArray = xs.toList.reverse.toArray := by
  have e : (List.range xs.size).filterMap (fun (m : Nat) => xs[((xs.size : Int) - 1 + (m : Int) * (-1)).toNat]?) = ((List.range xs.size).map fun k => xs.size - 1 - k).filterMap fun k => xs[k]? := by
    rw [List.filterMap_map]
    have h : ∀ l : List Nat, (∀ m ∈ l, m < xs.size) → l.filterMap (fun (m : Nat) => xs[((xs.size : Int) - 1 + (m : Int) * (-1)).toNat]?) = l.filterMap ((fun k => xs[k]?) ∘ fun k => xs.size - 1 - k) := fun l hl => by
      induction l with
      | nil => rfl
      | cons m l ih =>
        have hm := hl m (List.mem_cons_self ..)
        rw [List.filterMap_cons, List.filterMap_cons, ih fun m h => hl m (List.mem_cons_of_mem _ h)]
        have e : ((xs.size : Int) - 1 + (m : Int) * (-1)).toNat = xs.size - 1 - m := by omega
        simp only [e, Function.comp]
    exact h _ fun m hm => List.mem_range.mp hm
  rw [e, PySem.W.krv_range, List.filterMap_reverse]
  have := PySem.W.krv_all xs
  rw [this]
theorem getItem_tuple_rev {t sl : Addr} {tk : Tok} {items : Array Value} {Q : Value → Shared → Prop} (ht : IsTup s.heap t items) (hs : s.heap.IsSliceOf sl .none .none (.int (-1) tk))
    (h : Q (.ref s.heap.objs.size) { s with heap := s.heap.push { cls := .type "tuple", data := .seq items.toList.reverse.toArray } }) (hsz : items.size ≤ sizeLine) : wpAny (model prog w) A (getItem (.ref t) (.ref sl)) Q E s := by
  have hok : sizeOk (.seq items.toList.reverse.toArray) := by
    show items.toList.reverse.toArray.size ≤ sizeLine
    rw [List.size_toArray, List.length_reverse, Array.length_toList]
    exact hsz
  obtain ⟨os, hos, hcs, hds⟩ := id hs
  have hTs : s.TypeIs (.ref sl) "slice" := ⟨os, hos, hcs⟩
  unfold getItem
  try with_reducible refine wpAny_holding ?_
  first | refine wpAny_bind (wpAny_pure ?_) | skip
  refine wpAny_bind (wpAny_sequenceKey ht.typeIs (by decide) ?_)
  have slot := PyProof.Rows.slot_tuple_getitem
  have ty := ht.typeIs
  refine wpAny_bind (wpAny_callSpecial?_slot (name := Str.ofString "__getitem__") ty slot ?_)
  refine wpAny_call_entry slot ty entry_tuple_getitem ?_ (args_tuple_getitem _ _)
  show wpAny _ _ (Builtin.Tuple.tupleItemsOf (.ref t) >>= _) _ _ s
  refine wpAny_bind (tupleItemsOf_ ht ?_)
  refine wpAny_bind (wpAny_typeOf hTs ?_)
  rw [if_pos (by decide)]
  refine wpAny_bind (applied_rev hs ?_)
  have no : ¬ (((items.size : Int) - 1 == 0 && (-1 : Int) == 1 && items.size == items.size) = true) := by simp
  show wpAny _ _ (if ((items.size : Int) - 1 == 0 && (-1 : Int) == 1 && items.size == items.size) = true then _ else _) _ _ s
  rw [if_neg no, pick_rev]
  first
    | exact wpAny_bind (m := Builtin.Tuple.tupleExact _) (wpAny_newObj_type (wpAny_pure ⟨_, rfl, wpAny_pure h⟩) hok)
    | exact wpAny_bind (m := Builtin.Tuple.tupleExact _) (wpAny_newObj_type (wpAny_bind (wpAny_pure (wpAny_pure ⟨_, rfl, wpAny_pure h⟩))) hok)
    | exact wpAny_bind (wpAny_bind (m := Builtin.Tuple.tupleExact _) (wpAny_newObj_type (wpAny_pure (wpAny_pure ⟨_, rfl, wpAny_pure h⟩)) hok))
    | exact wpAny_bind (wpAny_bind (m := Builtin.Tuple.tupleExact _) (wpAny_newObj_type (wpAny_pure ⟨_, rfl, wpAny_pure h⟩) hok))
end
section
variable {X : Cx} {W : WX} {a k : Expr} {pos p2 : Pos}
/-- a[::-1] -/
def rRev (K : PySem.W.Frag) : V → Hp → VK → Prop := fun x H Q => ∃ p xs, x = .ref p ∧ ((SqL K H p xs ∧ ∀ l, H l = none → Q (.ref l) (upd H l (.lst xs.reverse))) ∨ (SqT K H p xs ∧ ∀ l, H l = none → Q (.ref l) (upd H l (.tup xs.reverse))))
theorem pe_rev {te tk : TE} {kp kp' : Pos} {kj : Nat} (he : PE X a te) (hk : PE X (.UnaryOp .USub (.Constant (.int 1) kj kp) kp') tk) : PE X (.Subscript a (.Slice none none (some (.UnaryOp .USub (.Constant (.int 1) kj kp) kp')) p2) pos) (fun σ H Q => te σ H fun x H1 => tk σ H1 fun y H2 => y = .int (-1) ∧ rRev X.K x H2 Q) := by
  refine ⟨fun pins s σ H Q I h => ?_⟩
  refine Subscript_ (thn (he.run pins s σ H _ I h) fun v s1 ⟨x, H1, I1, r1, q1⟩ => ?_)
  refine wpAny_Slice ?_
  rw [evalPart_none]
  refine wpAny_pure (wpAny_pure ?_)
  rw [evalPart_some]
  refine thn (hk.run pins s1 σ H1 _ I1 q1) fun u s3 ⟨y, H3, I3, r3, ey, p, xs, ex, q⟩ => ?_
  subst ey ex
  obtain ⟨t, rfl⟩ := r3
  cases r1
  have I4 : Inv X pins σ H3 { s3 with heap := s3.heap.push { cls := .type "slice", data := .fields #[.none, .none, .int (-1) t] } } := I3.kept (t' := s3.toks) fun b ob q => Heap.get?_push_of_some _ q
  show wpAny (model X.prog X.w) X.A (subscriptTail a (.Slice none none (some (.UnaryOp .USub (.Constant (.int 1) kj kp) kp')) p2) (.ref p) (.ref s3.heap.objs.size)) (EP X pins σ Q) X.xe { s3 with heap := s3.heap.push { cls := .type "slice", data := .fields #[.none, .none, .int (-1) t] } }
  have io := Heap.IsSliceOf.new s3.heap Value.none Value.none (Value.int (-1) t)
  rcases q with ⟨hq, q⟩ | ⟨hq, q⟩
  · obtain ⟨its, rv, pl, hz⟩ := I4.list hq
    have hl := rv.length
    have pl := pl.isList
    refine tail_any (T := "list") (id := "list.__getitem__") pl.typeIs list_getitem_lookup (wpAny_getItem_list_slice pl io .none .none (.int (-1) t) (by decide) ?_ (by rw [List.size_toArray]; omega)) (by with_unfolding_all rfl)
    rw [PySem.W.krv_pick]
    refine ⟨.ref _, _, I4.lnew (t' := s3.toks) rv.reverse (by rw [List.length_reverse]; exact hz), rfl, q _ I4.fresh⟩
  · obtain ⟨its, rv, pt, hz⟩ := I4.tuple hq
    have hl := rv.length
    refine tail_any (T := "tuple") (id := "tuple.__getitem__") pt.typeIs PyProof.Rows.slot_tuple_getitem.lookup (getItem_tuple_rev pt io ?_ (by rw [List.size_toArray]; omega)) (by with_unfolding_all rfl)
    refine ⟨.ref _, upd H3 _ (.tup xs.reverse), I4.laid (t' := s3.toks) (fun b u e => Heap.get?_push_of_some _ e) (Nat.le_refl _) ?_, rfl, q _ I4.fresh⟩
    exact ⟨by rw [List.length_reverse]; exact hz, its.reverse, rv.reverse, ⟨_, Heap.get?_push_size _ rfl, rfl, _, rfl⟩⟩
def gRev : PyData → Option Rs
  | .list xs => some (.n xs.reverse)
  | .tuple xs => some (.v (.tuple xs.reverse))
  | _ => none
theorem j_rev {f : PEn → Out Val} {kp kp' : Pos} {kj : Nat} (ha : JE X W a f) : JE X W (.Subscript a (.Slice none none (some (.UnaryOp .USub (.Constant (.int 1) kj kp) kp')) p2) pos) (eOp1 gRev f) := by
  refine pe_mono (pe_rev ha (pe_un un_neg pe_int)) fun σ H Q h => ?_
  obtain ⟨F, r, R, q⟩ := h
  refine ⟨F, r, R, q.bind.imp fun v r1 F1 H1 R1 S1 q1 x rx => ⟨1, rfl, rfl, ?_⟩⟩
  obtain ⟨F2, d, z, s, hx, g, q2⟩ := rd1_cases (fin1 R1 rx (fwd S1.th q1))
  unfold gRev at g
  split at g
  · obtain rfl := Option.some.inj g
    obtain ⟨p, vs, rfl, h1, r1⟩ := hx.list s
    exact ⟨p, vs, rfl, .inl ⟨h1, q2.lst s r1.rev⟩⟩
  · obtain rfl := Option.some.inj g
    obtain ⟨p, vs, rfl, h1, f1, r1⟩ := hx.tup s
    exact ⟨p, vs, rfl, .inr ⟨h1, q2.tup s r1.rev⟩⟩
  · cases g
end
end PD

/-! PDEnd: the law's promise at its script. -/
namespace PD
open PySem PySem.Spec PyProof.Rows L2
theorem law_sp {K : PySem.W.Frag} {mg : Str → Option Value} {M : List Arg → FO} {H : Hp} {a : Addr} {ns : List Int} {as : List Arg} (plain : M [.d (.list (ns.map .int))] = .ok (.v (.bool true)) as) (hO : Only H) (hS : SqL K H a (ns.map V.int)) :
    spD K mg M [.ref a] H (fun v _ => v = .bl true) fun _ _ _ => False := by
  refine ⟨H, [.d (.list (ns.map .int))], Same.refl _, .cons (.lst hS (DVs.of_ints ns)) .nil, List.nodup_nil, ?_⟩
  rw [plain]
  intro x F' H' _ h
  cases (show DV K F' x (.bool true) from h)
  rfl
theorem noCX {P : Program} : ∀ (w : World) (H : Hp) (s : Shared) (e : Value) (s' : Shared), L2.CX P w [] H s (fun _ _ _ => False) e s' → False := fun _ _ _ _ _ h => by
  obtain ⟨_, _, _, _, _, _, _, _, _, _, _, _, h⟩ := h
  exact h.elim
end PD
namespace PD
open PySem PySem.Spec PyProof.Rows L2
/-- as fn_den, the denotation by its name -/
theorem fn_denM {P : Program} {w : World} {K : PySem.W.Frag} {mg : Str → Option Value} {base : Heap} {x qual : Str} {st : Stmt} {f : Addr} {fd : FuncData} {k n m : Nat} (N ps : List Str) (g : PEn → Out Fl) (Fn : Fun K x qual st f fd) (S : FnScope N ps (defScope st)) (hn : ps.length = n) (hm : N.length = m)
    (M : List Arg → FO) (hM : M = den g n m) (hl : n ≤ m)
    (hbody : ∀ (cdv : Value) (A : Around) (outer : List Env) (s : Shared) (H : Hp) (E : XK), Rm k (A.deeper (envOfC qual (defScope st) s.heap.objs.size f cdv)) →
      JSs (cxOf (L2.CX P w) P w K mg base N qual (defScope st) f cdv A outer s H E) (fun c d _ H => E c d H) (defBody st) g) : FnG P w K mg base (L2.CX P w) (k + 1) f fd ps (spD K mg M) := by
  subst hn hm
  rw [hM]
  exact fn_den Fn S hl hbody
end PD

/-! PDPlain: how denotations are reckoned with; the drawing of numbers. -/
namespace PD
open PySem PySem.Spec PyProof.Rows L2
/-! ### outcomes -/
def Okk {α : Type} (o : Out α) (P : α → PEn → Prop) : Prop := ∃ a r, o = .ok a r ∧ P a r
def OkF (o : FO) (P : Rs → List Arg → Prop) : Prop := ∃ z as, o = .ok z as ∧ P z as
section
variable {α β : Type} {r r1 r2 : PEn} {A B : PEn → Out Fl}
theorem seqN (h : A r = .ok .next r1) : sSeq A B r = B r1 := by
  unfold sSeq
  rw [h]
  rfl
theorem seqR {v : Val} (h : A r = .ok (.ret v) r1) : sSeq A B r = .ok (.ret v) r1 := by
  unfold sSeq
  rw [h]
  rfl
theorem upB_one {q : Bool} {ps' ps : List PyData} {i : Nat} (h : r[i]? = some (.l q ps)) : upB [(i, ps')] 0 r = r.set i (.l q ps') := by
  apply List.ext_getElem?
  intro j
  rw [upB_at]
  by_cases hj : j = i
  · subst hj
    have hl : j < r.length := (List.getElem?_eq_some_iff.mp h).1
    rw [h, List.getElem?_set_self hl]
    simp [look]
  · rw [List.getElem?_set_ne (Ne.symm hj)]
    cases z : r[j]? with
    | none => rfl
    | some s =>
      cases s with
      | u => rfl
      | d x => rfl
      | l p xs =>
        show some (Sl.l p ((look [(i, ps')] (0 + j)).getD xs)) = some (Sl.l p xs)
        have : ¬ i = 0 + j := by omega
        have n : ¬ i = j := fun q => hj q.symm
        simp [look, n]
/-- f(pen, e): pen is changed -/
theorem call_pen {M : List Arg → FO} {f : PEn → Out Val} {i : Nat} {q : Bool} {p0 p p' : List PyData} {v : Val} {d : PyData} {z : Rs} {a' : Arg} (h0 : r[i]? = some (.l q p0)) (hf : f r = .ok v r1) (hz : v.fz r1 = some (d, r2)) (hi : r2[i]? = some (.l q p))
    (hM : M [.l p, .d d] = .ok z [.l p', a']) : eCall M [true, false] (aCons (eVar i) (aCons f aNil)) r = .ok z.val (r2.set i (.l q p')) := by
  have hi1 : ∃ x, r1[i]? = some (.l q x) := by
    cases v with
    | v d' => simp only [Val.fz, Option.some.injEq, Prod.mk.injEq] at hz; rw [hz.2]; exact ⟨_, hi⟩
    | n xs => simp only [Val.fz, Option.some.injEq, Prod.mk.injEq] at hz; rw [hz.2]; exact ⟨_, hi⟩
    | b j =>
      simp only [Val.fz] at hz
      split at hz
      · simp only [Option.some.injEq, Prod.mk.injEq] at hz; rw [hz.2]; exact ⟨_, hi⟩
      · simp only [Option.some.injEq, Prod.mk.injEq] at hz
        obtain ⟨_, rfl⟩ := hz
        have hj : i ≠ j := by
          rintro rfl
          rw [List.getElem?_set] at hi
          split at hi
          · split at hi <;> cases hi
          · rename_i n; exact n rfl
        rw [List.getElem?_set_ne (Ne.symm hj)] at hi
        exact ⟨_, hi⟩
      · cases hz
  obtain ⟨x, hi1⟩ := hi1
  unfold eCall aCons eVar
  simp only [h0, Out.bind, hf, aCons, aNil, callD, prep, prep1, hi1, hz, places, apart, List.contains_nil, Bool.not_false, Bool.and_true, if_true, argsOf, argOf, hi, hM, okB, backs, upB_one hi]
/-- f(pen) -/
theorem call_pen0 {M : List Arg → FO} {i : Nat} {q : Bool} {p p' : List PyData} {z : Rs} (hi : r[i]? = some (.l q p)) (hM : M [.l p] = .ok z [.l p']) : eCall M [true] (aCons (eVar i) aNil) r = .ok z.val (r.set i (.l q p')) := by
  unfold eCall aCons eVar
  simp only [hi, Out.bind, aNil, callD, prep, prep1, places, apart, List.contains_nil, Bool.not_false, Bool.and_true, if_true, argsOf, argOf, hM, okB, backs, upB_one hi]
theorem upB_none (r : PEn) : upB [] 0 r = r := by
  apply List.ext_getElem?
  intro j
  rw [upB_at]
  cases r[j]? with
  | none => rfl
  | some s => cases s <;> rfl
/-- f(e), f(e, e2) of data -/
theorem call_d1 {M : List Arg → FO} {f : PEn → Out Val} {v : Val} {d : PyData} {z : Rs} {a' : Arg} (hf : f r = .ok v r1) (hz : v.fz r1 = some (d, r2)) (hM : M [.d d] = .ok z [a']) : eCall M [false] (aCons f aNil) r = .ok z.val r2 := by
  unfold eCall aCons
  have e : prep1 false v r1 = some (.d d, r2) := by unfold prep1; simp only [hz]
  simp only [hf, Out.bind, aNil, callD, prep, e, places, apart, if_true, argsOf, argOf, hM, okB, backs, upB_none]
theorem call_d2 {M : List Arg → FO} {f f' : PEn → Out Val} {v v' : Val} {d d' : PyData} {z : Rs} {a a' : Arg} {r0 r3 : PEn} (hf : f r = .ok v r0) (hf' : f' r0 = .ok v' r1) (hz : v.fz r1 = some (d, r2)) (hz' : v'.fz r2 = some (d', r3)) (hM : M [.d d, .d d'] = .ok z [a, a']) :
    eCall M [false, false] (aCons f (aCons f' aNil)) r = .ok z.val r3 := by
  unfold eCall aCons
  have e : prep1 false v r1 = some (.d d, r2) := by unfold prep1; simp only [hz]
  have e' : prep1 false v' r2 = some (.d d', r3) := by unfold prep1; simp only [hz']
  simp only [hf, Out.bind, aCons, hf', aNil, callD, prep, e, e', places, apart, if_true, argsOf, argOf, hM, okB, backs, upB_none]
/-! ### steps by rule -/
theorem evV {i : Nat} {d : PyData} (h : r[i]? = some (.d d)) : eVar i r = .ok (.v d) r := by
  unfold eVar
  rw [h]
theorem evL {i : Nat} {q : Bool} {xs : List PyData} (h : r[i]? = some (.l q xs)) : eVar i r = .ok (.b i) r := by
  unfold eVar
  rw [h]
theorem evC {d : PyData} : eC d r = .ok (.v d) r := rfl
theorem ev1 {g : PyData → Option Rs} {f : PEn → Out Val} {x : Val} {d : PyData} {z : Rs} (h1 : f r = .ok x r1) (hx : x.rd r1 = some d) (h : g d = some z) : eOp1 g f r = .ok z.val r1 := by
  unfold eOp1
  rw [h1]
  show op1 g x r1 = _
  unfold op1
  rw [hx]
  show (match g d with | some z => Out.ok z.val r1 | none => .bad) = _
  rw [h]
theorem ev2 {g : PyData → PyData → Option Rs} {f f' : PEn → Out Val} {x y : Val} {d e : PyData} {z : Rs} (h1 : f r = .ok x r1) (h2 : f' r1 = .ok y r2) (hx : x.rd r2 = some d) (hy : y.rd r2 = some e) (h : g d e = some z) : eOp2 g f f' r = .ok z.val r2 := by
  unfold eOp2
  rw [h1]
  show Out.bind (f' r1) _ = _
  rw [h2]
  show op2 g x y r2 = _
  unfold op2
  rw [hx, hy]
  show (match g d e with | some z => Out.ok z.val r2 | none => .bad) = _
  rw [h]
/-- of data, where nothing changes -/
theorem ed2 {g : PyData → PyData → Option Rs} {f f' : PEn → Out Val} {d e w : PyData} (h1 : f r = .ok (.v d) r) (h2 : f' r = .ok (.v e) r) (h : g d e = some (.v w)) : eOp2 g f f' r = .ok (.v w) r := ev2 h1 h2 rfl rfl h
theorem ed1 {g : PyData → Option Rs} {f : PEn → Out Val} {d w : PyData} (h1 : f r = .ok (.v d) r) (h : g d = some (.v w)) : eOp1 g f r = .ok (.v w) r := ev1 h1 rfl h
theorem ev1v {g : PyData → Option Rs} {f : PEn → Out Val} {x : Val} {d w : PyData} (h1 : f r = .ok x r1) (hx : x.rd r1 = some d) (h : g d = some (.v w)) : eOp1 g f r = .ok (.v w) r1 := ev1 h1 hx h
theorem ev1n {g : PyData → Option Rs} {f : PEn → Out Val} {x : Val} {d : PyData} {ws : List PyData} (h1 : f r = .ok x r1) (hx : x.rd r1 = some d) (h : g d = some (.n ws)) : eOp1 g f r = .ok (.n ws) r1 := ev1 h1 hx h
theorem ev2v {g : PyData → PyData → Option Rs} {f f' : PEn → Out Val} {x y : Val} {d e w : PyData} (h1 : f r = .ok x r1) (h2 : f' r1 = .ok y r2) (hx : x.rd r2 = some d) (hy : y.rd r2 = some e) (h : g d e = some (.v w)) : eOp2 g f f' r = .ok (.v w) r2 := ev2 h1 h2 hx hy h
theorem ev2n {g : PyData → PyData → Option Rs} {f f' : PEn → Out Val} {x y : Val} {d e : PyData} {ws : List PyData} (h1 : f r = .ok x r1) (h2 : f' r1 = .ok y r2) (hx : x.rd r2 = some d) (hy : y.rd r2 = some e) (h : g d e = some (.n ws)) : eOp2 g f f' r = .ok (.n ws) r2 := ev2 h1 h2 hx hy h
theorem set_v {i : Nat} {f : PEn → Out Val} {d : PyData} (h : f r = .ok (.v d) r1) (hf : free r1 i = true) : sSet i f r = .ok .next (r1.set i (.d d)) := by
  unfold sSet
  rw [h]
  show asg i (.v d) r1 = _
  unfold asg
  rw [if_pos hf]
theorem set_n {i : Nat} {f : PEn → Out Val} {xs : List PyData} (h : f r = .ok (.n xs) r1) (hf : free r1 i = true) : sSet i f r = .ok .next (r1.set i (.l false xs)) := by
  unfold sSet
  rw [h]
  show asg i (.n xs) r1 = _
  unfold asg
  rw [if_pos hf]
theorem ret_ {f : PEn → Out Val} {v : Val} (h : f r = .ok v r1) : sRet f r = .ok (.ret v) r1 := by
  unfold sRet
  rw [h]
  rfl
theorem ifT {t : PEn → Out Bool} (h : t r = .ok true r1) : sIf t A B r = A r1 := by
  unfold sIf
  rw [h]
  rfl
theorem ifF {t : PEn → Out Bool} (h : t r = .ok false r1) : sIf t A B r = B r1 := by
  unfold sIf
  rw [h]
  rfl
theorem skipF {t : PEn → Out Bool} (h : t r = .ok false r1) : sSeq (sIf t A sSkip) B r = B r1 := seqN ((ifF h).trans rfl)
theorem retT {C : PEn → Out Fl} {t : PEn → Out Bool} {v : Val} (h : t r = .ok true r1) (h2 : A r1 = .ok (.ret v) r2) : sSeq (sIf t A C) B r = .ok (.ret v) r2 := seqR ((ifT h).trans h2)
theorem tb_ {f : PEn → Out Val} {k : Bool} (h : f r = .ok (.v (.bool k)) r1) : tBoo f r = .ok k r1 := by
  unfold tBoo
  rw [h]
  rfl
theorem tt_ {f : PEn → Out Val} {v : Val} {d : PyData} {k : Bool} (h : f r = .ok v r1) (hv : v.rd r1 = some d) (hd : truthD d = some k) : tTru f r = .ok k r1 := by
  unfold tTru
  rw [h]
  show tru v r1 = _
  unfold tru
  rw [hv]
  show (match truthD d with | some k => Out.ok k r1 | none => .bad) = _
  rw [hd]
theorem tn_ {t : PEn → Out Bool} {k : Bool} (h : t r = .ok k r1) : tNotD t r = .ok (!k) r1 := by
  unfold tNotD
  rw [h]
  rfl
theorem taF {t u : PEn → Out Bool} (h : t r = .ok false r1) : tAndD t u r = .ok false r1 := by
  unfold tAndD
  rw [h]
  rfl
theorem taT {t u : PEn → Out Bool} (h : t r = .ok true r1) : tAndD t u r = u r1 := by
  unfold tAndD
  rw [h]
  rfl
theorem toT {t u : PEn → Out Bool} (h : t r = .ok true r1) : tOrD t u r = .ok true r1 := by
  unfold tOrD
  rw [h]
  rfl
theorem toF {t u : PEn → Out Bool} (h : t r = .ok false r1) : tOrD t u r = u r1 := by
  unfold tOrD
  rw [h]
  rfl
theorem eaT {f g : PEn → Out Val} {v : Val} {d : PyData} (h : f r = .ok v r1) (hv : v.rd r1 = some d) (hd : truthD d = some true) : eAndD f g r = g r1 := by
  unfold eAndD
  rw [h]
  show Out.bind (tru v r1) _ = _
  unfold tru
  rw [hv]
  show Out.bind (match truthD d with | some k => Out.ok k r1 | none => .bad) _ = _
  rw [hd]
  rfl
theorem eaF {f g : PEn → Out Val} {v : Val} {d : PyData} (h : f r = .ok v r1) (hv : v.rd r1 = some d) (hd : truthD d = some false) : eAndD f g r = .ok v r1 := by
  unfold eAndD
  rw [h]
  show Out.bind (tru v r1) _ = _
  unfold tru
  rw [hv]
  show Out.bind (match truthD d with | some k => Out.ok k r1 | none => .bad) _ = _
  rw [hd]
  rfl
theorem eoT {f g : PEn → Out Val} {v : Val} {d : PyData} (h : f r = .ok v r1) (hv : v.rd r1 = some d) (hd : truthD d = some true) : eOrD f g r = .ok v r1 := by
  unfold eOrD
  rw [h]
  show Out.bind (tru v r1) _ = _
  unfold tru
  rw [hv]
  show Out.bind (match truthD d with | some k => Out.ok k r1 | none => .bad) _ = _
  rw [hd]
  rfl
theorem eoF {f g : PEn → Out Val} {v : Val} {d : PyData} (h : f r = .ok v r1) (hv : v.rd r1 = some d) (hd : truthD d = some false) : eOrD f g r = g r1 := by
  unfold eOrD
  rw [h]
  show Out.bind (tru v r1) _ = _
  unfold tru
  rw [hv]
  show Out.bind (match truthD d with | some k => Out.ok k r1 | none => .bad) _ = _
  rw [hd]
  rfl
/-- of truths -/
theorem eaB {f g : PEn → Out Val} {a b : Bool} (h : f r = .ok (.v (.bool a)) r) (h2 : a = true → g r = .ok (.v (.bool b)) r) : eAndD f g r = .ok (.v (.bool (a && b))) r := by
  cases a with
  | true => rw [eaT h rfl rfl, h2 rfl]; rfl
  | false => rw [eaF h rfl rfl]; rfl
/-! ### loops -/
/-- a for loop that runs to its end: I at i items done -/
theorem for_inv {g : PyData → Option (List (Nat × PyData))} {body : PEn → Out Fl} (I : Nat → PEn → Prop) : ∀ (ds : List PyData) (k : Nat) (r : PEn), I k r →
    (∀ i d r, ds[i]? = some d → I (k + i) r → ∃ l r', g d = some l ∧ frees l r = true ∧ (body (setE l r) = .ok .next r' ∨ body (setE l r) = .ok .cont r') ∧ I (k + i + 1) r') → ∃ r', forD g body ds r = .ok .next r' ∧ I (k + ds.length) r'
  | [], k, r, h0, _ => ⟨r, rfl, h0⟩
  | d :: ds, k, r, h0, st => by
    obtain ⟨l, r1, e1, e2, e3, h1⟩ := st 0 d r rfl h0
    obtain ⟨r', e4, h2⟩ := for_inv I ds (k + 1) r1 h1 fun i d r hi h => by
      obtain ⟨l, r', a, b, c, h3⟩ := st (i + 1) d r (by simpa using hi) (by rw [show k + (i + 1) = k + 1 + i by omega]; exact h)
      exact ⟨l, r', a, b, c, by rw [show k + 1 + i + 1 = k + (i + 1) + 1 by omega]; exact h3⟩
    refine ⟨r', ?_, by rw [List.length_cons, show k + (ds.length + 1) = k + 1 + ds.length by omega]; exact h2⟩
    unfold forD
    rcases e3 with e3 | e3 <;> simp only [e1, e2, if_true, e3, e4]
/-- a for loop that ends where q holds first -/
theorem for_find {g : PyData → Option (List (Nat × PyData))} {body : PEn → Out Fl} {q : PyData → Bool} {v : Val} (I : PEn → Prop) : ∀ (ds : List PyData) (r : PEn), I r →
    (∀ d r, d ∈ ds → I r → ∃ l r', g d = some l ∧ frees l r = true ∧ body (setE l r) = .ok (if q d = true then .ret v else .next) r' ∧ I r') → ∃ r', forD g body ds r = .ok (if ds.any q = true then .ret v else .next) r' ∧ I r'
  | [], r, h0, _ => ⟨r, rfl, h0⟩
  | d :: ds, r, h0, st => by
    obtain ⟨l, r1, e1, e2, e3, h1⟩ := st d r (List.mem_cons_self ..) h0
    unfold forD
    cases z : q d with
    | true =>
      rw [z] at e3
      refine ⟨r1, ?_, h1⟩
      have e3 : body (setE l r) = .ok (.ret v) r1 := e3
      simp only [e1, e2, if_true, e3, List.any_cons, z, Bool.true_or]
    | false =>
      rw [z] at e3
      have e3 : body (setE l r) = .ok .next r1 := e3
      obtain ⟨r', e4, h2⟩ := for_find I ds r1 h1 fun d r hd h => st d r (List.mem_cons_of_mem _ hd) h
      refine ⟨r', ?_, h2⟩
      simp only [e1, e2, if_true, e3, List.any_cons, z, Bool.false_or]
      exact e4
/-- a comprehension without an end ahead: J at i items done -/
theorem lc_inv {own : List Nat} {g : PyData → Option (List (Nat × PyData))} {t : PEn → Out Bool} {f : PEn → Out Val} (J : Nat → List PyData → PEn → Prop) : ∀ (ds : List PyData) (k : Nat) (acc : List PyData) (r : PEn), J k acc r →
    (∀ i d acc r, ds[i]? = some d → J (k + i) acc r → ∃ l r2, g d = some l ∧ within l own = true ∧ ((t (setE l r) = .ok true r2 ∧ ∃ v r3 e r4, f r2 = .ok v r3 ∧ v.fz r3 = some (e, r4) ∧ J (k + i + 1) (acc ++ [e]) (wipeE r4 own)) ∨ (t (setE l r) = .ok false r2 ∧ J (k + i + 1) acc (wipeE r2 own)))) →
    ∃ acc' r', lcD own g t f ds acc r = .ok acc' r' ∧ J (k + ds.length) acc' r'
  | [], k, acc, r, h0, _ => ⟨acc, r, rfl, h0⟩
  | d :: ds, k, acc, r, h0, st => by
    obtain ⟨l, r2, e1, e2, e3⟩ := st 0 d acc r rfl h0
    have more : ∀ acc1 r1, J (k + 0 + 1) acc1 r1 → ∃ acc' r', lcD own g t f ds acc1 r1 = .ok acc' r' ∧ J (k + (ds.length + 1)) acc' r' := fun acc1 r1 h1 => by
      obtain ⟨acc', r', e4, h2⟩ := lc_inv J ds (k + 1) acc1 r1 h1 fun i d acc r hi h => by
        have := st (i + 1) d acc r (by simpa using hi) (by rw [show k + (i + 1) = k + 1 + i by omega]; exact h)
        rw [show k + 1 + i + 1 = k + (i + 1) + 1 by omega]
        exact this
      exact ⟨acc', r', e4, by rw [show k + (ds.length + 1) = k + 1 + ds.length by omega]; exact h2⟩
    rcases e3 with ⟨e3, v, r3, e, r4, e5, e6, h1⟩ | ⟨e3, h1⟩
    · obtain ⟨acc', r', e4, h2⟩ := more _ _ h1
      refine ⟨acc', r', ?_, h2⟩
      unfold lcD
      simp only [e1, e2, if_true, e3, e5, e6, e4]
    · obtain ⟨acc', r', e4, h2⟩ := more _ _ h1
      refine ⟨acc', r', ?_, h2⟩
      unfold lcD
      simp only [e1, e2, if_true, e3, e4]
end
end PD

/-! PDPen: the drawing of numbers: the four first defs of each law. -/
namespace PD
open PySem PySem.Spec PyProof.Rows L2
def gPen : PEn → Out Fl :=
  sRet (eLst (aCons (eOp1 gList (eSl (eVar 0) (oNo) (oYes (eC (.int 63))))) (aCons (eC (.int 0)) (aCons (eC (.int 0)) (aNil)))))
def MPen : List Arg → FO := den gPen 1 1
def gFresh : PEn → Out Fl :=
  sSeq (sPar [1, 2] (aCons (eOp2 gIx (eVar 0) (eC (.int 1))) (aCons (eOp2 gIx (eVar 0) (eC (.int 0))) (aNil)))) (sSeq (sStore 0 (eC (.int 1)) (eOp2 gAdd (eVar 1) (eC (.int 1)))) (sSeq (sSet 3 (eIf (tBoo (eOp2 gNe (eVar 2) (eLst (aNil)))) (eOp2 gIx (eVar 2) (eOp2 gMod (eOp1 gInt (eVar 1)) (eOp1 gLen (eVar 2)))) (eC (.int 0)))) (sSeq (sIf (tAndD (tBoo (eOp2 gLt (eVar 1) (eOp1 gLen (eVar 2)))) (tBoo (eOp2 gGe (eVar 3) (eOp2 gPow (eC (.int 10)) (eC (.int 18)))))) (sRet (eOp2 gSub (eVar 3) (eOp2 gPow (eC (.int 10)) (eC (.int 18))))) (sSkip)) (sSeq (sSet 4 (eC (.int 2305843009213693951))) (sSeq (sSet 5 (eOp2 gMod (eOp1 gInt (eOp2 gAdd (eOp2 gAdd (eOp2 gMul (eVar 3) (eC (.int 48271))) (eOp2 gMul (eC (.int 60013)) (eVar 1))) (eC (.int 31)))) (eVar 4))) (sSeq (sSet 6 (eVar 5)) (sSeq (sFor (iRange1 (eC (.int 6))) (gNm 7) (sSeq (sSet 5 (eOp2 gMod (eOp1 gInt (eOp2 gAdd (eOp2 gAdd (eOp2 gMul (eVar 5) (eVar 5)) (eOp2 gMul (eOp2 gMul (eC (.int 70139)) (eOp2 gAdd (eVar 7) (eC (.int 5)))) (eOp2 gAdd (eVar 1) (eC (.int 1))))) (eVar 3))) (eVar 4))) (sSet 6 (eOp2 gAdd (eOp2 gMul (eVar 6) (eVar 4)) (eVar 5))))) (sRet (eVar 6)))))))))
def MFresh : List Arg → FO := den gFresh 1 8
def gDraw : PEn → Out Fl :=
  sSeq (sIf (tBoo (eOp2 gLt (eOp2 gIx (eVar 0) (eC (.int 2))) (eVar 1))) (sStore 0 (eC (.int 2)) (eCall MFresh [true] (aCons (eVar 0) (aNil)))) (sSkip)) (sSeq (sSet 2 (eOp2 gMod (eOp1 gInt (eOp2 gIx (eVar 0) (eC (.int 2)))) (eVar 1))) (sSeq (sStore 0 (eC (.int 2)) (eOp2 gFdiv (eOp1 gInt (eOp2 gIx (eVar 0) (eC (.int 2)))) (eVar 1))) (sRet (eVar 2))))
def MDraw : List Arg → FO := den gDraw 2 3
def gOne : PEn → Out Fl :=
  sRet (eOp2 gIx (eVar 1) (eCall MDraw [true, false] (aCons (eVar 0) (aCons (eOp1 gLen (eVar 1)) (aNil)))))
def MOne : List Arg → FO := den gOne 2 2
theorem den_ret {g : PEn → Out Fl} {n N : Nat} {as as' : List Arg} {z : Rs} {v : Val} {r : PEn} (hn : as.length = n) (h : g (as.map Arg.sl ++ List.replicate (N - n) .u) = .ok (.ret v) r) (hv : v.out r = some z) (hb : argsBack as r = as') : den g n N as = .ok z as' := by
  unfold den
  rw [if_pos hn, h]
  simp only [hv, hb]
section
variable {α : Type} {a b c : α} {l : List α}
theorem atI_0 : atI (a :: l) 0 = some a := atI_nat (xs := a :: l) (j := 0) rfl
theorem atI_1 : atI (a :: b :: l) 1 = some b := atI_nat (xs := a :: b :: l) (j := 1) rfl
theorem atI_2 : atI (a :: b :: c :: l) 2 = some c := atI_nat (xs := a :: b :: c :: l) (j := 2) rfl
end
theorem ixN_1 {n : Nat} : ixN (n + 1 + 1) 1 = some 1 := by unfold ixN; rw [if_pos (by decide), if_pos (by omega)]; rfl
theorem ixN_2 {n : Nat} : ixN (n + 1 + 1 + 1) 2 = some 2 := by unfold ixN; rw [if_pos (by decide), if_pos (by omega)]; rfl
/-- a place that is there -/
theorem atI_mod {α : Type} {xs : List α} {i : Int} (h : xs ≠ []) : ∃ x, x ∈ xs ∧ atI xs (i.fmod (xs.length : Nat)) = some x := by
  have hp : 0 < xs.length := List.length_pos_iff.mpr h
  have h0 : 0 ≤ i.fmod (xs.length : Nat) := Int.fmod_nonneg_of_pos i (by omega)
  have h1 : i.fmod (xs.length : Nat) < (xs.length : Nat) := Int.fmod_lt_of_pos i (by omega)
  obtain ⟨n, hn⟩ := Int.eq_ofNat_of_zero_le h0
  have hl : n < xs.length := by omega
  refine ⟨xs[n], List.getElem_mem hl, ?_⟩
  rw [hn]
  exact atI_nat (List.getElem?_eq_getElem hl)
theorem at_map {α β : Type} (f : α → β) (xs : List α) (i : Int) : atI (xs.map f) i = (atI xs i).map f := by
  unfold atI
  rw [List.length_map]
  cases ixN xs.length i with
  | none => rfl
  | some j => simp
def PenL (p : List PyData) : Prop := ∃ (ns : List Int) (seat left : Int), p = [.list (ns.map .int), .int seat, .int left]
mutual
theorem canLay_ints : ∀ ns : List Int, PyData.canLayAll0 (ns.map .int) = true
  | [] => rfl
  | n :: ns => by rw [List.map_cons, PyData.canLayAll0, canLay_ints ns]; rfl
end
theorem depth_intsL : ∀ ns : List Int, PyData.depthAll (ns.map .int) = 0
  | [] => rfl
  | n :: ns => by rw [List.map_cons, PyData.depthAll, depth_intsL ns]; rfl
theorem shaped_ints (ns : List Int) : SeqAt.shaped (.list (ns.map .int)) = true := by
  unfold SeqAt.shaped
  rw [PyData.canLay0, canLay_ints, PyData.depth, depth_intsL]
  rfl
theorem eqv_nil {ns : List Int} : PyData.eqv (.list (ns.map .int)) (.list []) = ns.isEmpty := by
  cases ns with
  | nil => rfl
  | cons n ns => rfl

theorem fresh_ok (ns : List Int) (seat left : Int) : ∃ x : Int, MFresh [.l [.list (ns.map .int), .int seat, .int left]] = .ok (.v (.int x)) [.l [.list (ns.map .int), .int (seat + 1), .int left]] := by
  -- the pen, behind its first two rows
  have s1 : sPar [1, 2] (aCons (eOp2 gIx (eVar 0) (eC (.int 1))) (aCons (eOp2 gIx (eVar 0) (eC (.int 0))) (aNil))) [.l true [.list (ns.map .int), .int seat, .int left], .u, .u, .u, .u, .u, .u, .u]
      = .ok .next [.l true [.list (ns.map .int), .int seat, .int left], .d (.int seat), .d (.list (ns.map .int)), .u, .u, .u, .u, .u] := by
    simp only [sSkip, sSeq, sExpr, sRet, sIf, sSet, asg, sUnp, unp, sPar, asgs, sStore, eVar, eC, eOp1, eOp2, eOpN, op1, op2, opN, rds, eTup, eLst, mkT, mkL, fzs, Val.fz, Val.rd, Rs.val, aNil, aCons, tTru, tBoo, tru, boo, tAndD, tOrD, tNotD, eAndD, eOrD, eNotD, eIf, eChain, Out.bind, eSl, oNo, oYes, oInt, gTp, gsC, gsN, gNm, setE, frees, free, iSeq, srcOf, seqOf, iZipD, zipS, iRange1, rng1, iRange2, rng2, iEnumD, eDict0, eApp, eExt, ePopAt, argsBack, Val.out, Arg.sl, List.getElem?_cons_zero, List.getElem?_cons_succ, List.getElem?_nil, List.set_cons_zero, List.set_cons_succ, List.map_cons, List.map_nil, List.cons_append, List.nil_append, List.replicate_succ, List.replicate_zero, List.foldl_cons, List.foldl_nil, List.all_cons, List.all_nil, Option.map_some, Option.map_none, Option.some.injEq, if_true, if_false, ite_true, ite_false, Bool.and_true, Bool.true_and, Bool.and_self, reduceIte, Bool.not_true, Bool.not_false, Bool.false_eq_true, reduceCtorEq, List.length_cons, List.length_nil, gIx, atI_0, atI_1]
  have s2 : sStore 0 (eC (.int 1)) (eOp2 gAdd (eVar 1) (eC (.int 1))) [.l true [.list (ns.map .int), .int seat, .int left], .d (.int seat), .d (.list (ns.map .int)), .u, .u, .u, .u, .u]
      = .ok .next [.l true [.list (ns.map .int), .int (seat + 1), .int left], .d (.int seat), .d (.list (ns.map .int)), .u, .u, .u, .u, .u] := by
    simp only [sSkip, sSeq, sExpr, sRet, sIf, sSet, asg, sUnp, unp, sPar, asgs, sStore, eVar, eC, eOp1, eOp2, eOpN, op1, op2, opN, rds, eTup, eLst, mkT, mkL, fzs, Val.fz, Val.rd, Rs.val, aNil, aCons, tTru, tBoo, tru, boo, tAndD, tOrD, tNotD, eAndD, eOrD, eNotD, eIf, eChain, Out.bind, eSl, oNo, oYes, oInt, gTp, gsC, gsN, gNm, setE, frees, free, iSeq, srcOf, seqOf, iZipD, zipS, iRange1, rng1, iRange2, rng2, iEnumD, eDict0, eApp, eExt, ePopAt, argsBack, Val.out, Arg.sl, List.getElem?_cons_zero, List.getElem?_cons_succ, List.getElem?_nil, List.set_cons_zero, List.set_cons_succ, List.map_cons, List.map_nil, List.cons_append, List.nil_append, List.replicate_succ, List.replicate_zero, List.foldl_cons, List.foldl_nil, List.all_cons, List.all_nil, Option.map_some, Option.map_none, Option.some.injEq, if_true, if_false, ite_true, ite_false, Bool.and_true, Bool.true_and, Bool.and_self, reduceIte, Bool.not_true, Bool.not_false, Bool.false_eq_true, reduceCtorEq, List.length_cons, List.length_nil, gAdd, ixN_1]
  obtain ⟨cell, s3⟩ : ∃ cell : Int, sSet 3 (eIf (tBoo (eOp2 gNe (eVar 2) (eLst (aNil)))) (eOp2 gIx (eVar 2) (eOp2 gMod (eOp1 gInt (eVar 1)) (eOp1 gLen (eVar 2)))) (eC (.int 0))) [.l true [.list (ns.map .int), .int (seat + 1), .int left], .d (.int seat), .d (.list (ns.map .int)), .u, .u, .u, .u, .u]
      = .ok .next [.l true [.list (ns.map .int), .int (seat + 1), .int left], .d (.int seat), .d (.list (ns.map .int)), .d (.int cell), .u, .u, .u, .u] := by
    have sh := shaped_ints ns
    have sh0 : SeqAt.shaped (.list []) = true := rfl
    have eN := eqv_nil (ns := ns)
    cases hn : ns with
    | nil =>
      subst hn
      refine ⟨0, ?_⟩
      have gn0 : gNe (.list []) (.list []) = some (.v (.bool false)) := by rw [gNe_sh rfl rfl rfl]; rfl
      simp only [sSkip, sSeq, sExpr, sRet, sIf, sSet, asg, sUnp, unp, sPar, asgs, sStore, eVar, eC, eOp1, eOp2, eOpN, op1, op2, opN, rds, eTup, eLst, mkT, mkL, fzs, Val.fz, Val.rd, Rs.val, aNil, aCons, tTru, tBoo, tru, boo, tAndD, tOrD, tNotD, eAndD, eOrD, eNotD, eIf, eChain, Out.bind, eSl, oNo, oYes, oInt, gTp, gsC, gsN, gNm, setE, frees, free, iSeq, srcOf, seqOf, iZipD, zipS, iRange1, rng1, iRange2, rng2, iEnumD, eDict0, eApp, eExt, ePopAt, argsBack, Val.out, Arg.sl, List.getElem?_cons_zero, List.getElem?_cons_succ, List.getElem?_nil, List.set_cons_zero, List.set_cons_succ, List.map_cons, List.map_nil, List.cons_append, List.nil_append, List.replicate_succ, List.replicate_zero, List.foldl_cons, List.foldl_nil, List.all_cons, List.all_nil, Option.map_some, Option.map_none, Option.some.injEq, if_true, if_false, ite_true, ite_false, Bool.and_true, Bool.true_and, Bool.and_self, reduceIte, Bool.not_true, Bool.not_false, Bool.false_eq_true, reduceCtorEq, List.length_cons, List.length_nil, gn0, few, Nat.zero_le]
    | cons m ms =>
      rw [hn] at sh eN
      obtain ⟨x, hx, e⟩ := atI_mod (xs := m :: ms) (i := seat) (by simp)
      refine ⟨x, ?_⟩
      have e2 : atI (List.map PyData.int (m :: ms)) (seat.fmod ((List.map PyData.int (m :: ms)).length : Nat)) = some (.int x) := by
        rw [List.length_map, at_map, e]
        rfl
      have ne : ((List.map PyData.int (m :: ms)).length : Int) ≠ 0 := by simp; omega
      have sh1 : SeqAt.shaped (.list (List.map PyData.int (m :: ms))) = true := sh
      have eN1 : PyData.eqv (.list (List.map PyData.int (m :: ms))) (.list []) = false := eN
      have gn1 : gNe (.list (List.map PyData.int (m :: ms))) (.list []) = some (.v (.bool true)) := by rw [gNe_sh rfl sh1 rfl, eN1]; rfl
      generalize List.map PyData.int (m :: ms) = given at *
      simp only [sSet, eIf, tBoo, eOp2, eOp1, eVar, eC, List.getElem?_cons_zero, List.getElem?_cons_succ, Out.bind, eLst, aNil, mkL, fzs, few, List.length_nil, Nat.zero_le, if_true, op2, Val.rd, gn1, Rs.val, boo, Bool.not_false, op1, gInt, gLen, gMod, ne, ne_eq, not_false_eq_true, gIx, e2, Option.map_some, asg, free, List.set_cons_zero, List.set_cons_succ]
  -- the cell of the script is given, or a number is made
  have s4 : ∃ fl : Bool, tAndD (tBoo (eOp2 gLt (eVar 1) (eOp1 gLen (eVar 2)))) (tBoo (eOp2 gGe (eVar 3) (eOp2 gPow (eC (.int 10)) (eC (.int 18))))) [.l true [.list (ns.map .int), .int (seat + 1), .int left], .d (.int seat), .d (.list (ns.map .int)), .d (.int cell), .u, .u, .u, .u]
      = .ok fl [.l true [.list (ns.map .int), .int (seat + 1), .int left], .d (.int seat), .d (.list (ns.map .int)), .d (.int cell), .u, .u, .u, .u] := by
    have p18 : gPow (.int 10) (.int 18) = some (.v (.int (10 ^ 18))) := by rfl
    by_cases h : seat < ((List.map PyData.int ns).length : Nat)
    · exact ⟨decide ((10 : Int) ^ 18 ≤ cell), by simp only [sSkip, sSeq, sExpr, sRet, sIf, sSet, asg, sUnp, unp, sPar, asgs, sStore, eVar, eC, eOp1, eOp2, eOpN, op1, op2, opN, rds, eTup, eLst, mkT, mkL, fzs, Val.fz, Val.rd, Rs.val, aNil, aCons, tTru, tBoo, tru, boo, tAndD, tOrD, tNotD, eAndD, eOrD, eNotD, eIf, eChain, Out.bind, eSl, oNo, oYes, oInt, gTp, gsC, gsN, gNm, setE, frees, free, iSeq, srcOf, seqOf, iZipD, zipS, iRange1, rng1, iRange2, rng2, iEnumD, eDict0, eApp, eExt, ePopAt, argsBack, Val.out, Arg.sl, List.getElem?_cons_zero, List.getElem?_cons_succ, List.getElem?_nil, List.set_cons_zero, List.set_cons_succ, List.map_cons, List.map_nil, List.cons_append, List.nil_append, List.replicate_succ, List.replicate_zero, List.foldl_cons, List.foldl_nil, List.all_cons, List.all_nil, Option.map_some, Option.map_none, Option.some.injEq, if_true, if_false, ite_true, ite_false, Bool.and_true, Bool.true_and, Bool.and_self, reduceIte, Bool.not_true, Bool.not_false, Bool.false_eq_true, reduceCtorEq, List.length_cons, List.length_nil, gLt, gLen, gGe, p18, h, decide_true]⟩
    · exact ⟨false, by simp only [sSkip, sSeq, sExpr, sRet, sIf, sSet, asg, sUnp, unp, sPar, asgs, sStore, eVar, eC, eOp1, eOp2, eOpN, op1, op2, opN, rds, eTup, eLst, mkT, mkL, fzs, Val.fz, Val.rd, Rs.val, aNil, aCons, tTru, tBoo, tru, boo, tAndD, tOrD, tNotD, eAndD, eOrD, eNotD, eIf, eChain, Out.bind, eSl, oNo, oYes, oInt, gTp, gsC, gsN, gNm, setE, frees, free, iSeq, srcOf, seqOf, iZipD, zipS, iRange1, rng1, iRange2, rng2, iEnumD, eDict0, eApp, eExt, ePopAt, argsBack, Val.out, Arg.sl, List.getElem?_cons_zero, List.getElem?_cons_succ, List.getElem?_nil, List.set_cons_zero, List.set_cons_succ, List.map_cons, List.map_nil, List.cons_append, List.nil_append, List.replicate_succ, List.replicate_zero, List.foldl_cons, List.foldl_nil, List.all_cons, List.all_nil, Option.map_some, Option.map_none, Option.some.injEq, if_true, if_false, ite_true, ite_false, Bool.and_true, Bool.true_and, Bool.and_self, reduceIte, Bool.not_true, Bool.not_false, Bool.false_eq_true, reduceCtorEq, List.length_cons, List.length_nil, gLt, gLen, h, decide_false]⟩
  obtain ⟨fl, s4⟩ := s4
  cases fl with
  | true =>
    refine ⟨cell - 10 ^ 18, den_ret rfl (v := .v (.int (cell - 10 ^ 18))) (r := [.l true [.list (ns.map .int), .int (seat + 1), .int left], .d (.int seat), .d (.list (ns.map .int)), .d (.int cell), .u, .u, .u, .u]) ?_ rfl rfl⟩
    have p18 : gPow (.int 10) (.int 18) = some (.v (.int (10 ^ 18))) := by rfl
    show gFresh [.l true [.list (ns.map .int), .int seat, .int left], .u, .u, .u, .u, .u, .u, .u] = _
    unfold gFresh
    rw [seqN s1, seqN s2, seqN s3]
    refine seqR ?_
    unfold sIf
    rw [s4]
    simp only [sSkip, sSeq, sExpr, sRet, sIf, sSet, asg, sUnp, unp, sPar, asgs, sStore, eVar, eC, eOp1, eOp2, eOpN, op1, op2, opN, rds, eTup, eLst, mkT, mkL, fzs, Val.fz, Val.rd, Rs.val, aNil, aCons, tTru, tBoo, tru, boo, tAndD, tOrD, tNotD, eAndD, eOrD, eNotD, eIf, eChain, Out.bind, eSl, oNo, oYes, oInt, gTp, gsC, gsN, gNm, setE, frees, free, iSeq, srcOf, seqOf, iZipD, zipS, iRange1, rng1, iRange2, rng2, iEnumD, eDict0, eApp, eExt, ePopAt, argsBack, Val.out, Arg.sl, List.getElem?_cons_zero, List.getElem?_cons_succ, List.getElem?_nil, List.set_cons_zero, List.set_cons_succ, List.map_cons, List.map_nil, List.cons_append, List.nil_append, List.replicate_succ, List.replicate_zero, List.foldl_cons, List.foldl_nil, List.all_cons, List.all_nil, Option.map_some, Option.map_none, Option.some.injEq, if_true, if_false, ite_true, ite_false, Bool.and_true, Bool.true_and, Bool.and_self, reduceIte, Bool.not_true, Bool.not_false, Bool.false_eq_true, reduceCtorEq, List.length_cons, List.length_nil, gSub, p18]
  | false =>
    have s5 : sSet 4 (eC (.int 2305843009213693951)) [.l true [.list (ns.map .int), .int (seat + 1), .int left], .d (.int seat), .d (.list (ns.map .int)), .d (.int cell), .u, .u, .u, .u]
        = .ok .next [.l true [.list (ns.map .int), .int (seat + 1), .int left], .d (.int seat), .d (.list (ns.map .int)), .d (.int cell), .d (.int 2305843009213693951), .u, .u, .u] := by
      simp only [sSkip, sSeq, sExpr, sRet, sIf, sSet, asg, sUnp, unp, sPar, asgs, sStore, eVar, eC, eOp1, eOp2, eOpN, op1, op2, opN, rds, eTup, eLst, mkT, mkL, fzs, Val.fz, Val.rd, Rs.val, aNil, aCons, tTru, tBoo, tru, boo, tAndD, tOrD, tNotD, eAndD, eOrD, eNotD, eIf, eChain, Out.bind, eSl, oNo, oYes, oInt, gTp, gsC, gsN, gNm, setE, frees, free, iSeq, srcOf, seqOf, iZipD, zipS, iRange1, rng1, iRange2, rng2, iEnumD, eDict0, eApp, eExt, ePopAt, argsBack, Val.out, Arg.sl, List.getElem?_cons_zero, List.getElem?_cons_succ, List.getElem?_nil, List.set_cons_zero, List.set_cons_succ, List.map_cons, List.map_nil, List.cons_append, List.nil_append, List.replicate_succ, List.replicate_zero, List.foldl_cons, List.foldl_nil, List.all_cons, List.all_nil, Option.map_some, Option.map_none, Option.some.injEq, if_true, if_false, ite_true, ite_false, Bool.and_true, Bool.true_and, Bool.and_self, reduceIte, Bool.not_true, Bool.not_false, Bool.false_eq_true, reduceCtorEq, List.length_cons, List.length_nil]
    have mulc : ∀ x y : Int, (-(2 ^ 64) < y ∧ y < 2 ^ 64) → gMul (.int x) (.int y) = some (.v (.int (x * y))) := fun x y h => if_pos (.inr (.inr h))
    have mulc2 : ∀ x y : Int, (-(2 ^ 64) < x ∧ x < 2 ^ 64) → gMul (.int x) (.int y) = some (.v (.int (x * y))) := fun x y h => if_pos (.inr (.inl h))
    have pr : (0 : Int) < 2305843009213693951 := by decide
    have md : ∀ x : Int, gMod (.int x) (.int 2305843009213693951) = some (.v (.int (x.fmod 2305843009213693951))) := fun x => by
      show (if (2305843009213693951 : Int) ≠ 0 then some (Rs.v (.int (x.fmod 2305843009213693951))) else none) = _
      rw [if_pos (by decide)]
    have lt : ∀ x : Int, 0 ≤ x.fmod 2305843009213693951 ∧ x.fmod 2305843009213693951 < 2305843009213693951 := fun x => ⟨Int.fmod_nonneg_of_pos x pr, Int.fmod_lt_of_pos x pr⟩
    obtain ⟨st, hst, s6⟩ : ∃ st : Int, (0 ≤ st ∧ st < 2305843009213693951) ∧ sSet 5 (eOp2 gMod (eOp1 gInt (eOp2 gAdd (eOp2 gAdd (eOp2 gMul (eVar 3) (eC (.int 48271))) (eOp2 gMul (eC (.int 60013)) (eVar 1))) (eC (.int 31)))) (eVar 4)) [.l true [.list (ns.map .int), .int (seat + 1), .int left], .d (.int seat), .d (.list (ns.map .int)), .d (.int cell), .d (.int 2305843009213693951), .u, .u, .u]
        = .ok .next [.l true [.list (ns.map .int), .int (seat + 1), .int left], .d (.int seat), .d (.list (ns.map .int)), .d (.int cell), .d (.int 2305843009213693951), .d (.int st), .u, .u] := by
      refine ⟨_, lt (cell * 48271 + 60013 * seat + 31), ?_⟩
      simp only [sSkip, sSeq, sExpr, sRet, sIf, sSet, asg, sUnp, unp, sPar, asgs, sStore, eVar, eC, eOp1, eOp2, eOpN, op1, op2, opN, rds, eTup, eLst, mkT, mkL, fzs, Val.fz, Val.rd, Rs.val, aNil, aCons, tTru, tBoo, tru, boo, tAndD, tOrD, tNotD, eAndD, eOrD, eNotD, eIf, eChain, Out.bind, eSl, oNo, oYes, oInt, gTp, gsC, gsN, gNm, setE, frees, free, iSeq, srcOf, seqOf, iZipD, zipS, iRange1, rng1, iRange2, rng2, iEnumD, eDict0, eApp, eExt, ePopAt, argsBack, Val.out, Arg.sl, List.getElem?_cons_zero, List.getElem?_cons_succ, List.getElem?_nil, List.set_cons_zero, List.set_cons_succ, List.map_cons, List.map_nil, List.cons_append, List.nil_append, List.replicate_succ, List.replicate_zero, List.foldl_cons, List.foldl_nil, List.all_cons, List.all_nil, Option.map_some, Option.map_none, Option.some.injEq, if_true, if_false, ite_true, ite_false, Bool.and_true, Bool.true_and, Bool.and_self, reduceIte, Bool.not_true, Bool.not_false, Bool.false_eq_true, reduceCtorEq, List.length_cons, List.length_nil, gAdd, mulc cell 48271 (by decide), mulc2 60013 seat (by decide), gInt, md]
    have s7 : sSet 6 (eVar 5) [.l true [.list (ns.map .int), .int (seat + 1), .int left], .d (.int seat), .d (.list (ns.map .int)), .d (.int cell), .d (.int 2305843009213693951), .d (.int st), .u, .u]
        = .ok .next [.l true [.list (ns.map .int), .int (seat + 1), .int left], .d (.int seat), .d (.list (ns.map .int)), .d (.int cell), .d (.int 2305843009213693951), .d (.int st), .d (.int st), .u] := by
      simp only [sSkip, sSeq, sExpr, sRet, sIf, sSet, asg, sUnp, unp, sPar, asgs, sStore, eVar, eC, eOp1, eOp2, eOpN, op1, op2, opN, rds, eTup, eLst, mkT, mkL, fzs, Val.fz, Val.rd, Rs.val, aNil, aCons, tTru, tBoo, tru, boo, tAndD, tOrD, tNotD, eAndD, eOrD, eNotD, eIf, eChain, Out.bind, eSl, oNo, oYes, oInt, gTp, gsC, gsN, gNm, setE, frees, free, iSeq, srcOf, seqOf, iZipD, zipS, iRange1, rng1, iRange2, rng2, iEnumD, eDict0, eApp, eExt, ePopAt, argsBack, Val.out, Arg.sl, List.getElem?_cons_zero, List.getElem?_cons_succ, List.getElem?_nil, List.set_cons_zero, List.set_cons_succ, List.map_cons, List.map_nil, List.cons_append, List.nil_append, List.replicate_succ, List.replicate_zero, List.foldl_cons, List.foldl_nil, List.all_cons, List.all_nil, Option.map_some, Option.map_none, Option.some.injEq, if_true, if_false, ite_true, ite_false, Bool.and_true, Bool.true_and, Bool.and_self, reduceIte, Bool.not_true, Bool.not_false, Bool.false_eq_true, reduceCtorEq, List.length_cons, List.length_nil]
    let I : Nat → PEn → Prop := fun _ r => ∃ (st found : Int) (lap : Sl), (lap = .u ∨ ∃ n : Int, lap = .d (.int n)) ∧ (0 ≤ st ∧ st < 2305843009213693951) ∧ r = [.l true [.list (ns.map .int), .int (seat + 1), .int left], .d (.int seat), .d (.list (ns.map .int)), .d (.int cell), .d (.int 2305843009213693951), .d (.int st), .d (.int found), lap]
    have s8 := for_inv (g := gNm 7) (body := sSeq (sSet 5 (eOp2 gMod (eOp1 gInt (eOp2 gAdd (eOp2 gAdd (eOp2 gMul (eVar 5) (eVar 5)) (eOp2 gMul (eOp2 gMul (eC (.int 70139)) (eOp2 gAdd (eVar 7) (eC (.int 5)))) (eOp2 gAdd (eVar 1) (eC (.int 1))))) (eVar 3))) (eVar 4))) (sSet 6 (eOp2 gAdd (eOp2 gMul (eVar 6) (eVar 4)) (eVar 5)))) I
      (rangeD 0 6) 0 [.l true [.list (ns.map .int), .int (seat + 1), .int left], .d (.int seat), .d (.list (ns.map .int)), .d (.int cell), .d (.int 2305843009213693951), .d (.int st), .d (.int st), .u] ⟨st, st, .u, .inl rfl, hst, rfl⟩ ?_
    · obtain ⟨r', e8, st', found', lap, _, _, rfl⟩ := s8
      refine ⟨found', den_ret rfl (v := .v (.int found')) (r := [.l true [.list (ns.map .int), .int (seat + 1), .int left], .d (.int seat), .d (.list (ns.map .int)), .d (.int cell), .d (.int 2305843009213693951), .d (.int st'), .d (.int found'), lap]) ?_ rfl rfl⟩
      show gFresh [.l true [.list (ns.map .int), .int seat, .int left], .u, .u, .u, .u, .u, .u, .u] = _
      unfold gFresh
      rw [seqN s1, seqN s2, seqN s3, seqN (r1 := [.l true [.list (ns.map .int), .int (seat + 1), .int left], .d (.int seat), .d (.list (ns.map .int)), .d (.int cell), .u, .u, .u, .u]) (by unfold sIf; rw [s4]; rfl), seqN s5, seqN s6, seqN s7, seqN (r1 := [.l true [.list (ns.map .int), .int (seat + 1), .int left], .d (.int seat), .d (.list (ns.map .int)), .d (.int cell), .d (.int 2305843009213693951), .d (.int st'), .d (.int found'), lap])]
      · simp only [sSkip, sSeq, sExpr, sRet, sIf, sSet, asg, sUnp, unp, sPar, asgs, sStore, eVar, eC, eOp1, eOp2, eOpN, op1, op2, opN, rds, eTup, eLst, mkT, mkL, fzs, Val.fz, Val.rd, Rs.val, aNil, aCons, tTru, tBoo, tru, boo, tAndD, tOrD, tNotD, eAndD, eOrD, eNotD, eIf, eChain, Out.bind, eSl, oNo, oYes, oInt, gTp, gsC, gsN, gNm, setE, frees, free, iSeq, srcOf, seqOf, iZipD, zipS, iRange1, rng1, iRange2, rng2, iEnumD, eDict0, eApp, eExt, ePopAt, argsBack, Val.out, Arg.sl, List.getElem?_cons_zero, List.getElem?_cons_succ, List.getElem?_nil, List.set_cons_zero, List.set_cons_succ, List.map_cons, List.map_nil, List.cons_append, List.nil_append, List.replicate_succ, List.replicate_zero, List.foldl_cons, List.foldl_nil, List.all_cons, List.all_nil, Option.map_some, Option.map_none, Option.some.injEq, if_true, if_false, ite_true, ite_false, Bool.and_true, Bool.true_and, Bool.and_self, reduceIte, Bool.not_true, Bool.not_false, Bool.false_eq_true, reduceCtorEq, List.length_cons, List.length_nil]
      · have hb : (6 : Int) ≤ big ∧ -big ≤ 6 := by decide
        unfold sFor iRange1 eC
        simp only [Out.bind, rng1, hb, and_self, if_true]
        exact e8
    · rintro i d r hi ⟨st, found, lap, hl, hst, rfl⟩
      have hi6 : i < 6 := by
        have := (List.getElem?_eq_some_iff.mp hi).1
        unfold rangeD at this
        rwa [List.length_map, List.length_range] at this
      have ed : d = .int ((i : Nat) : Int) := by
        unfold rangeD at hi
        rw [List.getElem?_map, List.getElem?_range hi6] at hi
        simp at hi
        exact hi.symm
      subst ed
      refine ⟨[(7, .int ((i : Nat) : Int))], [.l true [.list (ns.map .int), .int (seat + 1), .int left], .d (.int seat), .d (.list (ns.map .int)), .d (.int cell), .d (.int 2305843009213693951),
        .d (.int ((st * st + 70139 * (((i : Nat) : Int) + 5) * (seat + 1) + cell).fmod 2305843009213693951)), .d (.int (found * 2305843009213693951 + (st * st + 70139 * (((i : Nat) : Int) + 5) * (seat + 1) + cell).fmod 2305843009213693951)), .d (.int ((i : Nat) : Int))], rfl, ?_, .inl ?_, ?_⟩
      · rcases hl with rfl | ⟨n, rfl⟩ <;> rfl
      · have m1 := mulc st st (by omega)
        have m2 := mulc2 70139 (((i : Nat) : Int) + 5) (by decide)
        have m3 := mulc2 (70139 * (((i : Nat) : Int) + 5)) (seat + 1) (by omega)
        have m4 := mulc found 2305843009213693951 (by decide)
        rw [seqN (r1 := [.l true [.list (ns.map .int), .int (seat + 1), .int left], .d (.int seat), .d (.list (ns.map .int)), .d (.int cell), .d (.int 2305843009213693951),
          .d (.int ((st * st + 70139 * (((i : Nat) : Int) + 5) * (seat + 1) + cell).fmod 2305843009213693951)), .d (.int found), .d (.int ((i : Nat) : Int))])]
        · simp only [sSkip, sSeq, sExpr, sRet, sIf, sSet, asg, sUnp, unp, sPar, asgs, sStore, eVar, eC, eOp1, eOp2, eOpN, op1, op2, opN, rds, eTup, eLst, mkT, mkL, fzs, Val.fz, Val.rd, Rs.val, aNil, aCons, tTru, tBoo, tru, boo, tAndD, tOrD, tNotD, eAndD, eOrD, eNotD, eIf, eChain, Out.bind, eSl, oNo, oYes, oInt, gTp, gsC, gsN, gNm, setE, frees, free, iSeq, srcOf, seqOf, iZipD, zipS, iRange1, rng1, iRange2, rng2, iEnumD, eDict0, eApp, eExt, ePopAt, argsBack, Val.out, Arg.sl, List.getElem?_cons_zero, List.getElem?_cons_succ, List.getElem?_nil, List.set_cons_zero, List.set_cons_succ, List.map_cons, List.map_nil, List.cons_append, List.nil_append, List.replicate_succ, List.replicate_zero, List.foldl_cons, List.foldl_nil, List.all_cons, List.all_nil, Option.map_some, Option.map_none, Option.some.injEq, if_true, if_false, ite_true, ite_false, Bool.and_true, Bool.true_and, Bool.and_self, reduceIte, Bool.not_true, Bool.not_false, Bool.false_eq_true, reduceCtorEq, List.length_cons, List.length_nil, gAdd, m4]
        · have se : setE [(7, PyData.int ((i : Nat) : Int))] [.l true [.list (ns.map .int), .int (seat + 1), .int left], .d (.int seat), .d (.list (ns.map .int)), .d (.int cell), .d (.int 2305843009213693951), .d (.int st), .d (.int found), lap]
              = [.l true [.list (ns.map .int), .int (seat + 1), .int left], .d (.int seat), .d (.list (ns.map .int)), .d (.int cell), .d (.int 2305843009213693951), .d (.int st), .d (.int found), .d (.int ((i : Nat) : Int))] := rfl
          rw [se]
          have ad : ∀ x y : Int, gAdd (.int x) (.int y) = some (.v (.int (x + y))) := fun _ _ => rfl
          exact set_v (ed2 (ed1 (ed2 (ed2 (ed2 (evV rfl) (evV rfl) m1) (ed2 (ed2 evC (ed2 (evV rfl) evC (ad _ _)) m2) (ed2 (evV rfl) evC (ad _ _)) m3) (ad _ _)) (evV rfl) (ad _ _)) rfl) (evV rfl) (md _)) rfl
      · exact ⟨_, _, _, .inr ⟨_, rfl⟩, lt _, rfl⟩

/-- a step of the drawing: pen[2] = w -/
theorem store2 {q : Bool} {a b c : PyData} {f : PEn → Out Val} {w : PyData} {r r1 : PEn} {i : Nat} (h : f r = .ok (.v w) r1) (hi : r1[i]? = some (.l q [a, b, c])) : sStore i (eC (.int 2)) f r = .ok .next (r1.set i (.l q [a, b, w])) := by
  unfold sStore
  rw [h]
  simp only [Out.bind, Val.fz, hi, eC]
  rfl
theorem draw_ok {p : List PyData} (hp : PenL p) {b : Int} (hb : 0 < b) (hl : b.natAbs.log2 < 9000) : ∃ (d : Int) (p' : List PyData), PenL p' ∧ MDraw [.l p, .d (.int b)] = .ok (.v (.int d)) [.l p', .d (.int b)] ∧ 0 ≤ d ∧ d < b := by
  obtain ⟨ns, seat, left, rfl⟩ := hp
  have get2 : ∀ (x y z : PyData), gIx (.list [x, y, z]) (.int 2) = some (.v z) := fun _ _ _ => rfl
  have e2 : ∀ (x y z : PyData) (s1 s2 : Sl), eOp2 gIx (eVar 0) (eC (.int 2)) [.l true [x, y, z], s1, s2] = .ok (.v z) [.l true [x, y, z], s1, s2] := fun x y z s1 s2 => ev2v (evL rfl) evC rfl rfl (get2 _ _ _)
  obtain ⟨seat', left', s1⟩ : ∃ seat' left' : Int, sIf (tBoo (eOp2 gLt (eOp2 gIx (eVar 0) (eC (.int 2))) (eVar 1))) (sStore 0 (eC (.int 2)) (eCall MFresh [true] (aCons (eVar 0) (aNil)))) (sSkip) [.l true [.list (ns.map .int), .int seat, .int left], .d (.int b), .u]
      = .ok .next [.l true [.list (ns.map .int), .int seat', .int left'], .d (.int b), .u] := by
    have t : tBoo (eOp2 gLt (eOp2 gIx (eVar 0) (eC (.int 2))) (eVar 1)) [.l true [.list (ns.map .int), .int seat, .int left], .d (.int b), .u] = .ok (decide (left < b)) [.l true [.list (ns.map .int), .int seat, .int left], .d (.int b), .u] := tb_ (ed2 (e2 _ _ _ _ _) (evV rfl) rfl)
    cases z : decide (left < b) with
    | true =>
      rw [z] at t
      obtain ⟨x, hx⟩ := fresh_ok ns seat left
      refine ⟨seat + 1, x, ?_⟩
      rw [ifT t]
      exact store2 (call_pen0 rfl hx) rfl
    | false =>
      rw [z] at t
      exact ⟨seat, left, by rw [ifF t]; rfl⟩
  have md : gMod (.int left') (.int b) = some (.v (.int (left'.fmod b))) := by
    show (if b ≠ 0 then some (Rs.v (.int (left'.fmod b))) else none) = _
    rw [if_pos (by omega)]
  have fd : gFdiv (.int left') (.int b) = some (.v (.int (left' / b))) := by
    show (if 0 < b ∧ b.natAbs.log2 < 9000 then some (Rs.v (.int (left' / b))) else none) = _
    rw [if_pos ⟨hb, hl⟩]
  refine ⟨left'.fmod b, [.list (ns.map .int), .int seat', .int (left' / b)], ⟨ns, seat', left' / b, rfl⟩, ?_, Int.fmod_nonneg_of_pos _ hb, Int.fmod_lt_of_pos _ hb⟩
  refine den_ret rfl (v := .v (.int (left'.fmod b))) (r := [.l true [.list (ns.map .int), .int seat', .int (left' / b)], .d (.int b), .d (.int (left'.fmod b))]) ?_ rfl rfl
  show gDraw [.l true [.list (ns.map .int), .int seat, .int left], .d (.int b), .u] = _
  unfold gDraw
  have s2 : sSet 2 (eOp2 gMod (eOp1 gInt (eOp2 gIx (eVar 0) (eC (.int 2)))) (eVar 1)) [.l true [.list (ns.map .int), .int seat', .int left'], .d (.int b), .u] = .ok .next [.l true [.list (ns.map .int), .int seat', .int left'], .d (.int b), .d (.int (left'.fmod b))] := set_v (ed2 (ed1 (e2 _ _ _ _ _) rfl) (evV rfl) md) rfl
  have s3 : sStore 0 (eC (.int 2)) (eOp2 gFdiv (eOp1 gInt (eOp2 gIx (eVar 0) (eC (.int 2)))) (eVar 1)) [.l true [.list (ns.map .int), .int seat', .int left'], .d (.int b), .d (.int (left'.fmod b))] = .ok .next [.l true [.list (ns.map .int), .int seat', .int (left' / b)], .d (.int b), .d (.int (left'.fmod b))] :=
    store2 (ed2 (ed1 (e2 _ _ _ _ _) rfl) (evV rfl) fd) rfl
  rw [seqN s1, seqN s2, seqN s3]
  exact ret_ (evV rfl)
theorem one_ok {p : List PyData} (hp : PenL p) {xs : List PyData} (hx : xs ≠ []) (hl : xs.length < 4096) : ∃ (x : PyData) (p' : List PyData), PenL p' ∧ x ∈ xs ∧ MOne [.l p, .d (.list xs)] = .ok (.v x) [.l p', .d (.list xs)] := by
  have hpos : 0 < xs.length := List.length_pos_iff.mpr hx
  obtain ⟨d, p', hp', e, h0, h1⟩ := draw_ok hp (b := (xs.length : Nat)) (by omega) (by
    have : ((xs.length : Nat) : Int).natAbs.log2 < 12 := by
      rw [Int.natAbs_natCast]
      exact (Nat.log2_lt (by omega)).mpr hl
    omega)
  obtain ⟨n, hn⟩ := Int.eq_ofNat_of_zero_le h0
  have hnl : n < xs.length := by omega
  refine ⟨xs[n], p', hp', List.getElem_mem hnl, ?_⟩
  have at_ : gIx (.list xs) (.int d) = some (.v xs[n]) := by
    show (atI xs d).map Rs.v = _
    rw [hn]
    show Option.map Rs.v (atI xs ((n : Nat) : Int)) = _
    rw [atI_nat (List.getElem?_eq_getElem hnl)]
    rfl
  refine den_ret rfl (v := .v xs[n]) (r := [.l true p', .d (.list xs)]) ?_ rfl rfl
  show gOne [.l true p, .d (.list xs)] = _
  unfold gOne
  refine ret_ (ev2v (evV rfl) (r2 := [.l true p', .d (.list xs)]) (y := .v (.int d)) ?_ rfl rfl at_)
  exact call_pen rfl (ev1v (evV rfl) rfl rfl) rfl rfl e
theorem pen_ok {ns : List Int} : ∃ p', PenL p' ∧ MPen [.d (.list (ns.map .int))] = .ok (.n p') [.d (.list (ns.map .int))] := by
  refine ⟨[.list ((ns.take 63).map .int), .int 0, .int 0], ⟨ns.take 63, 0, 0, rfl⟩, ?_⟩
  refine den_ret rfl (v := .n [.list ((ns.take 63).map .int), .int 0, .int 0]) (r := [.d (.list (ns.map .int))]) ?_ rfl rfl
  show gPen [.d (.list (ns.map .int))] = _
  unfold gPen
  refine ret_ ?_
  have e : cutD (ns.map PyData.int) none (some 63) = (ns.take 63).map .int := by
    unfold cutD
    rw [show HT.sIx (ns.map PyData.int).length 0 none = 0 from rfl, List.drop_zero, Nat.sub_zero, List.map_take]
    show List.take (HT.sIx (ns.map PyData.int).length (ns.map PyData.int).length (some ((63 : Nat) : Int))) _ = _
    rw [HT.sIx_nat]
    rcases Nat.le_total 63 (ns.map PyData.int).length with h | h
    · rw [Nat.min_eq_left h]
    · rw [Nat.min_eq_right h, List.take_length, List.take_of_length_le h]
  have s1 : eSl (eVar 0) (oNo) (oYes (eC (.int 63))) [.d (.list (ns.map .int))] = .ok (.n ((ns.take 63).map .int)) [.d (.list (ns.map .int))] := by
    rw [← e]
    rfl
  have s2 : eOp1 gList (eSl (eVar 0) (oNo) (oYes (eC (.int 63)))) [.d (.list (ns.map .int))] = .ok (.n ((ns.take 63).map .int)) [.d (.list (ns.map .int))] := ev1n s1 rfl rfl
  unfold eLst aCons
  rw [s2]
  rfl
end PD

/-! PDCost: how long a text repr makes. -/
namespace PD
open PySem PySem.Spec PyProof.Rows L2
mutual
def cost : PyData → Nat
  | .none => 4
  | .bool _ => 5
  | .int i => i.natAbs.log2 + 2
  | .str z => (reprText z).length
  | .list xs => costs xs + 3
  | .tuple xs => costs xs + 3
  | .dict kvs => (dictText (PyData.shownKv kvs)).length
def costs : List PyData → Nat
  | [] => 0
  | x :: xs => cost x + 2 + costs xs
end
theorem listText_len (ts : List Str) : (listText ts).length ≤ piled ts + 2 := by
  unfold listText
  rw [strLen_append]
  cases ts with
  | nil => exact Nat.le_refl _
  | cons t r =>
    show (textFrom 1 (("[" : Str) ++ ("" : String) ++ t) r).length + 1 ≤ _
    rw [textFrom_length_pos r 1 _ (by omega), strLen_append, strLen_append]
    show 1 + 0 + t.length + piled r + 1 ≤ t.length + 2 + piled r + 2
    omega
theorem tupleText_len (ts : List Str) : (tupleText ts).length ≤ piled ts + 3 := by
  unfold tupleText
  rw [strLen_append, strLen_append]
  have h : (Str.join ", " ts).length ≤ piled ts := by
    by_cases e : ts = []
    · subst e; exact Nat.le_refl _
    · have := join_length_add ts e; omega
  have h2 : (Str.ofString (if (ts.length == 1) = true then ",)" else ")")).length ≤ 2 := by
    split
    · exact (by decide : (Str.ofString ",)").length ≤ 2)
    · exact (by decide : (Str.ofString ")").length ≤ 2)
  have h3 : (Str.ofString "(").length = 1 := by decide
  omega
mutual
theorem shown_le : ∀ d : PyData, d.shown.length ≤ cost d
  | .none => by show (Str.ofString "None").length ≤ 4; decide
  | .bool true => by show (Str.ofString "True").length ≤ 5; decide
  | .bool false => by show (Str.ofString "False").length ≤ 5; decide
  | .int i => by
    show (Str.ofString (toString i)).length ≤ i.natAbs.log2 + 2
    have h := int_text_length_le (a := i) (k := i.natAbs.log2 + 1) (by omega) (by omega)
    rw [PySem.ofString_length]
    omega
  | .str z => by show (reprText z).length ≤ _; exact Nat.le_refl _
  | .list xs => by
    show (listText (PyData.shownAll xs)).length ≤ costs xs + 3
    have := listText_len (PyData.shownAll xs)
    have := shownAll_le xs
    omega
  | .tuple xs => by
    show (tupleText (PyData.shownAll xs)).length ≤ costs xs + 3
    have := tupleText_len (PyData.shownAll xs)
    have := shownAll_le xs
    omega
  | .dict kvs => by show (dictText (PyData.shownKv kvs)).length ≤ _; exact Nat.le_refl _
theorem shownAll_le : ∀ xs : List PyData, piled (PyData.shownAll xs) ≤ costs xs
  | [] => Nat.le_refl _
  | x :: xs => by
    show x.shown.length + 2 + piled (PyData.shownAll xs) ≤ cost x + 2 + costs xs
    have := shown_le x
    have := shownAll_le xs
    omega
end
/-- what repr takes -/
def Nice (c : Nat) (d : PyData) : Prop := d.showable = true ∧ d.depth ≤ 50 ∧ cost d ≤ c
theorem repr_ok {d : PyData} {c : Nat} (h : Nice c d) (hc : c ≤ many) : gRepr d = some (.v (.str d.shown)) := if_pos ⟨h.1, by have := h.2.1; omega, Nat.le_trans (shown_le d) (Nat.le_trans h.2.2 hc)⟩
theorem costs_le {c : Nat} : ∀ {xs : List PyData}, (∀ x ∈ xs, cost x ≤ c) → costs xs ≤ xs.length * (c + 2)
  | [], _ => Nat.zero_le _
  | x :: xs, h => by
    have h1 := h x (List.mem_cons_self ..)
    have h2 := costs_le fun y hy => h y (List.mem_cons_of_mem _ hy)
    show cost x + 2 + costs xs ≤ (xs.length + 1) * (c + 2)
    rw [Nat.add_mul, Nat.one_mul]
    omega
theorem len_costs : ∀ xs : List PyData, xs.length ≤ costs xs
  | [] => Nat.le_refl _
  | x :: xs => by
    have := len_costs xs
    show xs.length + 1 ≤ cost x + 2 + costs xs
    omega
theorem showableAll_of : ∀ {xs : List PyData}, (∀ x ∈ xs, x.showable = true) → PyData.showableAll xs = true
  | [], _ => rfl
  | x :: xs, h => by
    show (x.showable && PyData.showableAll xs) = true
    rw [h x (List.mem_cons_self ..), showableAll_of fun y hy => h y (List.mem_cons_of_mem _ hy)]
    rfl
theorem depthAll_of {n : Nat} : ∀ {xs : List PyData}, (∀ x ∈ xs, x.depth ≤ n) → PyData.depthAll xs ≤ n
  | [], _ => Nat.zero_le _
  | x :: xs, h => by
    have h1 := h x (List.mem_cons_self ..)
    have h2 := depthAll_of fun y hy => h y (List.mem_cons_of_mem _ hy)
    show max x.depth (PyData.depthAll xs) ≤ n
    omega
theorem Nice.tuple {c n : Nat} {xs : List PyData} (h : ∀ x ∈ xs, x.showable = true ∧ x.depth ≤ 49 ∧ cost x ≤ c) (hn : xs.length ≤ n) : Nice (n * (c + 2) + 3) (.tuple xs) := by
  refine ⟨?_, ?_, ?_⟩
  · show PyData.showableAll xs = true
    exact showableAll_of fun x hx => (h x hx).1
  · show PyData.depthAll xs + 1 ≤ 50
    have := depthAll_of (n := 49) fun x hx => (h x hx).2.1
    omega
  · show costs xs + 3 ≤ _
    have := costs_le fun x hx => (h x hx).2.2
    have := Nat.mul_le_mul_right (c + 2) hn
    omega
end PD

/-! PDRaise: own exceptions with one field: made, raised. -/
namespace PD
open PySem PySem.Spec PyProof.Rows L2
/-- what __init__(self, y) of such a class promises -/
def spI (K : PySem.W.Frag) (C : Addr) (f : Str) : Sp := fun vs H Q _ => ∃ (a : Addr) (y : V), vs = [.ref a, y] ∧ H a = some (exo a C none) ∧ ∀ dx, H dx = none → dx ≠ a → Q .non (upd (upd H dx (exd dx [(f, y)])) a (exo a C (some dx)))
/-- a class of exceptions -/
structure Xc (P : Program) (w : World) (K : PySem.W.Frag) (mg : Str → Option Value) (base : Heap) (cls f : String) : Prop where
  ex : ∃ (C fI : Addr) (fd : FuncData) (ps : List Str), mg (Str.ofString cls) = some (.ref C) ∧ OexC K C ∧ XfC K C ∧ PySem.W.findIn K (.ref C) (Str.ofString f) = some none ∧ PySem.W.findIn K (.ref C) "__init__" = some (some (.ref fI)) ∧
    PySem.W.typeIn K (.ref fI) = some (.type "function") ∧ Binds K fd ps [] ∧ FnOk P w K mg base (L2.CX P w) 1 fI fd ps (spI K C (Str.ofString f)) ∧ PySem.W.exmOne K (.ref C) (.ref C) = some true
def sRaise (cls f : String) (fe : PEn → Out Val) : PEn → Out Fl := fun r => (fe r).bind fun v r1 => match v.fz r1 with
  | some (d, r2) => .exc ⟨cls, [(Str.ofString f, d)]⟩ r2
  | none => .bad
section
variable {X : Cx} {W : WX} {a : Expr} {p pos pos2 : Pos}
theorem s_raise {cls f : String} {fe : PEn → Out Val} (c : Xc X.prog X.w X.K X.mg X.base cls f) (hr : Rm 3 X.A) (hc : X.calm = true) (tk : Takes X W) (hg : Gl X (Str.ofString cls)) (ha : JE X W a fe)
    (hdb : (Str.ofString cls == ("__debug__" : Str)) = false := by decide) (he : starEach [a] X.env = (false, eval a X.env) :: starEach [] X.env := by rfl) : JS X W (.Raise (some (.Call (.Name (Str.ofString cls) p) [a] [] pos)) none pos2) (sRaise cls f fe) := by
  obtain ⟨C, fI, fd, ps, m, T, _, hno, iC, tI, b, F1, _⟩ := c.ex
  have mk := pmk_oex (pos := pos) (p := p) (dvs := []) T iC tI F1 (hr.rm.mono (by omega)) b .nil passL hg m (pa_cons ha pa_nil he) hdb he (by rfl)
  refine ps_mono (ps_raise hc tk mk) fun D σ H h => ?_
  obtain ⟨G, F, r, T0, q⟩ := h
  refine ⟨F, r, T0.rel, (SPost.bind T0 q).imp fun v r1 F1 H1 R1 S1 q1 x rx => ?_⟩
  refine ⟨by show 1 ≤ 1000; decide, fun e ne => ?_⟩
  cases z : v.fz r1 with
  | none => rw [z] at q1; exact q1.elim
  | some y =>
    obtain ⟨d, r2⟩ := y
    rw [z] at q1
    refine ⟨e, x, rfl, upd_same, fun dx ndx nde => ⟨rfl, dx, [(Str.ofString f, x)], upd_same, ?_, ?_, ?_⟩⟩
    · rw [upd_ne nde, upd_same]
    · rw [upd_ne nde] at ndx
      exact ndx
    · rw [upd_ne nde] at ndx
      obtain ⟨F2, s2, R2, dv, S2, _⟩ := fz1 R1 S1 rx.rz z
      have G2 := Grow.free (F := F2) R2.sub (o := HO.xd [(Str.ofString f, x)]) ndx
      have eH : upd (del (upd (upd (upd H1 e (exo e C none)) dx (exd dx [(Str.ofString f, x)])) e (exo e C (some dx))) e) dx (.xd [(Str.ofString f, x)]) = upd H1 dx (.xd [(Str.ofString f, x)]) := by
        funext b
        by_cases hb : b = dx
        · subst hb; rw [upd_same, upd_same]
        · rw [upd_ne hb, upd_ne hb]
          by_cases hb2 : b = e
          · subst hb2; rw [del_same, ne]
          · rw [del_ne hb2, upd_ne hb2, upd_ne hb, upd_ne hb2]
      rw [eH]
      refine q1 (.ref C) (some dx) σ F2 _ (T0.step (R2.grow G2) (S2.trans G2.stp)) ⟨m, dx, [(Str.ofString f, x)], rfl, upd_same, ?_, rfl, fun g y hy => ?_⟩
      · exact R2.sub.free ndx
      · by_cases hg : g = Str.ofString f
        · subst hg
          rw [List.lookup_cons_self] at hy ⊢
          cases hy
          exact ⟨x, rfl, dv⟩
        · have hb : (g == Str.ofString f) = false := beq_eq_false_iff_ne.mpr hg
          rw [List.lookup_cons, hb] at hy
          cases hy
end
/-- an exception of the class at S is what «except S» names -/
theorem exm_own {K : PySem.W.Frag} {S : Addr} (h1 : PySem.W.subIn K (.ref S) (.type "BaseException") = some true) (h2 : PySem.W.isClsIn K S = true) (h3 : PySem.W.typeIn K (.ref S) = some (.type "type")) (h4 : PySem.W.subIn K (.ref S) (.ref S) = some true) :
    PySem.W.exmOne K (.ref S) (.ref S) = some true := by
  have e2 : ((PySem.W.clsIn K S).isSome && PySem.W.typeIn K (.ref S) == some (.type "type")) = true := by
    rw [show (PySem.W.clsIn K S).isSome = true from h2, h3]
    rfl
  unfold PySem.W.exmOne
  rw [if_pos (by rw [h1]; rfl)]
  exact (if_pos e2).trans h4
/-- a constant of the module -/
theorem j_glob {X : Cx} {W : WX} {x : Str} {n : Int} {pos : Pos} (hm : ∃ t, X.mg x = some (.int n t)) (hg : Gl X x := by rfl) (hd : (x == ("__debug__" : Str)) = false := by decide) : JE X W (.Name x pos) (eC (.int n)) := by
  obtain ⟨t, hm⟩ := hm
  exact j_of_const (pe_glob hg hm (show RelV (.int n) (.int n t) from ⟨t, rfl⟩) hd) fun _ => .int n
theorem find_VEinit {K : PySem.W.Frag} : PySem.W.findCls K (.type "ValueError") (.type "type") "__init__" = some (.val (.builtin "ValueError.__init__")) := by kernel_rfl
/-- what the body of such an __init__ does -/
theorem init_read {K : PySem.W.Frag} {C a : Addr} {y : V} {f s1 s2 z : Str} {H : Hp} {Q : VK} (To : OexC K C) (hno : PySem.W.findIn K (.ref C) f = some none) (ha : H a = some (exo a C none)) (q : ∀ dx, H dx = none → dx ≠ a → Q .non (upd (upd H dx (exd dx [(f, y)])) a (exo a C (some dx)))) :
    tSeq (tDrop (tVeI K (tCons (tVar 0) (tCons (tC (.str z)) tNil)))) (tOst K f (tVar 0) (tVar 1)) { nx := fun _ H' => Q .non H', rt := Q } (start [s1, s2] [.ref a, y]) H :=
  ⟨_, rfl, a, C, [.str z], rfl, by show 1 ≤ 1000; decide, To, ha, _, rfl, _, rfl, a, C, rfl, To, hno, .inl ⟨ha, q⟩⟩
end PD

/-! PDTry: try: .. except C as n: return (a text, n.f). -/
namespace PD
open PySem PySem.Spec PyProof.Rows L2
section
variable {K : PySem.W.Frag} {G : Gm} {r : PEn} {σ : L2.St} {F H : Hp}
theorem Rel.set_u (R : Rel K F r σ H) (i : Nat) (o : Option V) : Rel K F (r.set i .u) (σ.set i o) H where
  len := by rw [List.length_set, List.length_set]; exact R.len
  sub := R.sub
  dat := fun j e h1 => by
    rcases getS h1 with ⟨rfl, z⟩ | ⟨n, z⟩
    · cases z
    · obtain ⟨v, e1, q⟩ := R.dat j e z
      exact ⟨v, by rw [List.getElem?_set_ne (Ne.symm n)]; exact e1, q⟩
  lst := fun j p xs h1 => by
    rcases getS h1 with ⟨rfl, z⟩ | ⟨n, z⟩
    · cases z
    · obtain ⟨a, vs, e1, q⟩ := R.lst j p xs z
      exact ⟨a, vs, by rw [List.getElem?_set_ne (Ne.symm n)]; exact e1, q⟩
  inj := fun j k p q xs ys a h1 h2 h3 h4 => by
    rcases getS h1 with ⟨_, z⟩ | ⟨n1, z1⟩
    · cases z
    · rcases getS h2 with ⟨_, z⟩ | ⟨n2, z2⟩
      · cases z
      · rw [List.getElem?_set_ne (Ne.symm n1)] at h3
        rw [List.getElem?_set_ne (Ne.symm n2)] at h4
        exact R.inj j k p q xs ys a z1 z2 h3 h4
theorem Stt.set_u (T : Stt K G r σ F H) {i : Nat} (hf : free r i = true) (o : Option V) : Stt K G (r.set i .u) (σ.set i o) F H where
  rel := T.rel.set_u i o
  ln := by rw [List.length_set]; exact T.ln
  ff0 := T.ff0
  fn0 := T.fn0
  kp0 := T.kp0
  th0 := T.th0
  pen := fun p hp => by
    obtain ⟨e1, xs, e2⟩ := T.pen p hp
    have n : p.1 ≠ i := by
      rintro rfl
      unfold free at hf
      rw [e2] at hf
      cases hf
    exact ⟨by rw [List.getElem?_set_ne (Ne.symm n)]; exact e1, xs, by rw [List.getElem?_set_ne (Ne.symm n)]; exact e2⟩
  loc := fun j xs a e1 e2 => by
    rcases getS e1 with ⟨_, z⟩ | ⟨n, z⟩
    · cases z
    · rw [List.getElem?_set_ne (Ne.symm n)] at e2
      exact T.loc j xs a z e2
  pin := fun j xs a e1 e2 => by
    rcases getS e1 with ⟨_, z⟩ | ⟨n, z⟩
    · cases z
    · rw [List.getElem?_set_ne (Ne.symm n)] at e2
      exact T.pin j xs a z e2
end
end PD
namespace PD
open PySem PySem.Spec PyProof.Rows L2
/-- try: gb except cls as (slot i): return (z, e.f) -/
def sTry (cls f : String) (i : Nat) (z : Str) (gb : PEn → Out Fl) : PEn → Out Fl := fun r => match gb r with
  | .ok fl r1 => .ok fl r1
  | .exc e r1 => if e.cls = cls ∧ free r1 i = true then match e.flds.lookup (Str.ofString f) with
      | some d => .ok (.ret (.v (.tuple [.str z, d]))) (r1.set i .u)
      | none => .bad
    else .bad
  | .bad => .bad
section
variable {X : Cx} {W : WX} {body : List Stmt} {np p1 p2 p3 p4 p5 pos pos' : Pos}
theorem s_try {cls f : String} {i j k : Nat} {n z : Str} {gb : PEn → Out Fl} (c : Xc X.prog X.w X.K X.mg X.base cls f)
    (hs : X.stack = X.env :: X.outer) (hf : X.env.frame = some X.env.locals) (hN : X.N.Nodup) (hi : X.N[i]? = some n) (hln : X.env.kindOf n = some .local) (hg : Gl X (Str.ofString cls)) (tk : Takes X W)
    (hb : ∀ (W : WX) (pn : List (Addr × Obj)) (xe : Value → Shared → Prop), Takes (X.tr pn xe) W → PassesOwn (model X.prog X.w) X.A X.env xe → JSs (X.tr pn xe) W body gb)
    (hv : Vis X.env.scope n := by first | exact Or.inl rfl | exact Or.inr (Or.inl rfl) | exact Or.inr (Or.inr rfl)) (hd : (n == ("__debug__" : Str)) = false := by decide) (hcd : (n == ("__classdict__" : Str)) = false := by decide)
    (hdb : (Str.ofString cls == ("__debug__" : Str)) = false := by decide) (hat : attributeBase (.Name n p2) (Str.ofString f) X.env (eval (.Name n p2) X.env) = eval (.Name n p2) X.env := by rfl)
    (hst : starEach [.Constant (.str z) j p1, .Attribute (.Name n p2) (Str.ofString f) p3] X.env = (false, eval (.Constant (.str z) j p1) X.env) :: starEach [.Attribute (.Name n p2) (Str.ofString f) p3] X.env := by rfl)
    (hst2 : starEach [.Attribute (.Name n p2) (Str.ofString f) p3] X.env = (false, eval (.Attribute (.Name n p2) (Str.ofString f) p3) X.env) :: starEach [] X.env := by rfl) :
    JS X W (.Try body [.ExceptHandler (some (.Name (Str.ofString cls) np)) (some n) [.Return (some (.Tuple [.Constant (.str z) j p1, .Attribute (.Name n p2) (Str.ofString f) p3] k p4)) p5] pos'] [] [] pos) (sTry cls f i z gb) := by
  obtain ⟨C, fI, fd, ps, m, T, Tf, hno, iC, tI, b, F1, hm⟩ := c.ex
  have sui : ∀ (a : Addr) (oe : Obj) (cl : Value) (d : Option Addr) (pn : List (Addr × Obj)), Zc cl d oe → (∃ vs, oe.data = .fields vs) →
      PSs (X.suite a ((a, oe) :: pn)) [.Return (some (.Tuple [.Constant (.str z) j p1, .Attribute (.Name n p2) (Str.ofString f) p3] k p4)) p5] (tRet (tTup (tCons (tC (.str z)) (tCons (tXf a cl d C (Str.ofString f) (tVar i)) tNil)))) := fun a oe cl d pn hz hfd => by
    have hx := pe_xf (pos := p3) Tf hno hz hfd (pe_var (X := X.suite a ((a, oe) :: pn)) (pos := p2) hi hv hd hcd) hat
    exact pss_one (ps_ret (pe_tup (pa_cons pe_str (pa_cons hx pa_nil hst2) hst)))
  refine ps_mono (ps_try_as (tb := fun W => rdS X.K X.mg W gb) (ts := fun a cl d => tRet (tTup (tCons (tC (.str z)) (tCons (tXf a cl d C (Str.ofString f) (tVar i)) tNil)))) hs hf hN hi hln ⟨hg, hdb, .inl m⟩ tk hb (fun a oe cl d pn hz hfd => sui a oe cl d pn hz hfd)) fun D σ H h => ?_
  obtain ⟨G, F, r, T0, q⟩ := h
  refine ⟨G, F, r, T0, ?_⟩
  unfold sTry at q
  cases zb : gb r with
  | bad => rw [zb] at q; exact q.elim
  | ok fl r1 => rw [zb] at q; exact q
  | exc e r1 =>
    rw [zb] at q
    simp only at q
    split at q
    · rename_i hc
      obtain ⟨hcls, hfr⟩ := hc
      cases zl : e.flds.lookup (Str.ofString f) with
      | none => rw [zl] at q; exact q.elim
      | some d0 =>
        rw [zl] at q
        intro cv dd σ1 F1 H1 T1 xv
        obtain ⟨hcm, dx, fs, ed, hx, hFx, hlen, hfl⟩ := xv
        rw [hcls, m] at hcm
        obtain rfl : Value.ref C = cv := Option.some.inj hcm
        refine ⟨true, hm, fun _ a ha => ?_, fun z => (nomatch z)⟩
        obtain ⟨v, hv1, dv⟩ := hfl _ _ zl
        have hi2 : (σ1.set i (some (.ref a)))[i]? = some (some (.ref a)) := by
          have : i < σ1.length := by
            rw [T1.rel.len]
            unfold free at hfr
            cases zi : r1[i]? with
            | none => rw [zi] at hfr; cases hfr
            | some _ => exact (List.getElem?_eq_some_iff.mp zi).1
          exact List.getElem?_set_self this
        refine ⟨.ref a, hi2, rfl, rfl, dx, fs, v, ed, hx, hv1, ?_⟩
        refine ⟨by show 2 ≤ sizeLine; decide, fun p hp => ?_⟩
        have T2 := T1.set_u hfr (some (.ref a))
        have Gw := Grow.new (F := F1) T2.rel.sub (o := HO.tup [.str z, v]) hp
        exact q (σ1.set i (some (.ref a))) _ _ (T2.step (T2.rel.grow Gw) Gw.stp) (.ref p) (.tup (.inl (.inl upd_same)) (.cons (.str z) (.cons (DV.mono Gw.ff dv) .nil)))
    · exact q.elim
end
end PD

/-! PDLaw: what many laws share: steps with data, sizes of values, odd and bent values. -/
namespace PD
open PySem PySem.Spec PyProof.Rows L2
/-! ### steps -/
section
variable {r r0 r1 r2 r3 : PEn}
theorem call_d2v {M : List Arg → FO} {f f' : PEn → Out Val} {v v' : Val} {d d' w : PyData} (hf : f r = .ok v r0) (hf' : f' r0 = .ok v' r1) (hz : v.fz r1 = some (d, r2)) (hz' : v'.fz r2 = some (d', r3)) (hM : M [.d d, .d d'] = .ok (.v w) [.d d, .d d']) :
    eCall M [false, false] (aCons f (aCons f' aNil)) r = .ok (.v w) r3 := call_d2 hf hf' hz hz' hM
theorem lst_ {fs : PEn → Out (List Val)} {vs : List Val} {ds : List PyData} (h : fs r = .ok vs r1) (hz : fzs r1 vs = some (ds, r2)) (hl : ds.length ≤ few) : eLst fs r = .ok (.n ds) r2 := by
  unfold eLst
  rw [h]
  show mkL vs r1 = _
  unfold mkL
  rw [hz]
  show (if ds.length ≤ few then _ else _) = _
  rw [if_pos hl]
theorem tup_ {fs : PEn → Out (List Val)} {vs : List Val} {ds : List PyData} (h : fs r = .ok vs r1) (hz : fzs r1 vs = some (ds, r2)) (hl : ds.length ≤ few) : eTup fs r = .ok (.v (.tuple ds)) r2 := by
  unfold eTup
  rw [h]
  show mkT vs r1 = _
  unfold mkT
  rw [hz]
  show (if ds.length ≤ few then _ else _) = _
  rw [if_pos hl]
theorem aC {f : PEn → Out Val} {fs : PEn → Out (List Val)} {v : Val} {vs : List Val} (h : f r = .ok v r1) (hs : fs r1 = .ok vs r2) : aCons f fs r = .ok (v :: vs) r2 := by
  unfold aCons
  rw [h]
  show Out.bind (fs r1) _ = _
  rw [hs]
  rfl
theorem aN : aNil r = .ok [] r := rfl
theorem lst_nil : eLst aNil r = .ok (.n []) r := rfl
theorem oy_ {f : PEn → Out Val} {i : Int} (h : f r = .ok (.v (.int i)) r) : oYes f r = .ok (some i) r := by
  unfold oYes
  rw [h]
  rfl
theorem sl_ {fa : PEn → Out Val} {fl fh : PEn → Out (Option Int)} {d w : PyData} {lo hi : Option Int} (ha : fa r = .ok (.v d) r) (hl : fl r = .ok lo r) (hh : fh r = .ok hi r) (h : gSl d lo hi = some (.v w)) : eSl fa fl fh r = .ok (.v w) r := by
  unfold eSl
  rw [ha]
  show Out.bind (fl r) _ = _
  rw [hl]
  show Out.bind (fh r) _ = _
  rw [hh]
  show op1 (fun d => gSl d lo hi) (.v d) r = _
  unfold op1
  show (match gSl d lo hi with | some z => Out.ok z.val r | none => .bad) = _
  rw [h]
  rfl
/-- f(pen, e), f(pen), f(pen, e, e2) with data -/
theorem callP {M : List Arg → FO} {f : PEn → Out Val} {i : Nat} {q : Bool} {p p' : List PyData} {d w : PyData} (h0 : r[i]? = some (.l q p)) (hf : f r = .ok (.v d) r) (hM : M [.l p, .d d] = .ok (.v w) [.l p', .d d]) :
    eCall M [true, false] (aCons (eVar i) (aCons f aNil)) r = .ok (.v w) (r.set i (.l q p')) := call_pen h0 hf rfl h0 hM
theorem callPn {M : List Arg → FO} {f : PEn → Out Val} {i : Nat} {q : Bool} {p p' : List PyData} {ds : List PyData} {w : PyData} (h0 : r[i]? = some (.l q p)) (hf : f r = .ok (.n ds) r1) (h1 : r1[i]? = some (.l q p1)) (hM : M [.l p1, .d (.list ds)] = .ok (.v w) [.l p', .d (.list ds)]) :
    eCall M [true, false] (aCons (eVar i) (aCons f aNil)) r = .ok (.v w) (r1.set i (.l q p')) := call_pen h0 hf rfl h1 hM
theorem callP0 {M : List Arg → FO} {i : Nat} {q : Bool} {p p' : List PyData} {w : PyData} (h0 : r[i]? = some (.l q p)) (hM : M [.l p] = .ok (.v w) [.l p']) : eCall M [true] (aCons (eVar i) aNil) r = .ok (.v w) (r.set i (.l q p')) := call_pen0 h0 hM
theorem callP2 {M : List Arg → FO} {f f' : PEn → Out Val} {i : Nat} {q : Bool} {p p' : List PyData} {d d' w : PyData} (h0 : r[i]? = some (.l q p)) (hf : f r = .ok (.v d) r) (hf' : f' r = .ok (.v d') r) (hM : M [.l p, .d d, .d d'] = .ok (.v w) [.l p', .d d, .d d']) :
    eCall M [true, false, false] (aCons (eVar i) (aCons f (aCons f' aNil))) r = .ok (.v w) (r.set i (.l q p')) := by
  unfold eCall
  rw [aC (evL h0) (aC hf (aC hf' aN))]
  show callD M [true, false, false] [.b i, .v d, .v d'] r = _
  simp only [callD, prep, prep1, h0, Val.fz, places, apart, List.contains_nil, Bool.not_false, Bool.and_true, if_true, argsOf, argOf, hM, okB, backs, upB_one h0, Rs.val]
/-- f(pen, e, e2), e2 reckoned behind e -/
theorem callP2' {M : List Arg → FO} {f f' : PEn → Out Val} {i : Nat} {q : Bool} {p p1 p' : List PyData} {d d' w : PyData} (h0 : r[i]? = some (.l q p)) (hf : f r = .ok (.v d) r1) (hf' : f' r1 = .ok (.v d') r2) (h2 : r2[i]? = some (.l q p1)) (hM : M [.l p1, .d d, .d d'] = .ok (.v w) [.l p', .d d, .d d']) :
    eCall M [true, false, false] (aCons (eVar i) (aCons f (aCons f' aNil))) r = .ok (.v w) (r2.set i (.l q p')) := by
  unfold eCall
  rw [aC (evL h0) (aC hf (aC hf' aN))]
  show callD M [true, false, false] [.b i, .v d, .v d'] r2 = _
  simp only [callD, prep, prep1, h2, Val.fz, places, apart, List.contains_nil, Bool.not_false, Bool.and_true, if_true, argsOf, argOf, hM, okB, backs, upB_one h2, Rs.val]
/-- f(e, e2, e3) of data -/
theorem call_d3 {M : List Arg → FO} {f f' f'' : PEn → Out Val} {d d' d'' : PyData} {z : Rs} (hf : f r = .ok (.v d) r) (hf' : f' r = .ok (.v d') r) (hf'' : f'' r = .ok (.v d'') r) (hM : M [.d d, .d d', .d d''] = .ok z [.d d, .d d', .d d'']) :
    eCall M [false, false, false] (aCons f (aCons f' (aCons f'' aNil))) r = .ok z.val r := by
  unfold eCall
  rw [aC hf (aC hf' (aC hf'' aN))]
  show callD M [false, false, false] [.v d, .v d', .v d''] r = _
  simp only [callD, prep, prep1, Val.fz, places, apart, if_true, argsOf, argOf, hM, okB, backs, upB_none]
theorem call_d3v {M : List Arg → FO} {f f' f'' : PEn → Out Val} {d d' d'' w : PyData} (hf : f r = .ok (.v d) r) (hf' : f' r = .ok (.v d') r) (hf'' : f'' r = .ok (.v d'') r) (hM : M [.d d, .d d', .d d''] = .ok (.v w) [.d d, .d d', .d d'']) :
    eCall M [false, false, false] (aCons f (aCons f' (aCons f'' aNil))) r = .ok (.v w) r := call_d3 hf hf' hf'' hM
/-- f(e) raises -/
theorem call_x1 {M : List Arg → FO} {f : PEn → Out Val} {d : PyData} {e : Ex} (hf : f r = .ok (.v d) r) (hM : M [.d d] = .exc e [.d d]) : eCall M [false] (aCons f aNil) r = .exc e r := by
  unfold eCall
  rw [aC hf aN]
  show callD M [false] [.v d] r = _
  simp only [callD, prep, prep1, Val.fz, places, apart, if_true, argsOf, argOf, hM, okB, backs, upB_none]
theorem call_x2 {M : List Arg → FO} {f f' : PEn → Out Val} {d d' : PyData} {e : Ex} (hf : f r = .ok (.v d) r) (hf' : f' r = .ok (.v d') r) (hM : M [.d d, .d d'] = .exc e [.d d, .d d']) : eCall M [false, false] (aCons f (aCons f' aNil)) r = .exc e r := by
  unfold eCall
  rw [aC hf (aC hf' aN)]
  show callD M [false, false] [.v d, .v d'] r = _
  simp only [callD, prep, prep1, Val.fz, places, apart, if_true, argsOf, argOf, hM, okB, backs, upB_none]
theorem den_exc {g : PEn → Out Fl} {n N : Nat} {as as' : List Arg} {e : Ex} (hn : as.length = n) (h : g (as.map Arg.sl ++ List.replicate (N - n) .u) = .exc e r) (hb : argsBack as r = as') : den g n N as = .exc e as' := by
  unfold den
  rw [if_pos hn, h]
  simp only [hb]
theorem rng_ {f : PEn → Out Val} {n : Int} (h : f r = .ok (.v (.int n)) r1) (h0 : 0 ≤ n) (h1 : n ≤ 1000) : iRange1 f r = .ok (rangeD 0 n.toNat) r1 := by
  unfold iRange1
  rw [h]
  show (if n ≤ big ∧ -big ≤ n then Out.ok (rangeD 0 n.toNat) r1 else .bad) = _
  rw [if_pos ⟨by unfold big; omega, by unfold big; omega⟩]
theorem eoB {f g : PEn → Out Val} {a b : Bool} (h : f r = .ok (.v (.bool a)) r) (h2 : g r = .ok (.v (.bool b)) r) : eOrD f g r = .ok (.v (.bool (a || b))) r := by
  cases a with
  | true => rw [eoT h rfl rfl]; rfl
  | false => rw [eoF h rfl rfl, h2]; rfl
/-- a <= b <= c of numbers -/
theorem chain_ {fa fb fc : PEn → Out Val} {i j k : Int} (ha : fa r = .ok (.v (.int i)) r) (hb : fb r = .ok (.v (.int j)) r) (hc : fc r = .ok (.v (.int k)) r) : eChain gLe gLe fa fb fc r = .ok (.v (.bool (decide (i ≤ j) && decide (j ≤ k)))) r := by
  unfold eChain
  simp only [ha, Out.bind, hb]
  have e : op2 gLe (.v (.int i)) (.v (.int j)) r = .ok (.v (.bool (decide (i ≤ j)))) r := rfl
  rw [e]
  cases z : decide (i ≤ j) with
  | false => rfl
  | true =>
    have e2 : boo (.v (.bool true)) r = .ok true r := rfl
    simp only [e2, if_true, hc]
    rfl
theorem if_ {t : PEn → Out Bool} {f g : PEn → Out Val} {k : Bool} (h : t r = .ok k r1) : eIf t f g r = if k = true then f r1 else g r1 := by
  unfold eIf
  rw [h]
  rfl
end
theorem rangeD_len (lo : Int) (n : Nat) : (rangeD lo n).length = n := by unfold rangeD; rw [List.length_map, List.length_range]
theorem mem_rangeD {d : PyData} {n : Nat} (h : d ∈ rangeD 0 n) : ∃ i, i < n ∧ d = .int ((i : Nat) : Int) := by
  unfold rangeD at h
  obtain ⟨i, hi, rfl⟩ := List.mem_map.mp h
  exact ⟨i, List.mem_range.mp hi, by rw [Int.zero_add]⟩
theorem at_rangeD {d : PyData} {n i : Nat} (h : (rangeD 0 n)[i]? = some d) : i < n ∧ d = .int ((i : Nat) : Int) := by
  have hl : i < n := by
    have := (List.getElem?_eq_some_iff.mp h).1
    rw [rangeD_len] at this
    exact this
  refine ⟨hl, ?_⟩
  unfold rangeD at h
  rw [List.getElem?_map, List.getElem?_range hl] at h
  simp only [Option.map_some, Option.some.injEq, Int.zero_add] at h
  exact h.symm
/-! ### comprehensions -/
theorem take_all {α β : Type} (f : α → β) (xs : List α) : (xs.take xs.length).map f = xs.map f := by rw [List.take_length]
theorem comp_map {own : List Nat} {g : PyData → Option (List (Nat × PyData))} {f : PEn → Out Val} {w : PyData → PyData} {s : PEn → Out (List PyData)} {items : List PyData} {r r0 : PEn} (hs : s r = .ok items r) (hl : items.length ≤ many) (hw : wipeE r own = r0) (hb : backE r r0 own = r)
    (step : ∀ d, d ∈ items → ∃ l r2, g d = some l ∧ within l own = true ∧ setE l r0 = r2 ∧ f r2 = .ok (.v (w d)) r2 ∧ wipeE r2 own = r0) : eComp s own g tYesD f r = .ok (.n (items.map w)) r := by
  have h := lc_inv (own := own) (g := g) (t := tYesD) (f := f) (fun i acc r' => acc = (items.take i).map w ∧ r' = r0) items 0 [] r0 ⟨rfl, rfl⟩ ?_
  · obtain ⟨acc, r', e, rfl, rfl⟩ := h
    unfold eComp
    rw [hs]
    show (if items.length ≤ many then _ else _) = _
    rw [if_pos hl, hw, e]
    show Out.ok (Val.n _) (backE r r' own) = _
    rw [hb, Nat.zero_add, take_all]
  · rintro i d acc r' hi ⟨rfl, rfl⟩
    obtain ⟨l, r2, e1, e2, e3, e4, e5⟩ := step d (List.mem_of_getElem? hi)
    refine ⟨l, r2, e1, e2, .inl ⟨by rw [e3]; rfl, .v (w d), r2, w d, r2, e4, rfl, ?_, e5⟩⟩
    rw [Nat.zero_add, List.take_add_one, hi]
    simp
theorem comp_fm {own : List Nat} {g : PyData → Option (List (Nat × PyData))} {t : PEn → Out Bool} {f : PEn → Out Val} {w : PyData → PyData} {q : PyData → Bool} {s : PEn → Out (List PyData)} {items : List PyData} {r r0 : PEn} (hs : s r = .ok items r) (hl : items.length ≤ many) (hw : wipeE r own = r0) (hb : backE r r0 own = r)
    (step : ∀ d, d ∈ items → ∃ l r2, g d = some l ∧ within l own = true ∧ setE l r0 = r2 ∧ t r2 = .ok (q d) r2 ∧ f r2 = .ok (.v (w d)) r2 ∧ wipeE r2 own = r0) : eComp s own g t f r = .ok (.n ((items.filter q).map w)) r := by
  have h := lc_inv (own := own) (g := g) (t := t) (f := f) (fun i acc r' => acc = ((items.take i).filter q).map w ∧ r' = r0) items 0 [] r0 ⟨rfl, rfl⟩ ?_
  · obtain ⟨acc, r', e, rfl, rfl⟩ := h
    unfold eComp
    rw [hs]
    show (if items.length ≤ many then _ else _) = _
    rw [if_pos hl, hw, e]
    show Out.ok (Val.n _) (backE r r' own) = _
    rw [hb, Nat.zero_add, List.take_length]
  · rintro i d acc r' hi ⟨rfl, rfl⟩
    obtain ⟨l, r2, e1, e2, e3, e4, e5, e6⟩ := step d (List.mem_of_getElem? hi)
    refine ⟨l, r2, e1, e2, ?_⟩
    rw [Nat.zero_add, List.take_add_one, hi]
    cases z : q d with
    | true => exact .inl ⟨by rw [e3, e4, z], .v (w d), r2, w d, r2, e5, rfl, by simp [z], e6⟩
    | false => exact .inr ⟨by rw [e3, e4, z], by simp [z], e6⟩
/-- a comprehension that changes names on its way -/
theorem comp_draw {own : List Nat} {g : PyData → Option (List (Nat × PyData))} {f : PEn → Out Val} {s : PEn → Out (List PyData)} {items : List PyData} {r r0 r1 : PEn} (J : Nat → List PyData → PEn → Prop) (hs : s r = .ok items r1) (hl : items.length ≤ many) (hw : wipeE r1 own = r0) (j0 : J 0 [] r0)
    (step : ∀ i d acc r, items[i]? = some d → J i acc r → ∃ l r2 v r3 e r4, g d = some l ∧ within l own = true ∧ setE l r = r2 ∧ f r2 = .ok v r3 ∧ v.fz r3 = some (e, r4) ∧ J (i + 1) (acc ++ [e]) (wipeE r4 own)) :
    ∃ acc r', eComp s own g tYesD f r = .ok (.n acc) (backE r1 r' own) ∧ J items.length acc r' := by
  obtain ⟨acc, r', e, h⟩ := lc_inv (own := own) (g := g) (t := tYesD) (f := f) J items 0 [] r0 j0 fun i d acc r hi h => by
    rw [Nat.zero_add] at h ⊢
    obtain ⟨l, r2, v, r3, e, r4, e1, e2, e3, e4, e5, e6⟩ := step i d acc r hi h
    exact ⟨l, r2, e1, e2, .inl ⟨by rw [e3]; rfl, v, r3, e, r4, e4, e5, e6⟩⟩
  refine ⟨acc, r', ?_, by rw [Nat.zero_add] at h; exact h⟩
  unfold eComp
  rw [hs]
  show (if items.length ≤ many then _ else _) = _
  rw [if_pos hl, hw, e]
  rfl
/-- a for loop that ends at the first item that q holds of -/
theorem for_first {g : PyData → Option (List (Nat × PyData))} {body : PEn → Out Fl} {q : PyData → Bool} {v : PyData → Val} (I : PEn → Prop) : ∀ (ds : List PyData) (r : PEn), I r →
    (∀ d r, d ∈ ds → I r → ∃ l r', g d = some l ∧ frees l r = true ∧ body (setE l r) = .ok (if q d = true then .ret (v d) else .next) r' ∧ I r') →
    ∃ r', forD g body ds r = .ok (match ds.find? q with | some d => .ret (v d) | none => .next) r' ∧ I r'
  | [], r, h0, _ => ⟨r, rfl, h0⟩
  | d :: ds, r, h0, st => by
    obtain ⟨l, r1, e1, e2, e3, h1⟩ := st d r (List.mem_cons_self ..) h0
    unfold forD
    cases z : q d with
    | true =>
      rw [z] at e3
      refine ⟨r1, ?_, h1⟩
      have e3 : body (setE l r) = .ok (.ret (v d)) r1 := e3
      simp only [e1, e2, if_true, e3, List.find?_cons, z]
    | false =>
      rw [z] at e3
      have e3 : body (setE l r) = .ok .next r1 := e3
      obtain ⟨r', e4, h2⟩ := for_first I ds r1 h1 fun d r hd h => st d r (List.mem_cons_of_mem _ hd) h
      refine ⟨r', ?_, h2⟩
      simp only [e1, e2, if_true, e3, List.find?_cons, z]
      exact e4
/-! ### operations on data -/
theorem eqv_int (i j : Int) : PyData.eqv (.int i) (.int j) = decide (i = j) := rfl
theorem gEq_int (i j : Int) : gEq (.int i) (.int j) = some (.v (.bool (decide (i = j)))) := gEq_pl rfl rfl (Nat.zero_le _)
theorem gNe_int (i j : Int) : gNe (.int i) (.int j) = some (.v (.bool (!decide (i = j)))) := gNe_pl rfl rfl (Nat.zero_le _)
theorem gNe_self {d : PyData} (h : d.plain = true) (h2 : d.depth ≤ 64) : gNe d d = some (.v (.bool false)) := by
  rw [gNe_pl h h h2, SeqAt.eqv_refl_plain d h]
  rfl
theorem gNe_str (s : Str) : gNe (.str s) (.str s) = some (.v (.bool false)) := gNe_self rfl (Nat.zero_le _)
theorem all_map {α : Type} (f : α → Bool) (xs : List α) : (xs.map f).all id = xs.all f := by
  induction xs with
  | nil => rfl
  | cons x xs ih => simp
theorem gAll_map {α : Type} (f : α → Bool) (xs : List α) : gAll (.list (xs.map fun x => PyData.bool (f x))) = some (.v (.bool (xs.all f))) := by
  have e : xs.map (fun x => PyData.bool (f x)) = (xs.map f).map .bool := by rw [List.map_map]; rfl
  show Option.map _ (bools? (xs.map fun x => PyData.bool (f x))) = _
  rw [e, bools?_map]
  show some (Rs.v (.bool ((xs.map f).all id))) = _
  rw [all_map]
theorem eqv_nilL (xs : List PyData) : PyData.eqv (.list xs) (.list []) = xs.isEmpty := by cases xs <;> rfl
theorem isEmpty_ones (xs : List PyData) (q : PyData → Bool) : ((xs.filter q).map fun _ => PyData.int 1).isEmpty = xs.all fun x => !q x := by
  induction xs with
  | nil => rfl
  | cons x xs ih =>
    rw [List.filter_cons]
    cases z : q x with
    | true => simp [z]
    | false => simpa [z] using ih
theorem ones_ints (xs : List PyData) : (xs.map fun _ => PyData.int 1) = (xs.map fun _ => (1 : Int)).map .int := by rw [List.map_map]; rfl
theorem gEq_ones (xs : List PyData) (q : PyData → Bool) : gEq (.list ((xs.filter q).map fun _ => .int 1)) (.list []) = some (.v (.bool (xs.all fun x => !q x))) := by
  rw [gEq_sh rfl (by rw [ones_ints]; exact shaped_ints _) rfl, eqv_nilL, isEmpty_ones]
theorem gSum_ints (ns : List Int) : gSum (.list (ns.map .int)) = some (.v (.int ns.sum)) := by
  show Option.map _ (ints? (ns.map .int)) = _
  rw [ints?_map]
  rfl
theorem gSum_intsT (ns : List Int) : gSum (.tuple (ns.map .int)) = some (.v (.int ns.sum)) := by
  show Option.map _ (ints? (ns.map .int)) = _
  rw [ints?_map]
  rfl
theorem ix0 (x : PyData) (xs : List PyData) : gIx (.tuple (x :: xs)) (.int 0) = some (.v x) := by
  show Option.map _ (atI (x :: xs) 0) = _
  rw [atI_0]
  rfl
theorem ix_nat {xs : List PyData} {i : Nat} {x : PyData} (h : xs[i]? = some x) : gIx (.tuple xs) (.int (i : Nat)) = some (.v x) := by
  show Option.map Rs.v (atI xs ((i : Nat) : Int)) = _
  rw [atI_nat h]
  rfl
theorem ixl_nat {xs : List PyData} {i : Nat} {x : PyData} (h : xs[i]? = some x) : gIx (.list xs) (.int (i : Nat)) = some (.v x) := by
  show Option.map Rs.v (atI xs ((i : Nat) : Int)) = _
  rw [atI_nat h]
  rfl
theorem ix_mem {xs : List PyData} {i : Int} (h0 : 0 ≤ i) (h1 : i < xs.length) : ∃ x ∈ xs, gIx (.list xs) (.int i) = some (.v x) := by
  obtain ⟨n, rfl⟩ := Int.eq_ofNat_of_zero_le h0
  have hn : n < xs.length := by omega
  exact ⟨xs[n], List.getElem_mem hn, ixl_nat (List.getElem?_eq_getElem hn)⟩
theorem gAdd_tup {xs ys : List PyData} (h : xs.length + ys.length ≤ many) : gAdd (.tuple xs) (.tuple ys) = some (.v (.tuple (xs ++ ys))) := if_pos h
theorem gAdd_lst {xs ys : List PyData} (h : xs.length + ys.length ≤ many) : gAdd (.list xs) (.list ys) = some (.n (xs ++ ys)) := if_pos h
theorem cut_sub (xs : List PyData) (lo hi : Option Int) : (cutD xs lo hi).Sublist xs := (List.take_sublist _ _).trans (List.drop_sublist _ _)
theorem cut_take (xs : List PyData) (n : Nat) : cutD xs none (some (n : Nat)) = xs.take n := by
  unfold cutD
  rw [show HT.sIx xs.length 0 none = 0 from rfl, List.drop_zero, Nat.sub_zero, HT.sIx_nat]
  rcases Nat.le_total n xs.length with h | h
  · rw [Nat.min_eq_left h]
  · rw [Nat.min_eq_right h, List.take_length, List.take_of_length_le h]
theorem cut_drop (xs : List PyData) (n : Nat) : cutD xs (some (n : Nat)) none = xs.drop n := by
  unfold cutD
  rw [show HT.sIx xs.length xs.length none = xs.length from rfl, HT.sIx_nat]
  rcases Nat.le_total n xs.length with h | h
  · rw [Nat.min_eq_left h, List.take_of_length_le (by rw [List.length_drop]; exact Nat.le_refl _)]
  · rw [Nat.min_eq_right h, List.drop_length, List.drop_of_length_le h, List.take_nil]
theorem log_le {k : Int} {n : Nat} (h : k.natAbs < 2 ^ n) (hn : 0 < n) : k.natAbs.log2 < n := by
  by_cases e : k.natAbs = 0
  · rw [e]; exact hn
  · exact (Nat.log2_lt e).mpr h
/-! ### sizes of values -/
mutual
/-- each integer has at most L + 1 bits; dicts are empty -/
def lim (L : Nat) : PyData → Bool
  | .int i => decide (i.natAbs.log2 ≤ L)
  | .list xs => lims L xs
  | .tuple xs => lims L xs
  | .dict kvs => kvs.isEmpty
  | .none => true
  | .bool _ => true
  | .str _ => true
def lims (L : Nat) : List PyData → Bool
  | [] => true
  | x :: xs => lim L x && lims L xs
end
theorem lims_iff {L : Nat} : ∀ {xs : List PyData}, lims L xs = true ↔ ∀ x ∈ xs, lim L x = true
  | [] => by simp [lims]
  | x :: xs => by simp [lims, lims_iff (xs := xs)]
theorem depths_iff {n : Nat} : ∀ {xs : List PyData}, PyData.depthAll xs ≤ n ↔ ∀ x ∈ xs, x.depth ≤ n
  | [] => by simp [PyData.depthAll]
  | x :: xs => by
    have := depths_iff (n := n) (xs := xs)
    simp only [PyData.depthAll, List.mem_cons, forall_eq_or_imp, ← this]
    omega
mutual
theorem lim_show {L : Nat} (hL : L < 1920) : ∀ d : PyData, lim L d = true → d.showable = true
  | .none, _ => rfl
  | .bool _, _ => rfl
  | .str _, _ => rfl
  | .int i, h => by
    have h : decide (i.natAbs.log2 ≤ L) = true := h
    show decide (i.natAbs.log2 < 1920) = true
    rw [decide_eq_true_eq] at h ⊢
    omega
  | .list xs, h => lims_show hL xs h
  | .tuple xs, h => lims_show hL xs h
  | .dict kvs, h => by
    have h : kvs.isEmpty = true := h
    rw [List.isEmpty_iff] at h
    subst h
    rfl
theorem lims_show {L : Nat} (hL : L < 1920) : ∀ xs : List PyData, lims L xs = true → PyData.showableAll xs = true
  | [], _ => rfl
  | x :: xs, h => by
    have h : (lim L x && lims L xs) = true := h
    rw [Bool.and_eq_true] at h
    show (x.showable && PyData.showableAll xs) = true
    rw [lim_show hL x h.1, lims_show hL xs h.2]
    rfl
end
mutual
theorem lim_more {L L' : Nat} (h : L ≤ L') : ∀ d : PyData, lim L d = true → lim L' d = true
  | .none, _ => rfl
  | .bool _, _ => rfl
  | .str _, _ => rfl
  | .int i, z => by
    have z : decide (i.natAbs.log2 ≤ L) = true := z
    show decide (i.natAbs.log2 ≤ L') = true
    rw [decide_eq_true_eq] at z ⊢
    omega
  | .list xs, z => lims_more h xs z
  | .tuple xs, z => lims_more h xs z
  | .dict kvs, z => z
theorem lims_more {L L' : Nat} (h : L ≤ L') : ∀ xs : List PyData, lims L xs = true → lims L' xs = true
  | [], _ => rfl
  | x :: xs, z => by
    have z : (lim L x && lims L xs) = true := z
    rw [Bool.and_eq_true] at z
    show (lim L' x && lims L' xs) = true
    rw [lim_more h x z.1, lims_more h xs z.2]
    rfl
end
theorem costs_app : ∀ xs ys : List PyData, costs (xs ++ ys) = costs xs + costs ys
  | [], ys => (Nat.zero_add _).symm
  | x :: xs, ys => by
    show cost x + 2 + costs (xs ++ ys) = cost x + 2 + costs xs + costs ys
    rw [costs_app xs ys]
    omega
theorem costs_sub {xs ys : List PyData} (h : xs.Sublist ys) : costs xs ≤ costs ys := by
  induction h with
  | slnil => exact Nat.le_refl _
  | @cons xs ys a _ ih =>
    show costs xs ≤ cost a + 2 + costs ys
    omega
  | @cons_cons xs ys a _ ih =>
    show cost a + 2 + costs xs ≤ cost a + 2 + costs ys
    omega
theorem costs_rev : ∀ xs : List PyData, costs xs.reverse = costs xs
  | [] => rfl
  | x :: xs => by
    rw [List.reverse_cons, costs_app, costs_rev xs]
    show costs xs + (cost x + 2 + 0) = cost x + 2 + costs xs
    omega
theorem cost_mem {xs : List PyData} {x : PyData} (h : x ∈ xs) : cost x + 2 ≤ costs xs := by
  have := costs_sub (List.singleton_sublist.mpr h)
  exact this
/-- a value's sizes -/
structure Gv (L n c : Nat) (d : PyData) : Prop where
  lm : lim L d = true
  dp : d.depth ≤ n
  ct : cost d ≤ c
theorem Gv.more {L L' n n' c c' : Nat} {d : PyData} (h : Gv L n c d) (h1 : L ≤ L') (h2 : n ≤ n') (h3 : c ≤ c') : Gv L' n' c' d := ⟨lim_more h1 d h.lm, Nat.le_trans h.dp h2, Nat.le_trans h.ct h3⟩
theorem gv_int {k : Int} {L n : Nat} (h : k.natAbs.log2 ≤ L) : Gv L n (L + 2) (.int k) := ⟨decide_eq_true h, Nat.zero_le _, by show k.natAbs.log2 + 2 ≤ L + 2; omega⟩
theorem gv_tup {L n c : Nat} {xs : List PyData} (h1 : ∀ x ∈ xs, lim L x = true ∧ x.depth ≤ n) (h2 : costs xs + 3 ≤ c) : Gv L (n + 1) c (.tuple xs) :=
  ⟨lims_iff.mpr fun x hx => (h1 x hx).1, Nat.succ_le_succ (depths_iff.mpr fun x hx => (h1 x hx).2), h2⟩
theorem gv_lst {L n c : Nat} {xs : List PyData} (h1 : ∀ x ∈ xs, lim L x = true ∧ x.depth ≤ n) (h2 : costs xs + 3 ≤ c) : Gv L (n + 1) c (.list xs) :=
  ⟨lims_iff.mpr fun x hx => (h1 x hx).1, Nat.succ_le_succ (depths_iff.mpr fun x hx => (h1 x hx).2), h2⟩
theorem Gv.tup {L n c : Nat} {xs : List PyData} (h : Gv L n c (.tuple xs)) : (∀ x ∈ xs, lim L x = true ∧ x.depth + 1 ≤ n) ∧ costs xs + 3 ≤ c := by
  have h1 := lims_iff.mp (show lims L xs = true from h.lm)
  have h2 : PyData.depthAll xs + 1 ≤ n := h.dp
  have h3 := (depths_iff (n := n - 1) (xs := xs)).mp (by omega)
  exact ⟨fun x hx => ⟨h1 x hx, by have := h3 x hx; omega⟩, h.ct⟩
theorem Gv.nice {L n c : Nat} {d : PyData} (h : Gv L n c d) (hL : L < 1920) (hn : n ≤ 50) : Nice c d := ⟨lim_show hL d h.lm, Nat.le_trans h.dp hn, h.ct⟩
theorem Gv.repr {L n c : Nat} {d : PyData} (h : Gv L n c d) (hL : L < 1920) (hn : n ≤ 50) (hc : c ≤ many) : gRepr d = some (.v (.str d.shown)) := repr_ok (h.nice hL hn) hc
theorem Gv.len {L n c : Nat} {xs : List PyData} (h : Gv L n c (.tuple xs)) : xs.length ≤ c := by
  have := h.tup.2
  have := len_costs xs
  omega
end PD

/-! PDBent: odd and bent values, as the laws draw them. -/
namespace PD
open PySem PySem.Spec PyProof.Rows L2
def gOdd : PEn → Out Fl :=
  sSeq (sSet 1 (eLst (aCons (eC .none) (aCons (eC (.bool true)) (aCons (eC (.bool false)) (aCons (eOp1 gNeg (eC (.int 1))) (aCons (eC (.int 0)) (aCons (eC (.int 1)) (aCons (eC (.int 2)) (aCons (eC (.int 3)) (aCons (eC (.int 5)) (aCons (eC (.int 6)) (aCons (eC (.int 10)) (aCons (eC (.str "")) (aCons (eC (.str "0")) (aCons (eC (.str "avoids")) (aCons (eTup (aNil)) (aCons (eLst (aNil)) (aCons (eDict0) (aCons (eTup (aCons (eC (.int 0)) (aNil))) (aCons (eTup (aCons (eC (.int 0)) (aCons (eC (.int 1)) (aNil)))) (aCons (eTup (aCons (eC (.int 0)) (aCons (eC (.int 1)) (aCons (eC (.int 1)) (aNil))))) (aNil))))))))))))))))))))))) (sSeq (sSet 1 (eOp2 gAdd (eVar 1) (eLst (aCons (eOp2 gPow (eC (.int 10)) (eC (.int 61))) (aCons (eTup (aCons (eTup (aNil)) (aNil))) (aCons (eLst (aCons (eC (.int 1)) (aNil))) (aCons (eTup (aCons (eC (.int 0)) (aCons (eTup (aCons (eC (.int 0)) (aCons (eC (.int 1)) (aCons (eC (.int 1)) (aNil))))) (aNil)))) (aCons (eTup (aCons (eC (.int 0)) (aCons (eC (.int 1)) (aCons (eTup (aNil)) (aCons (eTup (aNil)) (aNil)))))) (aCons (eTup (aCons (eC (.int 1)) (aCons (eOp1 gNeg (eC (.int 3))) (aCons (eC (.int 0)) (aCons (eC (.int 1)) (aNil)))))) (aCons (eTup (aCons (eC (.int 0)) (aCons (eC (.int 0)) (aCons (eC (.int 0)) (aNil))))) (aNil))))))))))) (sRet (eCall MOne [true, false] (aCons (eVar 0) (aCons (eVar 1) (aNil))))))
def MOdd : List Arg → FO := den gOdd 1 2
def gBt : PEn → Out Fl :=
  sSeq (sSet 3 (eCall MDraw [true, false] (aCons (eVar 0) (aCons (eC (.int 8)) (aNil))))) (sSeq (sIf (tAndD (tTru (eOp1 (gIsa PyData.isInt) (eVar 1))) (tAndD (tNotD (tTru (eOp1 (gIsa PyData.isBool) (eVar 1)))) (tBoo (eOp2 gLt (eVar 3) (eC (.int 6)))))) (sRet (eOp2 gIx (eLst (aCons (eOp2 gAdd (eVar 1) (eC (.int 1))) (aCons (eOp2 gSub (eVar 1) (eC (.int 1))) (aCons (eOp2 gEq (eVar 1) (eC (.int 1))) (aCons (eC (.int 0)) (aCons (eOp1 gNeg (eVar 1)) (aCons (eOp2 gAdd (eVar 1) (eC (.int 1))) (aNil)))))))) (eVar 3))) (sSkip)) (sSeq (sIf (tAndD (tTru (eOp1 (gIsa PyData.isTuple) (eVar 1))) (tBoo (eOp2 gLt (eVar 3) (eC (.int 6))))) (sRet (eOp2 gIx (eLst (aCons (eSl (eVar 1) (oYes (eC (.int 1))) (oNo)) (aCons (eSl (eVar 1) (oNo) (oYes (eOp1 gNeg (eC (.int 1))))) (aCons (eOp2 gAdd (eVar 1) (eSl (eVar 1) (oNo) (oYes (eC (.int 1))))) (aCons (eOp1 gRev (eVar 1)) (aCons (eOp1 gList (eVar 1)) (aCons (eOp2 gAdd (eVar 1) (eTup (aCons (eC (.int 0)) (aNil)))) (aNil)))))))) (eVar 3))) (sSkip)) (sRet (eCall MOdd [true] (aCons (eVar 0) (aNil))))))
def gBent (M : List Arg → FO) : PEn → Out Fl :=
  sSeq (sIf (tOrD (tNotD (tTru (eOp1 (gIsa PyData.isTuple) (eVar 1)))) (tOrD (tBoo (eOp2 gEq (eVar 1) (eTup (aNil)))) (tOrD (tBoo (eOp2 gEq (eVar 2) (eC (.int 0)))) (tBoo (eOp2 gEq (eCall MDraw [true, false] (aCons (eVar 0) (aCons (eC (.int 6)) (aNil)))) (eC (.int 0))))))) gBt (sSkip)) (sSeq (sSet 4 (eCall MDraw [true, false] (aCons (eVar 0) (aCons (eOp1 gLen (eVar 1)) (aNil))))) (sSeq (sSet 5 (eCall M [true, false, false] (aCons (eVar 0) (aCons (eOp2 gIx (eVar 1) (eVar 4)) (aCons (eOp2 gSub (eVar 2) (eC (.int 1))) (aNil)))))) (sRet (eOp2 gAdd (eOp2 gAdd (eSl (eVar 1) (oNo) (oYes (eVar 4))) (eTup (aCons (eVar 5) (aNil)))) (eSl (eVar 1) (oYes (eOp2 gAdd (eVar 4) (eC (.int 1)))) (oNo))))))
def MrBent : Nat → List Arg → FO
  | 0 => fun _ => .bad
  | n + 1 => den (gBent (MrBent n)) 3 6
def MBent : List Arg → FO := MrBent 8
def odds : List PyData := [.none, .bool true, .bool false, .int (-1), .int 0, .int 1, .int 2, .int 3, .int 5, .int 6, .int 10, .str "", .str "0", .str "avoids", .tuple [], .list [], .dict [], .tuple [.int 0], .tuple [.int 0, .int 1], .tuple [.int 0, .int 1, .int 1]]
def odds2 : List PyData := [.int (10 ^ 61), .tuple [.tuple []], .list [.int 1], .tuple [.int 0, .tuple [.int 0, .int 1, .int 1]], .tuple [.int 0, .int 1, .tuple [], .tuple []], .tuple [.int 1, .int (-3), .int 0, .int 1], .tuple [.int 0, .int 0, .int 0]]
def oddB (x : PyData) : Bool := lim 203 x && decide (x.depth ≤ 2) && decide (cost x ≤ 300)
theorem odds_good : ∀ x ∈ odds ++ odds2, oddB x = true := by decide +kernel
theorem odds_gv {x : PyData} (h : x ∈ odds ++ odds2) : Gv 203 2 300 x := by
  have := odds_good x h
  unfold oddB at this
  rw [Bool.and_eq_true, Bool.and_eq_true, decide_eq_true_eq, decide_eq_true_eq] at this
  exact ⟨this.1.1, this.1.2, this.2⟩
theorem odd_ok {p : List PyData} (hp : PenL p) : ∃ (x : PyData) (p' : List PyData), PenL p' ∧ Gv 203 2 300 x ∧ MOdd [.l p] = .ok (.v x) [.l p'] := by
  obtain ⟨x, p', hp', hx, e⟩ := one_ok hp (xs := odds ++ odds2) (by decide +kernel) (by decide +kernel)
  refine ⟨x, p', hp', odds_gv hx, ?_⟩
  refine den_ret rfl (v := .v x) (r := [.l true p', .d (.list (odds ++ odds2))]) ?_ rfl rfl
  show gOdd [.l true p, .u] = _
  unfold gOdd
  refine (seqN (r1 := [.l true p, .l false odds]) ?_).trans ((seqN (r1 := [.l true p, .l false (odds ++ odds2)]) ?_).trans ?_)
  · rfl
  · rfl
  exact ret_ (call_pen (r2 := [.l true p, .d (.list (odds ++ odds2))]) (i := 0) rfl (evL rfl) rfl rfl e)
theorem log_step {k k' : Int} {L : Nat} (h : k.natAbs.log2 ≤ L) (h2 : k'.natAbs ≤ k.natAbs + 1) : k'.natAbs.log2 ≤ L + 1 := by
  have h1 : k.natAbs < 2 ^ (L + 1) := by
    by_cases e : k.natAbs = 0
    · rw [e]; exact Nat.two_pow_pos _
    · exact (Nat.log2_lt e).mp (by omega)
  have h3 : k'.natAbs < 2 ^ (L + 2) := by
    have : 2 ^ (L + 2) = 2 * 2 ^ (L + 1) := by rw [Nat.pow_succ, Nat.mul_comm]
    have := Nat.two_pow_pos (L + 1)
    omega
  have := log_le h3 (by omega)
  omega
theorem few1 {n : Nat} (h : n ≤ 900000) : n ≤ many := Nat.le_trans h (by decide)
section
variable {L n c : Nat}
theorem bent_top (hL : 203 ≤ L) (hc : c ≤ 400000) {v : PyData} (hv : Gv L n c v) {p : List PyData} (hp : PenL p) (dep : PyData) : ∃ (x : PyData) (p' : List PyData) (z : Sl), PenL p' ∧ Gv (L + 1) (n + 3) (2 * c + 300) x ∧
    gBt [.l true p, .d v, .d dep, .u, .u, .u] = .ok (.ret (.v x)) [.l true p', .d v, .d dep, z, .u, .u] := by
  obtain ⟨o, p1, hp1, e1, h0, h1⟩ := draw_ok hp (b := 8) (by decide) (by decide)
  have s1 : (sSet 3 (eCall MDraw [true, false] (aCons (eVar 0) (aCons (eC (.int 8)) (aNil))))) [.l true p, .d v, .d dep, .u, .u, .u] = .ok .next [.l true p1, .d v, .d dep, .d (.int o), .u, .u] := set_v (callP rfl evC e1) rfl
  obtain ⟨y, p2, hp2, hy, e2⟩ := odd_ok hp1
  have last : ∀ (h1 : (tAndD (tTru (eOp1 (gIsa PyData.isInt) (eVar 1))) (tAndD (tNotD (tTru (eOp1 (gIsa PyData.isBool) (eVar 1)))) (tBoo (eOp2 gLt (eVar 3) (eC (.int 6)))))) [.l true p1, .d v, .d dep, .d (.int o), .u, .u] = .ok false [.l true p1, .d v, .d dep, .d (.int o), .u, .u])
      (h2 : (tAndD (tTru (eOp1 (gIsa PyData.isTuple) (eVar 1))) (tBoo (eOp2 gLt (eVar 3) (eC (.int 6))))) [.l true p1, .d v, .d dep, .d (.int o), .u, .u] = .ok false [.l true p1, .d v, .d dep, .d (.int o), .u, .u]),
      ∃ (x : PyData) (p' : List PyData) (z : Sl), PenL p' ∧ Gv (L + 1) (n + 3) (2 * c + 300) x ∧ gBt [.l true p, .d v, .d dep, .u, .u, .u] = .ok (.ret (.v x)) [.l true p', .d v, .d dep, z, .u, .u] := fun h1 h2 =>
    ⟨y, p2, .d (.int o), hp2, hy.more (by omega) (by omega) (by omega), (seqN s1).trans ((skipF h1).trans ((skipF h2).trans (ret_ (callP0 rfl e2))))⟩
  cases v with
  | int k =>
    have hk : k.natAbs.log2 ≤ L := of_decide_eq_true hv.lm
    have hk2 : k.natAbs.log2 + 2 ≤ c := hv.ct
    have ti : (tAndD (tTru (eOp1 (gIsa PyData.isInt) (eVar 1))) (tAndD (tNotD (tTru (eOp1 (gIsa PyData.isBool) (eVar 1)))) (tBoo (eOp2 gLt (eVar 3) (eC (.int 6)))))) [.l true p1, .d (.int k), .d dep, .d (.int o), .u, .u] = .ok (decide (o < 6)) [.l true p1, .d (.int k), .d dep, .d (.int o), .u, .u] :=
      (taT (tt_ (ed1 (evV rfl) rfl) rfl rfl)).trans ((taT (tn_ (k := false) (tt_ (ed1 (evV rfl) rfl) rfl rfl))).trans (tb_ (ed2 (evV rfl) evC rfl)))
    by_cases h6 : o < 6
    · rw [decide_eq_true h6] at ti
      obtain ⟨x, hx, ex⟩ := ix_mem (xs := [.int (k + 1), .int (k - 1), .bool (decide (k = 1)), .int 0, .int (-k), .int (k + 1)]) h0 h6
      have st : ∀ k' : Int, k'.natAbs ≤ k.natAbs + 1 → Gv (L + 1) (n + 3) (2 * c + 300) (.int k') := fun k' h => by
        have h1 := log_step hk h
        have h2 := log_step (L := k.natAbs.log2) (Nat.le_refl _) h
        exact ⟨decide_eq_true h1, Nat.zero_le _, by show k'.natAbs.log2 + 2 ≤ _; omega⟩
      refine ⟨x, p1, .d (.int o), hp1, ?_, ?_⟩
      · simp only [List.mem_cons, List.not_mem_nil, or_false] at hx
        rcases hx with rfl | rfl | rfl | rfl | rfl | rfl
        · exact st _ (by omega)
        · exact st _ (by omega)
        · exact ⟨rfl, Nat.zero_le _, by show 5 ≤ _; omega⟩
        · exact st _ (by omega)
        · exact st _ (by omega)
        · exact st _ (by omega)
      · refine (seqN s1).trans (retT ti (ret_ ?_))
        refine ev2v (x := .n [.int (k + 1), .int (k - 1), .bool (decide (k = 1)), .int 0, .int (-k), .int (k + 1)]) ?_ (evV rfl) rfl rfl ex
        exact lst_ (aC (ed2 (evV rfl) evC rfl) (aC (ed2 (evV rfl) evC rfl) (aC (ed2 (evV rfl) evC (gEq_int _ _)) (aC evC (aC (ed1 (evV rfl) rfl) (aC (ed2 (evV rfl) evC rfl) aN)))))) rfl (by show 6 ≤ few; decide)
    · rw [decide_eq_false h6] at ti
      exact last ti (taF (tt_ (ed1 (evV rfl) rfl) rfl rfl))
  | tuple xs =>
    obtain ⟨hx, hcs⟩ := hv.tup
    have hlen : xs.length ≤ c := hv.len
    have ti : (tAndD (tTru (eOp1 (gIsa PyData.isInt) (eVar 1))) (tAndD (tNotD (tTru (eOp1 (gIsa PyData.isBool) (eVar 1)))) (tBoo (eOp2 gLt (eVar 3) (eC (.int 6)))))) [.l true p1, .d (.tuple xs), .d dep, .d (.int o), .u, .u] = .ok false [.l true p1, .d (.tuple xs), .d dep, .d (.int o), .u, .u] := taF (tt_ (ed1 (evV rfl) rfl) rfl rfl)
    have tt : (tAndD (tTru (eOp1 (gIsa PyData.isTuple) (eVar 1))) (tBoo (eOp2 gLt (eVar 3) (eC (.int 6))))) [.l true p1, .d (.tuple xs), .d dep, .d (.int o), .u, .u] = .ok (decide (o < 6)) [.l true p1, .d (.tuple xs), .d dep, .d (.int o), .u, .u] := (taT (tt_ (ed1 (evV rfl) rfl) rfl rfl)).trans (tb_ (ed2 (evV rfl) evC rfl))
    by_cases h6 : o < 6
    · rw [decide_eq_true h6] at tt
      obtain ⟨x, hxm, ex⟩ := ix_mem (xs := [.tuple (cutD xs (some 1) none), .tuple (cutD xs none (some (-1))), .tuple (xs ++ cutD xs none (some 1)), .tuple xs.reverse, .list xs, .tuple (xs ++ [.int 0])]) h0 h6
      have up : ∀ ys : List PyData, (∀ y ∈ ys, y ∈ xs ∨ y = .int 0) → costs ys + 3 ≤ 2 * c + 300 → Gv (L + 1) (n + 3) (2 * c + 300) (.tuple ys) := fun ys hys hcs => by
        refine (gv_tup (L := L + 1) (n := n + 2) (fun y hy => ?_) hcs)
        rcases hys y hy with h | h
        · exact ⟨lim_more (Nat.le_succ _) _ (hx y h).1, by have := (hx y h).2; omega⟩
        · subst h
          exact ⟨(show lim (L + 1) (.int 0) = true from decide_eq_true (show (0 : Int).natAbs.log2 ≤ L + 1 from Nat.zero_le _)), Nat.zero_le _⟩
      refine ⟨x, p1, .d (.int o), hp1, ?_, ?_⟩
      · simp only [List.mem_cons, List.not_mem_nil, or_false] at hxm
        rcases hxm with rfl | rfl | rfl | rfl | rfl | rfl
        · exact up _ (fun y hy => .inl ((cut_sub _ _ _).subset hy)) (by have := costs_sub (cut_sub xs (some 1) none); omega)
        · exact up _ (fun y hy => .inl ((cut_sub _ _ _).subset hy)) (by have := costs_sub (cut_sub xs none (some (-1))); omega)
        · refine up _ (fun y hy => ?_) (by have := costs_sub (cut_sub xs none (some 1)); rw [costs_app]; omega)
          rcases List.mem_append.mp hy with h | h
          · exact .inl h
          · exact .inl ((cut_sub _ _ _).subset h)
        · exact up _ (fun y hy => .inl (List.mem_reverse.mp hy)) (by rw [costs_rev]; omega)
        · have := up xs (fun y hy => .inl hy) (by omega)
          exact ⟨this.lm, this.dp, this.ct⟩
        · refine up _ (fun y hy => ?_) (by rw [costs_app]; show costs xs + (2 + 2 + 0) + 3 ≤ _; omega)
          rcases List.mem_append.mp hy with h | h
          · exact .inl h
          · exact .inr (List.mem_singleton.mp h)
      · refine (seqN s1).trans ((skipF ti).trans (retT tt (ret_ ?_)))
        refine ev2v (x := .n [.tuple (cutD xs (some 1) none), .tuple (cutD xs none (some (-1))), .tuple (xs ++ cutD xs none (some 1)), .tuple xs.reverse, .list xs, .tuple (xs ++ [.int 0])]) ?_ (evV rfl) rfl rfl ex
        refine lst_ (aC (sl_ (evV rfl) (oy_ evC) rfl rfl) (aC (sl_ (evV rfl) rfl (oy_ (ed1 evC rfl)) rfl) (aC (ed2 (evV rfl) (sl_ (evV rfl) rfl (oy_ evC) rfl) (gAdd_tup ?_)) (aC (ed1 (evV rfl) rfl) (aC (ev1n (evV rfl) rfl rfl) (aC (ed2 (evV rfl) rfl (gAdd_tup ?_)) aN)))))) rfl (by show 6 ≤ few; decide)
        · have := (cut_sub xs none (some 1)).length_le
          exact few1 (by omega)
        · exact few1 (by show xs.length + 1 ≤ _; omega)
    · rw [decide_eq_false h6] at tt
      exact last ti tt
  | bool b => exact last ((taT (tt_ (ed1 (evV rfl) rfl) rfl rfl)).trans (taF (tn_ (k := true) (tt_ (ed1 (evV rfl) rfl) rfl rfl)))) (taF (tt_ (ed1 (evV rfl) rfl) rfl rfl))
  | none => exact last (taF (tt_ (ed1 (evV rfl) rfl) rfl rfl)) (taF (tt_ (ed1 (evV rfl) rfl) rfl rfl))
  | str z => exact last (taF (tt_ (ed1 (evV rfl) rfl) rfl rfl)) (taF (tt_ (ed1 (evV rfl) rfl) rfl rfl))
  | list xs => exact last (taF (tt_ (ed1 (evV rfl) rfl) rfl rfl)) (taF (tt_ (ed1 (evV rfl) rfl) rfl rfl))
  | dict kvs => exact last (taF (tt_ (ed1 (evV rfl) rfl) rfl rfl)) (taF (tt_ (ed1 (evV rfl) rfl) rfl rfl))
end
theorem bent_n : ∀ (m : Nat) (dep : Nat), dep ≤ m → ∀ {L n c : Nat}, 203 ≤ L → c ≤ 400000 → ∀ {v : PyData}, Gv L n c v → ∀ {p : List PyData}, PenL p → ∃ (x : PyData) (p' : List PyData), PenL p' ∧ Gv (L + 1) (n + 3) (2 * c + 300) x ∧
    MrBent (m + 1) [.l p, .d v, .d (.int (dep : Nat))] = .ok (.v x) [.l p', .d v, .d (.int (dep : Nat))] := by
  intro m
  induction m with
  | zero =>
    intro dep hdep L n c hL hc v hv p hp
    obtain rfl : dep = 0 := by omega
    obtain ⟨x, p', z, hp', hx, e⟩ := bent_top hL hc hv hp (.int ((0 : Nat) : Int))
    refine ⟨x, p', hp', hx, ?_⟩
    refine den_ret rfl (v := .v x) (r := [.l true p', .d v, .d (.int ((0 : Nat) : Int)), z, .u, .u]) ?_ rfl rfl
    show gBent _ [.l true p, .d v, .d (.int ((0 : Nat) : Int)), .u, .u, .u] = _
    unfold gBent
    refine retT ?_ e
    have t2 : tBoo (eOp2 gEq (eVar 2) (eC (.int 0))) [.l true p, .d v, .d (.int ((0 : Nat) : Int)), .u, .u, .u] = .ok true [.l true p, .d v, .d (.int ((0 : Nat) : Int)), .u, .u, .u] := tb_ (ed2 (evV rfl) evC (gEq_int _ _))
    cases v with
    | tuple xs =>
      refine (toF (tn_ (k := true) (tt_ (ed1 (evV rfl) rfl) rfl rfl))).trans ?_
      have t1 : tBoo (eOp2 gEq (eVar 1) (eTup (aNil))) [.l true p, .d (.tuple xs), .d (.int ((0 : Nat) : Int)), .u, .u, .u] = .ok xs.isEmpty [.l true p, .d (.tuple xs), .d (.int ((0 : Nat) : Int)), .u, .u, .u] := tb_ (ed2 (evV rfl) rfl (gEq_tup0' xs))
      cases xs with
      | nil => exact toT t1
      | cons a as => exact (toF t1).trans (toT t2)
    | _ => exact toT (tn_ (k := false) (tt_ (ed1 (evV rfl) rfl) rfl rfl))
  | succ m ih =>
    intro dep hdep L n c hL hc v hv p hp
    have top : ∀ p1, PenL p1 → (tOrD (tNotD (tTru (eOp1 (gIsa PyData.isTuple) (eVar 1)))) (tOrD (tBoo (eOp2 gEq (eVar 1) (eTup (aNil)))) (tOrD (tBoo (eOp2 gEq (eVar 2) (eC (.int 0)))) (tBoo (eOp2 gEq (eCall MDraw [true, false] (aCons (eVar 0) (aCons (eC (.int 6)) (aNil)))) (eC (.int 0))))))) [.l true p, .d v, .d (.int (dep : Nat)), .u, .u, .u] = .ok true [.l true p1, .d v, .d (.int (dep : Nat)), .u, .u, .u] →
        ∃ (x : PyData) (p' : List PyData), PenL p' ∧ Gv (L + 1) (n + 3) (2 * c + 300) x ∧ MrBent (m + 1 + 1) [.l p, .d v, .d (.int (dep : Nat))] = .ok (.v x) [.l p', .d v, .d (.int (dep : Nat))] := fun p1 hp1 t => by
      obtain ⟨x, p', z, hp', hx, e⟩ := bent_top hL hc hv hp1 (.int (dep : Nat))
      refine ⟨x, p', hp', hx, ?_⟩
      refine den_ret rfl (v := .v x) (r := [.l true p', .d v, .d (.int (dep : Nat)), z, .u, .u]) ?_ rfl rfl
      show gBent _ [.l true p, .d v, .d (.int (dep : Nat)), .u, .u, .u] = _
      unfold gBent
      exact retT t e
    cases v with
    | tuple xs =>
      have t0 : tNotD (tTru (eOp1 (gIsa PyData.isTuple) (eVar 1))) [.l true p, .d (.tuple xs), .d (.int (dep : Nat)), .u, .u, .u] = .ok false [.l true p, .d (.tuple xs), .d (.int (dep : Nat)), .u, .u, .u] := tn_ (k := true) (tt_ (ed1 (evV rfl) rfl) rfl rfl)
      have t1 : tBoo (eOp2 gEq (eVar 1) (eTup (aNil))) [.l true p, .d (.tuple xs), .d (.int (dep : Nat)), .u, .u, .u] = .ok xs.isEmpty [.l true p, .d (.tuple xs), .d (.int (dep : Nat)), .u, .u, .u] := tb_ (ed2 (evV rfl) rfl (gEq_tup0' xs))
      have t2 : tBoo (eOp2 gEq (eVar 2) (eC (.int 0))) [.l true p, .d (.tuple xs), .d (.int (dep : Nat)), .u, .u, .u] = .ok (decide (((dep : Nat) : Int) = 0)) [.l true p, .d (.tuple xs), .d (.int (dep : Nat)), .u, .u, .u] := tb_ (ed2 (evV rfl) evC (gEq_int _ _))
      cases zx : xs.isEmpty with
      | true =>
        rw [zx] at t1
        exact top p hp ((toF t0).trans (toT t1))
      | false =>
        rw [zx] at t1
        by_cases hd : ((dep : Nat) : Int) = 0
        · rw [decide_eq_true hd] at t2
          exact top p hp ((toF t0).trans ((toF t1).trans (toT t2)))
        · rw [decide_eq_false hd] at t2
          obtain ⟨d, p1, hp1, e1, _, _⟩ := draw_ok hp (b := 6) (by decide) (by decide)
          have t3 : tBoo (eOp2 gEq (eCall MDraw [true, false] (aCons (eVar 0) (aCons (eC (.int 6)) (aNil)))) (eC (.int 0))) [.l true p, .d (.tuple xs), .d (.int (dep : Nat)), .u, .u, .u] = .ok (decide (d = 0)) [.l true p1, .d (.tuple xs), .d (.int (dep : Nat)), .u, .u, .u] :=
            tb_ (ev2v (callP rfl evC e1) evC rfl rfl (gEq_int d 0))
          by_cases hd0 : d = 0
          · rw [decide_eq_true hd0] at t3
            exact top p1 hp1 ((toF t0).trans ((toF t1).trans ((toF t2).trans t3)))
          · rw [decide_eq_false hd0] at t3
            obtain ⟨hx, hcs⟩ := hv.tup
            have hlen : xs.length ≤ c := hv.len
            have hpos : 0 < xs.length := by
              cases xs with
              | nil => cases zx
              | cons a as => exact Nat.succ_pos _
            obtain ⟨k, p2, hp2, e2, h0, h1⟩ := draw_ok hp1 (b := (xs.length : Nat)) (by omega) (by
              have := log_le (k := ((xs.length : Nat) : Int)) (n := 20) (by rw [Int.natAbs_natCast]; omega) (by decide)
              omega)
            obtain ⟨i, rfl⟩ := Int.eq_ofNat_of_zero_le h0
            have hi : i < xs.length := by omega
            have hmem : xs[i] ∈ xs := List.getElem_mem hi
            obtain ⟨dm, rfl⟩ : ∃ dm : Nat, dep = dm + 1 := ⟨dep - 1, by omega⟩
            have hold := cost_mem hmem
            obtain ⟨y, p3, hp3, hy, e3⟩ := ih dm (by omega) (L := L) (n := n - 1) (c := cost xs[i]) hL (by omega) ⟨(hx _ hmem).1, by have := (hx _ hmem).2; omega, Nat.le_refl _⟩ hp2
            have hn1 : 1 ≤ n := by have := (hx _ hmem).2; omega
            have split : xs = xs.take i ++ xs[i] :: xs.drop (i + 1) := by rw [← List.drop_eq_getElem_cons hi, List.take_append_drop]
            have cs : costs xs = costs (xs.take i) + (cost xs[i] + 2 + costs (xs.drop (i + 1))) := by
              conv => lhs; rw [split]
              rw [costs_app]
              rfl
            refine ⟨.tuple (xs.take i ++ [y] ++ xs.drop (i + 1)), p3, hp3, ?_, ?_⟩
            · refine (gv_tup (L := L + 1) (n := n + 2) (fun z hz => ?_) ?_)
              · have old : z ∈ xs → lim (L + 1) z = true ∧ z.depth ≤ n + 2 := fun h => ⟨lim_more (Nat.le_succ _) _ (hx z h).1, by have := (hx z h).2; omega⟩
                rcases List.mem_append.mp hz with h | h
                · rcases List.mem_append.mp h with h | h
                  · exact old (List.mem_of_mem_take h)
                  · rw [List.mem_singleton.mp h]
                    exact ⟨hy.lm, by have := hy.dp; omega⟩
                · exact old (List.mem_of_mem_drop h)
              · rw [costs_app, costs_app]
                have := hy.ct
                show costs (xs.take i) + (cost y + 2 + 0) + costs (xs.drop (i + 1)) + 3 ≤ _
                omega
            · refine den_ret rfl (v := .v (.tuple (xs.take i ++ [y] ++ xs.drop (i + 1)))) (r := [.l true p3, .d (.tuple xs), .d (.int ((dm + 1 : Nat) : Int)), .u, .d (.int (i : Nat)), .d y]) ?_ rfl rfl
              show gBent _ [.l true p, .d (.tuple xs), .d (.int ((dm + 1 : Nat) : Int)), .u, .u, .u] = _
              unfold gBent
              have s4 : sSet 4 (eCall MDraw [true, false] (aCons (eVar 0) (aCons (eOp1 gLen (eVar 1)) (aNil)))) [.l true p1, .d (.tuple xs), .d (.int ((dm + 1 : Nat) : Int)), .u, .u, .u] = .ok .next [.l true p2, .d (.tuple xs), .d (.int ((dm + 1 : Nat) : Int)), .u, .d (.int (i : Nat)), .u] := set_v (callP rfl (ed1 (evV rfl) rfl) e2) rfl
              have sb : gSub (.int ((dm + 1 : Nat) : Int)) (.int 1) = some (.v (.int (dm : Nat))) := by
                show some (Rs.v (.int (((dm + 1 : Nat) : Int) - 1))) = _
                rw [show (((dm + 1 : Nat) : Int) - 1) = ((dm : Nat) : Int) by omega]
              have s5 : sSet 5 (eCall (MrBent (m + 1)) [true, false, false] (aCons (eVar 0) (aCons (eOp2 gIx (eVar 1) (eVar 4)) (aCons (eOp2 gSub (eVar 2) (eC (.int 1))) (aNil))))) [.l true p2, .d (.tuple xs), .d (.int ((dm + 1 : Nat) : Int)), .u, .d (.int (i : Nat)), .u]
                  = .ok .next [.l true p3, .d (.tuple xs), .d (.int ((dm + 1 : Nat) : Int)), .u, .d (.int (i : Nat)), .d y] := set_v (callP2 rfl (ed2 (evV rfl) (evV rfl) (ix_nat (List.getElem?_eq_getElem hi))) (ed2 (evV rfl) evC sb) e3) rfl
              refine (skipF ((toF t0).trans ((toF t1).trans ((toF t2).trans t3)))).trans ((seqN s4).trans ((seqN s5).trans (ret_ ?_)))
              have g1 : gSl (.tuple xs) none (some ((i : Nat) : Int)) = some (.v (.tuple (xs.take i))) := by
                show some (Rs.v (.tuple (cutD xs none (some ((i : Nat) : Int))))) = _
                rw [cut_take]
              have g2 : gSl (.tuple xs) (some (((i : Nat) : Int) + 1)) none = some (.v (.tuple (xs.drop (i + 1)))) := by
                show some (Rs.v (.tuple (cutD xs (some (((i + 1 : Nat) : Int))) none))) = _
                rw [cut_drop]
              have l1 : (xs.take i).length ≤ c := Nat.le_trans (List.length_take_le _ _) (by omega)
              have l2 : (xs.drop (i + 1)).length ≤ c := by rw [List.length_drop]; omega
              refine ed2 (ed2 (sl_ (evV rfl) rfl (oy_ (evV rfl)) g1) (tup_ (aC (evV rfl) aN) rfl (by show 1 ≤ few; decide)) (gAdd_tup ?_)) (sl_ (evV rfl) (oy_ (ed2 (evV rfl) evC rfl)) rfl g2) (gAdd_tup ?_)
              · exact few1 (by show _ + 1 ≤ _; omega)
              · refine few1 ?_
                rw [List.length_append]
                show _ + 1 + _ ≤ _
                omega
    | _ => exact top p hp (toT (tn_ (k := false) (tt_ (ed1 (evV rfl) rfl) rfl rfl)))
theorem bent_ok {dep : Nat} (hd : dep ≤ 7) {L n c : Nat} (hL : 203 ≤ L) (hc : c ≤ 400000) {v : PyData} (hv : Gv L n c v) {p : List PyData} (hp : PenL p) : ∃ (x : PyData) (p' : List PyData), PenL p' ∧ Gv (L + 1) (n + 3) (2 * c + 300) x ∧
    MBent [.l p, .d v, .d (.int (dep : Nat))] = .ok (.v x) [.l p', .d v, .d (.int (dep : Nat))] := bent_n 7 dep hd hL hc hv hp
end PD

/-! PDEv: a tactic that reckons expressions with the rules. -/
namespace PD
open PySem PySem.Spec PyProof.Rows L2
section
variable {r r1 r2 : PEn}
theorem unp_ {g : PyData → Option (List (Nat × PyData))} {f : PEn → Out Val} {d : PyData} {l : List (Nat × PyData)} (h : f r = .ok (.v d) r1) (hg : g d = some l) (hf : frees l r1 = true) : sUnp g f r = .ok .next (setE l r1) := by
  unfold sUnp
  rw [h]
  show unp g (.v d) r1 = _
  unfold unp
  show (match g d with | some l => if frees l r1 = true then Out.ok Fl.next (setE l r1) else .bad | none => .bad) = _
  rw [hg]
  show (if frees l r1 = true then _ else _) = _
  rw [if_pos hf]
theorem app_ {f : PEn → Out Val} {i : Nat} {q : Bool} {xs xs0 : List PyData} {d : PyData} (h0 : r[i]? = some (.l q xs0)) (h : f r = .ok (.v d) r1) (h1 : r1[i]? = some (.l q xs)) (hl : xs.length < many) : sExpr (eApp i f) r = .ok .next (r1.set i (.l q (xs ++ [d]))) := by
  unfold sExpr eApp
  simp only [h0, h, Out.bind, Val.fz, h1, hl, if_true]
theorem par_ {fs : PEn → Out (List Val)} {i j : Nat} {d e : PyData} (h : fs r = .ok [.v d, .v e] r1) (hi : free r1 i = true) (hj : free (r1.set i (.d d)) j = true) : sPar [i, j] fs r = .ok .next ((r1.set i (.d d)).set j (.d e)) := by
  unfold sPar
  rw [h]
  show asgs [i, j] [.v d, .v e] r1 = _
  unfold asgs
  show Out.bind (asg i (.v d) r1) _ = _
  have e1 : asg i (.v d) r1 = .ok .next (r1.set i (.d d)) := if_pos hi
  rw [e1]
  show asgs [j] [.v e] (r1.set i (.d d)) = _
  unfold asgs
  show Out.bind (asg j (.v e) (r1.set i (.d d))) _ = _
  have e2 : asg j (.v e) (r1.set i (.d d)) = .ok .next ((r1.set i (.d d)).set j (.d e)) := if_pos hj
  rw [e2]
  rfl
theorem call_d1v {M : List Arg → FO} {f : PEn → Out Val} {d w : PyData} (hf : f r = .ok (.v d) r1) (hM : M [.d d] = .ok (.v w) [.d d]) : eCall M [false] (aCons f aNil) r = .ok (.v w) r1 := call_d1 hf rfl hM
/-- of a fresh list -/
theorem call_n1v {M : List Arg → FO} {f : PEn → Out Val} {ds : List PyData} {w : PyData} (hf : f r = .ok (.n ds) r1) (hM : M [.d (.list ds)] = .ok (.v w) [.d (.list ds)]) : eCall M [false] (aCons f aNil) r = .ok (.v w) r1 := call_d1 hf rfl hM
/-- f(pen, e), what e leaves may be anything -/
theorem callQ {M : List Arg → FO} {f : PEn → Out Val} {i : Nat} {q : Bool} {p0 p p' : List PyData} {v : Val} {d w : PyData} (h0 : r[i]? = some (.l q p0)) (hf : f r = .ok v r1) (hz : v.fz r1 = some (d, r2)) (hi : r2[i]? = some (.l q p)) (hM : M [.l p, .d d] = .ok (.v w) [.l p', .d d]) :
    eCall M [true, false] (aCons (eVar i) (aCons f aNil)) r = .ok (.v w) (r2.set i (.l q p')) := call_pen h0 hf hz hi hM
theorem callQn {M : List Arg → FO} {f : PEn → Out Val} {i : Nat} {q : Bool} {p0 p p' : List PyData} {v : Val} {d : PyData} {ws : List PyData} (h0 : r[i]? = some (.l q p0)) (hf : f r = .ok v r1) (hz : v.fz r1 = some (d, r2)) (hi : r2[i]? = some (.l q p)) (hM : M [.l p, .d d] = .ok (.n ws) [.l p', .d d]) :
    eCall M [true, false] (aCons (eVar i) (aCons f aNil)) r = .ok (.n ws) (r2.set i (.l q p')) := call_pen h0 hf hz hi hM
theorem not_ {f : PEn → Out Val} {k : Bool} (h : f r = .ok (.v (.bool k)) r1) : eNotD f r = .ok (.v (.bool (!k))) r1 := by
  unfold eNotD
  rw [h]
  rfl
end
section
variable {r : PEn} {d a b c e : PyData} {xs : List PyData} {i j : Int}
theorem rd_v : Val.rd r (.v d) = some d := rfl
theorem rd_n : Val.rd r (.n xs) = some (.list xs) := rfl
theorem fz_v : Val.fz r (.v d) = some (d, r) := rfl
theorem fz_n : Val.fz r (.n xs) = some (.list xs, r) := rfl
theorem gNeg_int : gNeg (.int i) = some (.v (.int (-i))) := rfl
theorem gAdd_int : gAdd (.int i) (.int j) = some (.v (.int (i + j))) := rfl
theorem gSub_int : gSub (.int i) (.int j) = some (.v (.int (i - j))) := rfl
theorem gLt_int : gLt (.int i) (.int j) = some (.v (.bool (decide (i < j)))) := rfl
theorem gLe_int : gLe (.int i) (.int j) = some (.v (.bool (decide (i ≤ j)))) := rfl
theorem gGt_int : gGt (.int i) (.int j) = some (.v (.bool (decide (j < i)))) := rfl
theorem gGe_int : gGe (.int i) (.int j) = some (.v (.bool (decide (j ≤ i)))) := rfl
theorem gLen_tup : gLen (.tuple xs) = some (.v (.int (xs.length : Nat))) := rfl
theorem gLen_lst : gLen (.list xs) = some (.v (.int (xs.length : Nat))) := rfl
theorem gTuple_lst : gTuple (.list xs) = some (.v (.tuple xs)) := rfl
theorem gTuple_tup : gTuple (.tuple xs) = some (.v (.tuple xs)) := rfl
theorem truth_bool {k : Bool} : truthD (.bool k) = some k := rfl
theorem ix1 : gIx (.tuple (a :: b :: xs)) (.int 1) = some (.v b) := ix_nat (xs := a :: b :: xs) (i := 1) rfl
theorem ix2 : gIx (.tuple (a :: b :: c :: xs)) (.int 2) = some (.v c) := ix_nat (xs := a :: b :: c :: xs) (i := 2) rfl
theorem ix3 : gIx (.tuple (a :: b :: c :: e :: xs)) (.int 3) = some (.v e) := ix_nat (xs := a :: b :: c :: e :: xs) (i := 3) rfl
theorem ixl0 : gIx (.list (a :: xs)) (.int 0) = some (.v a) := ixl_nat (xs := a :: xs) (i := 0) rfl
/-- products of which one factor is small -/
theorem gMul_l (h : -(2 ^ 64) < i ∧ i < 2 ^ 64) : gMul (.int i) (.int j) = some (.v (.int (i * j))) := if_pos (.inr (.inl h))
theorem gMul_r (h : -(2 ^ 64) < j ∧ j < 2 ^ 64) : gMul (.int i) (.int j) = some (.v (.int (i * j))) := if_pos (.inr (.inr h))
end
section
variable {r r1 r2 r3 : PEn}
theorem set_vE {i : Nat} {f : PEn → Out Val} {d : PyData} (h : f r = .ok (.v d) r1) (hf : free r1 i = true) (he : r1.set i (.d d) = r2) : sSet i f r = .ok .next r2 := (set_v h hf).trans (by rw [he])
theorem set_nE {i : Nat} {f : PEn → Out Val} {xs : List PyData} (h : f r = .ok (.n xs) r1) (hf : free r1 i = true) (he : r1.set i (.l false xs) = r2) : sSet i f r = .ok .next r2 := (set_n h hf).trans (by rw [he])
theorem unp_E {g : PyData → Option (List (Nat × PyData))} {f : PEn → Out Val} {d : PyData} {l : List (Nat × PyData)} (h : f r = .ok (.v d) r1) (hg : g d = some l) (hf : frees l r1 = true) (he : setE l r1 = r2) : sUnp g f r = .ok .next r2 := (unp_ h hg hf).trans (by rw [he])
theorem app_E {f : PEn → Out Val} {i : Nat} {q : Bool} {xs xs0 : List PyData} {d : PyData} (h0 : r[i]? = some (.l q xs0)) (h : f r = .ok (.v d) r1) (h1 : r1[i]? = some (.l q xs)) (hl : xs.length < many) (he : r1.set i (.l q (xs ++ [d])) = r2) : sExpr (eApp i f) r = .ok .next r2 := (app_ h0 h h1 hl).trans (by rw [he])
theorem par_E {fs : PEn → Out (List Val)} {i j : Nat} {d e : PyData} (h : fs r = .ok [.v d, .v e] r1) (hi : free r1 i = true) (hj : free (r1.set i (.d d)) j = true) (he : (r1.set i (.d d)).set j (.d e) = r2) : sPar [i, j] fs r = .ok .next r2 := (par_ h hi hj).trans (by rw [he])
theorem callP0E {M : List Arg → FO} {i : Nat} {q : Bool} {p p' : List PyData} {w : PyData} (h0 : r[i]? = some (.l q p)) (hM : M [.l p] = .ok (.v w) [.l p']) (he : r.set i (.l q p') = r1) : eCall M [true] (aCons (eVar i) aNil) r = .ok (.v w) r1 := (callP0 h0 hM).trans (by rw [he])
theorem callP0nE {M : List Arg → FO} {i : Nat} {q : Bool} {p p' : List PyData} {ws : List PyData} (h0 : r[i]? = some (.l q p)) (hM : M [.l p] = .ok (.n ws) [.l p']) (he : r.set i (.l q p') = r1) : eCall M [true] (aCons (eVar i) aNil) r = .ok (.n ws) r1 := (call_pen0 h0 hM).trans (by rw [← he]; rfl)
theorem callQE {M : List Arg → FO} {f : PEn → Out Val} {i : Nat} {q : Bool} {p0 p p' : List PyData} {v : Val} {d w : PyData} (h0 : r[i]? = some (.l q p0)) (hf : f r = .ok v r1) (hz : v.fz r1 = some (d, r2)) (hi : r2[i]? = some (.l q p)) (hM : M [.l p, .d d] = .ok (.v w) [.l p', .d d]) (he : r2.set i (.l q p') = r3) :
    eCall M [true, false] (aCons (eVar i) (aCons f aNil)) r = .ok (.v w) r3 := (callQ h0 hf hz hi hM).trans (by rw [he])
theorem callQnE {M : List Arg → FO} {f : PEn → Out Val} {i : Nat} {q : Bool} {p0 p p' : List PyData} {v : Val} {d : PyData} {ws : List PyData} (h0 : r[i]? = some (.l q p0)) (hf : f r = .ok v r1) (hz : v.fz r1 = some (d, r2)) (hi : r2[i]? = some (.l q p)) (hM : M [.l p, .d d] = .ok (.n ws) [.l p', .d d]) (he : r2.set i (.l q p') = r3) :
    eCall M [true, false] (aCons (eVar i) (aCons f aNil)) r = .ok (.n ws) r3 := (callQn h0 hf hz hi hM).trans (by rw [he])
theorem callP2E {M : List Arg → FO} {f f' : PEn → Out Val} {i : Nat} {q : Bool} {p p1 p' : List PyData} {d d' w : PyData} (h0 : r[i]? = some (.l q p)) (hf : f r = .ok (.v d) r1) (hf' : f' r1 = .ok (.v d') r2) (h2 : r2[i]? = some (.l q p1)) (hM : M [.l p1, .d d, .d d'] = .ok (.v w) [.l p', .d d, .d d']) (he : r2.set i (.l q p') = r3) :
    eCall M [true, false, false] (aCons (eVar i) (aCons f (aCons f' aNil))) r = .ok (.v w) r3 := (callP2' h0 hf hf' h2 hM).trans (by rw [he])
end
/-- a comprehension over one name that draws -/
theorem comp_env {j : Nat} {f : PEn → Out Val} {s : PEn → Out (List PyData)} {env : List PyData → PEn} {items : List PyData} {Pr : PyData → Prop} (hs : ∀ p, s (env p) = .ok items (env p)) (hl : items.length ≤ many) (hw : ∀ p, wipeE (env p) [j] = env p) (hb : ∀ p p', backE (env p) (env p') [j] = env p')
    (step : ∀ p d, d ∈ items → PenL p → ∃ e p', PenL p' ∧ Pr e ∧ ∃ r3, f (setE [(j, d)] (env p)) = .ok (.v e) r3 ∧ wipeE r3 [j] = env p') {p : List PyData} (hp : PenL p) :
    ∃ es p', PenL p' ∧ es.length = items.length ∧ (∀ e ∈ es, Pr e) ∧ eComp s [j] (gNm j) tYesD f (env p) = .ok (.n es) (env p') := by
  obtain ⟨acc, r', e, p', hp', hlen, hall, rfl⟩ := comp_draw (own := [j]) (g := gNm j) (f := f) (r := env p) (r1 := env p) (r0 := env p) (fun i acc r => ∃ p', PenL p' ∧ acc.length = i ∧ (∀ e ∈ acc, Pr e) ∧ r = env p') (hs p) hl (hw p) ⟨p, hp, rfl, fun _ h => (nomatch h), rfl⟩ (by
    rintro i d acc r hi ⟨p1, hp1, hlen, hall, rfl⟩
    obtain ⟨e, p2, hp2, hPr, r3, hf, hr3⟩ := step p1 d (List.mem_of_getElem? hi) hp1
    refine ⟨[(j, d)], setE [(j, d)] (env p1), .v e, r3, e, r3, rfl, by simp [within], rfl, hf, rfl, p2, hp2, by rw [List.length_append, hlen]; rfl, fun x hx => ?_, hr3⟩
    rcases List.mem_append.mp hx with h | h
    · exact hall x h
    · rw [List.mem_singleton.mp h]; exact hPr)
  exact ⟨acc, p', hp', hlen, hall, by rw [e, hb]⟩
def intIn (lo hi : Int) (x : PyData) : Prop := ∃ a : Int, x = .int a ∧ lo ≤ a ∧ a ≤ hi
theorem len3 {xs : List PyData} (h : xs.length = 3) : ∃ a b c, xs = [a, b, c] := by
  match xs, h with
  | [a, b, c], _ => exact ⟨a, b, c, rfl⟩
theorem gv_each {L n c m C : Nat} {ys : List PyData} (h : ∀ y ∈ ys, Gv L n c y) (hl : ys.length ≤ m) (hC : m * (c + 2) + 3 ≤ C) : Gv L (n + 1) C (.tuple ys) :=
  gv_tup (fun y hy => ⟨(h y hy).lm, (h y hy).dp⟩) (by
    have h1 := costs_le fun y hy => (h y hy).ct
    have h2 := Nat.mul_le_mul_right (c + 2) hl
    omega)
theorem gv_eachL {L n c m C : Nat} {ys : List PyData} (h : ∀ y ∈ ys, Gv L n c y) (hl : ys.length ≤ m) (hC : m * (c + 2) + 3 ≤ C) : Gv L (n + 1) C (.list ys) := by
  have := gv_each h hl hC
  exact ⟨this.lm, this.dp, this.ct⟩
theorem gv_bool {L n c : Nat} (h : 5 ≤ c) (b : Bool) : Gv L n c (.bool b) := ⟨rfl, Nat.zero_le _, h⟩
theorem gv_none {L n c : Nat} (h : 4 ≤ c) : Gv L n c .none := ⟨rfl, Nat.zero_le _, h⟩
theorem gv_small {L n c : Nat} {k : Int} (h : -128 < k ∧ k < 128) (hL : 7 ≤ L) (hc : 9 ≤ c) : Gv L n c (.int k) := by
  have := log_le (k := k) (n := 7) (by omega) (by decide)
  exact ⟨decide_eq_true (by omega), Nat.zero_le _, by show k.natAbs.log2 + 2 ≤ c; omega⟩
end PD
local macro_rules
  | `(tactic| get_elem_tactic_extensible) => `(tactic| first
    | with_reducible assumption
    | ((with_reducible apply PD.evV); rfl)
    | ((with_reducible apply PD.evL); rfl)
    | with_reducible exact PD.evC
    | with_reducible exact PD.aN
    | with_reducible exact PD.lst_nil
    | ((with_reducible apply PD.aC) <;> get_elem_tactic_extensible)
    | ((with_reducible apply PD.ev2v) <;> get_elem_tactic_extensible)
    | ((with_reducible apply PD.ev1v) <;> get_elem_tactic_extensible)
    | ((with_reducible apply PD.tup_) <;> get_elem_tactic_extensible)
    | ((with_reducible apply PD.lst_) <;> get_elem_tactic_extensible)
    | ((with_reducible apply PD.sl_) <;> get_elem_tactic_extensible)
    | ((with_reducible apply PD.oy_) <;> get_elem_tactic_extensible)
    | ((with_reducible apply PD.callP0E) <;> get_elem_tactic_extensible)
    | ((with_reducible apply PD.callP0nE) <;> get_elem_tactic_extensible)
    | ((with_reducible apply PD.callQE) <;> get_elem_tactic_extensible)
    | ((with_reducible apply PD.callQnE) <;> get_elem_tactic_extensible)
    | ((with_reducible apply PD.ev1n) <;> get_elem_tactic_extensible)
    | ((with_reducible apply PD.callP2E) <;> get_elem_tactic_extensible)
    | ((with_reducible apply PD.call_d1v) <;> get_elem_tactic_extensible)
    | ((with_reducible apply PD.call_d2v) <;> get_elem_tactic_extensible)
    | ((with_reducible apply PD.call_d3v) <;> get_elem_tactic_extensible)
    | ((with_reducible apply PD.chain_) <;> get_elem_tactic_extensible)
    | ((with_reducible apply PD.not_) <;> get_elem_tactic_extensible)
    | ((with_reducible apply PD.set_vE) <;> get_elem_tactic_extensible)
    | ((with_reducible apply PD.set_nE) <;> get_elem_tactic_extensible)
    | ((with_reducible apply PD.unp_E) <;> get_elem_tactic_extensible)
    | ((with_reducible apply PD.app_E) <;> get_elem_tactic_extensible)
    | ((with_reducible apply PD.par_E) <;> get_elem_tactic_extensible)
    | ((with_reducible apply PD.tb_) <;> get_elem_tactic_extensible)
    | ((with_reducible apply PD.tt_) <;> get_elem_tactic_extensible)
    | ((with_reducible apply PD.tn_) <;> get_elem_tactic_extensible)
    | with_reducible exact PD.rd_v
    | with_reducible exact PD.rd_n
    | with_reducible exact PD.fz_v
    | with_reducible exact PD.fz_n
    | with_reducible exact PD.gNeg_int
    | with_reducible exact PD.gAdd_int
    | with_reducible exact PD.gSub_int
    | with_reducible exact PD.gLt_int
    | with_reducible exact PD.gLe_int
    | with_reducible exact PD.gGt_int
    | with_reducible exact PD.gGe_int
    | with_reducible exact PD.gLen_tup
    | with_reducible exact PD.gLen_lst
    | with_reducible exact PD.gTuple_lst
    | with_reducible exact PD.gTuple_tup
    | with_reducible exact PD.truth_bool
    | with_reducible exact PD.ix0 _ _
    | with_reducible exact PD.ix1
    | with_reducible exact PD.ix2
    | with_reducible exact PD.ix3
    | with_reducible exact PD.ixl0
    | with_reducible exact PD.gEq_int _ _
    | with_reducible exact PD.gNe_int _ _
    | rfl
    | exact Nat.le_of_ble_eq_true rfl)

/-! PDSetA: conditions (k, (a, b, c)) as members of sets: hash, ==, <, and what is asked of them. -/
namespace PD
open PySem PySem.Spec PyProof.Rows L2
/-- a condition: a number and three numbers -/
abbrev Cnd := Int × Int × Int × Int
def cndK (c : Cnd) : NestedKey := .tup [.num c.1, .tup [.num c.2.1, .num c.2.2.1, .num c.2.2.2]]
def cndD (c : Cnd) : PyData := .tuple [.int c.1, .tuple [.int c.2.1, .int c.2.2.1, .int c.2.2.2]]
theorem cndK_inj {c d : Cnd} (h : cndK c = cndK d) : c = d := by
  obtain ⟨k, a, b, e⟩ := c
  obtain ⟨k', a', b', e'⟩ := d
  simp only [cndK, NestedKey.tup.injEq, List.cons.injEq, NestedKey.num.injEq, and_true] at h
  obtain ⟨rfl, rfl, rfl, rfl⟩ := h
  rfl
theorem cnd_dep (c : Cnd) : (cndK c).depth = 2 := by
  simp only [cndK, NestedKey.depth, NestedKey.depthAll]
  rfl
/-- the condition c lies at b -/
def IsC (h : Heap) (c : Cnd) (b : Addr) : Prop := ∃ (o o2 : Obj) (n n2 : Nat) (b2 : Addr) (t0 t1 t2 t3 : Tok), h.get? b = some o ∧ o.cls = .type "tuple" ∧ o.data = .seq #[.int c.1 t0, .ref b2] n ∧
  h.get? b2 = some o2 ∧ o2.cls = .type "tuple" ∧ o2.data = .seq #[.int c.2.1 t1, .int c.2.2.1 t2, .int c.2.2.2 t3] n2
theorem IsC.at {h h' : Heap} {c : Cnd} {b : Addr} (x : IsC h c b) (m : ∀ y o vs n, h.get? y = some o → o.data = .seq vs n → h'.get? y = some o) : IsC h' c b := by
  obtain ⟨o, o2, n, n2, b2, t0, t1, t2, t3, e1, e2, e3, e4, e5, e6⟩ := x
  exact ⟨o, o2, n, n2, b2, t0, t1, t2, t3, m _ _ _ _ e1 e3, e2, e3, m _ _ _ _ e4 e6, e5, e6⟩
theorem IsC.keep {h h' : Heap} {c : Cnd} {b : Addr} (x : IsC h c b) (m : ∀ y o, h.get? y = some o → h'.get? y = some o) : IsC h' c b := x.at fun y o _ _ e _ => m y o e
/-- a set that changes is no condition -/
theorem IsC.beside {h h' : Heap} {c : Cnd} {a b : Addr} {o : Obj} {es : Array (Int × Value)} {ep : Nat} {t : SetTable} (x : IsC h c b) (g : h.get? a = some o) (gd : o.data = .set es ep t) (sb : Heap.SameBut a h h') : IsC h' c b := x.at fun y o' vs n e d => by
  refine (sb.2 y ?_).trans e
  rintro rfl
  rw [g] at e
  cases e
  rw [gd] at d
  cases d
theorem IsC.key {h : Heap} {c : Cnd} {b : Addr} (x : IsC h c b) : NestedIs h (cndK c) (.ref b) := by
  obtain ⟨o, o2, n, n2, b2, t0, t1, t2, t3, e1, e2, e3, e4, e5, e6⟩ := x
  exact .tup e1 e2 e3 (.cons (.int _ _) (.cons (.tup e4 e5 e6 (.cons (.int _ _) (.cons (.int _ _) (.cons (.int _ _) .nil)))) .nil))
theorem IsC.one {h : Heap} {c d : Cnd} {b : Addr} (x : IsC h c b) (y : IsC h d b) : c = d := cndK_inj (NestedIs.inj _ _ _ x.key y.key)
theorem IsC.typ {s : Shared} {c : Cnd} {b : Addr} (x : IsC s.heap c b) : s.TypeIs (.ref b) "tuple" := by
  obtain ⟨o, o2, n, n2, b2, t0, t1, t2, t3, e1, e2, e3, e4, e5, e6⟩ := x
  exact ⟨o, e1, e2⟩
abbrev ch (w : World) (c : Cnd) : Int := (cndK c).hash w
section
variable {P : Program} {w : World} {A : Around} {E : Value → Shared → Prop} {s : Shared}
theorem hash_c {c : Cnd} {b : Addr} {Q : Int → Shared → Prop} (x : IsC s.heap c b) (hu : A.units + 8 < cLine) (q : Q (ch w c) { s with toks := s.toks + (cndK c).draws }) : wpAny (model P w) A (pyHash (.ref b)) Q E s :=
  pyHash_key _ _ _ _ _ x.key (by rw [cnd_dep]; omega) q
theorem eqv_c {c d : Cnd} {a b : Addr} {Q : Bool → Shared → Prop} (x : IsC s.heap c a) (y : IsC s.heap d b) (hu : A.units + 8 < cLine) (q : Q (decide (c = d)) s) : wpAny (model P w) A (eqBool (.ref a) (.ref b)) Q E s := by
  refine eqAt_key _ _ A s _ _ x.key y.key (by rw [cnd_dep, cnd_dep]; omega) _ _ _ _ ?_
  rw [← NestedKey.decide_eq]
  have : decide (cndK c = cndK d) = decide (c = d) := decide_eq_decide.mpr ⟨cndK_inj, fun e => by rw [e]⟩
  rw [this]
  exact q
theorem calm_c {c : Cnd} {b : Addr} {Q : Bool → Shared → Prop} (x : IsC s.heap c b) (q : Q true s) : wpAny (model P w) A (eqIsQuiet 8 (.ref b)) Q E s := quiet_key _ _ 8 s x.key (by rw [cnd_dep]; decide) A E Q q
/-- of no class statement -/
def NoCls (P : Program) (w : World) (n : Nat) (s : Shared) (v : Value) : Prop := ∀ (A : Around) (E : Value → Shared → Prop) (Q : Bool → Shared → Prop), Q false s → wpAny (model P w) A (ofAClassStatement n v) Q E s
theorem nocls_int (n : Nat) (i : Int) (t : Tok) : NoCls P w n s (.int i t) := fun A E Q q => by
  rw [ofAClass_int]
  exact wpAny_pure q
theorem nocls_tup {n m : Nat} {b : Addr} {o : Obj} {vs : Array Value} (g : s.heap.get? b = some o) (gc : o.cls = .type "tuple") (gd : o.data = .seq vs m) (all : ∀ v ∈ vs.toList, NoCls P w n s v) : NoCls P w (n + 1) s (.ref b) := fun A E Q q => by
  have ty : s.TypeIs (.ref b) "tuple" := ⟨o, g, gc⟩
  unfold ofAClassStatement
  refine wpAny_bind (wpAny_typeOf ty ?_)
  dsimp only
  have yes : (("tuple" : String) == "tuple") = true := by decide
  simp only [yes, if_true, Bool.not_true, Bool.false_eq_true, if_false]
  try refine wpAny_bind (wpAny_pure ?_)
  try simp only [Bool.not_true, Bool.false_eq_true, if_false]
  show wpAny _ _ (seqItems? (.ref b) >>= _) _ _ s
  refine wpAny_bind (wpAny_seqItems g gd ?_)
  dsimp only
  refine wpAny_bind ?_
  show wpAny _ _ (forIn vs _ _) _ _ s
  rw [← Array.forIn_toList]
  refine wpAny_forIn_list _ (fun left z s1 => z.1 = none ∧ s1 = s ∧ ∀ v ∈ left, NoCls P w n s v) _ ?_ ?_ _ _ ⟨rfl, rfl, all⟩
  · rintro v left z s1 ⟨hz, rfl, more⟩
    refine wpAny_bind (more v List.mem_cons_self _ _ _ ?_)
    simp only [Bool.false_eq_true, if_false]
    exact wpAny_pure ⟨rfl, rfl, fun u hu => more u (List.mem_cons_of_mem _ hu)⟩
  · rintro ⟨z1, z2⟩ s1 ⟨hz, rfl, _⟩
    simp only at hz
    subst hz
    exact wpAny_pure q
theorem nocls_c {c : Cnd} {b : Addr} (x : IsC s.heap c b) : NoCls P w 8 s (.ref b) := by
  obtain ⟨o, o2, n, n2, b2, t0, t1, t2, t3, e1, e2, e3, e4, e5, e6⟩ := x
  refine nocls_tup e1 e2 e3 fun v hv => ?_
  simp only [List.mem_cons, List.not_mem_nil, or_false] at hv
  rcases hv with rfl | rfl
  · exact nocls_int _ _ _
  · refine nocls_tup e4 e5 e6 fun v hv => ?_
    simp only [List.mem_cons, List.not_mem_nil, or_false] at hv
    rcases hv with rfl | rfl | rfl <;> exact nocls_int _ _ _
/-- hashed by its value -/
def ByVal (P : Program) (w : World) (n : Nat) (s : Shared) (v : Value) : Prop := ∀ (A : Around) (E : Value → Shared → Prop) (Q : Bool → Shared → Prop), Q true s → wpAny (model P w) A (hashByValue n v) Q E s
theorem byval_int (n : Nat) (i : Int) (t : Tok) : ByVal P w n s (.int i t) := fun A E Q q => by
  rw [hashBy_int]
  exact wpAny_pure q
theorem byval_tup {n m : Nat} {b : Addr} {o : Obj} {vs : Array Value} (g : s.heap.get? b = some o) (gc : o.cls = .type "tuple") (gd : o.data = .seq vs m) (all : ∀ v ∈ vs.toList, ByVal P w n s v) : ByVal P w (n + 1) s (.ref b) := fun A E Q q => by
  have ty : s.TypeIs (.ref b) "tuple" := ⟨o, g, gc⟩
  unfold hashByValue
  refine wpAny_bind (wpAny_specialOf ty F.slot_tuple_hash.lookup ?_)
  show wpAny _ _ (seqItems? (.ref b) >>= _) _ _ s
  refine wpAny_bind (wpAny_seqItems g gd ?_)
  refine wpAny_bind ?_
  show wpAny _ _ (forIn vs _ _) _ _ s
  rw [← Array.forIn_toList]
  refine wpAny_forIn_list _ (fun left z s1 => z.1 = none ∧ s1 = s ∧ ∀ v ∈ left, ByVal P w n s v) _ ?_ ?_ _ _ ⟨rfl, rfl, all⟩
  · rintro v left z s1 ⟨hz, rfl, more⟩
    refine wpAny_bind (more v List.mem_cons_self _ _ _ ?_)
    simp only [Bool.not_true, Bool.false_eq_true, if_false]
    exact wpAny_pure ⟨rfl, rfl, fun u hu => more u (List.mem_cons_of_mem _ hu)⟩
  · rintro ⟨z1, z2⟩ s1 ⟨hz, rfl, _⟩
    simp only at hz
    subst hz
    exact wpAny_pure q
theorem byval_c {c : Cnd} {b : Addr} (x : IsC s.heap c b) : ByVal P w 8 s (.ref b) := by
  obtain ⟨o, o2, n, n2, b2, t0, t1, t2, t3, e1, e2, e3, e4, e5, e6⟩ := x
  refine byval_tup e1 e2 e3 fun v hv => ?_
  simp only [List.mem_cons, List.not_mem_nil, or_false] at hv
  rcases hv with rfl | rfl
  · exact byval_int _ _ _
  · refine byval_tup e4 e5 e6 fun v hv => ?_
    simp only [List.mem_cons, List.not_mem_nil, or_false] at hv
    rcases hv with rfl | rfl | rfl <;> exact byval_int _ _ _
/-- a search among conditions is not seen -/
theorem unseen_c {c : Cnd} {b : Addr} {Q : Bool → Shared → Prop} (x : IsC s.heap c b) {ys : List Value} (hys : ∀ y ∈ ys, ∃ d e, y = Value.ref e ∧ IsC s.heap d e) (q : Q false s) : wpAny (model P w) A (searchCouldBeSeen (.ref b) ys) Q E s := by
  unfold searchCouldBeSeen
  refine wpAny_bind ?_
  refine wpAny_forIn_list _ (fun left z s1 => z.1 = none ∧ s1 = s ∧ ∀ y ∈ left, ∃ d e, y = Value.ref e ∧ IsC s.heap d e) _ ?_ ?_ _ _ ⟨rfl, rfl, hys⟩
  · rintro v left z s1 ⟨hz, rfl, more⟩
    obtain ⟨d, e, rfl, y⟩ := more v List.mem_cons_self
    have less : ∀ y ∈ left, ∃ d e, y = Value.ref e ∧ IsC s1.heap d e := fun u hu => more u (List.mem_cons_of_mem _ hu)
    dsimp only
    by_cases very : (b == e || (carriedByValue (.ref b) && carriedByValue (.ref e))) = true
    · exact wp_if_pos very (wpAny_pure ⟨rfl, rfl, less⟩)
    · refine wp_if_neg very ?_
      refine wpAny_bind (calm_c x ?_)
      simp only [Bool.not_true, Bool.false_eq_true, if_false]
      refine wpAny_bind (calm_c y ?_)
      simp only [Bool.not_true, Bool.false_eq_true, if_false]
      refine wpAny_bind (nocls_c x _ _ _ ?_)
      simp only [Bool.false_eq_true, if_false]
      refine wpAny_bind (nocls_c y _ _ _ ?_)
      simp only [Bool.false_eq_true, if_false]
      exact wpAny_pure ⟨rfl, rfl, less⟩
  · rintro ⟨z1, z2⟩ s1 ⟨hz, rfl, _⟩
    simp only at hz
    subst hz
    exact wpAny_pure q
end
end PD

/-! PDSetB: sets of conditions: looking for one, adding one. -/
namespace PD
open PySem PySem.Spec PyProof.Rows L2
def crow (hs : Cnd → Int) (L : List (Addr × Cnd)) : List (Int × Value) := L.map fun p => (hs p.2, Value.ref p.1)
theorem crow_len {hs : Cnd → Int} {L : List (Addr × Cnd)} {es : Array (Int × Value)} (h : es.toList = crow hs L) : es.size = L.length := by
  have := congrArg List.length h
  unfold crow at this
  rwa [Array.length_toList, List.length_map] at this
theorem crow_at {hs : Cnd → Int} {L : List (Addr × Cnd)} {es : Array (Int × Value)} (h : es.toList = crow hs L) {i : Nat} {p : Addr × Cnd} (e : L[i]? = some p) : es[i]? = some (hs p.2, Value.ref p.1) := by
  rw [← Array.getElem?_toList, h]
  unfold crow
  rw [List.getElem?_map, e]
  rfl
/-- the set at a has the members L, in its table's order -/
structure CSet (hs : Cnd → Int) (w : World) (h : Heap) (a : Addr) (L : List (Addr × Cnd)) (es : Array (Int × Value)) (ep : Nat) (t : SetTable) : Prop where
  obj : ∃ o, h.get? a = some o ∧ o.ExactSet ∧ o.data = .set es ep t
  row : es.toList = crow hs L
  tb : TabOk t (L.map fun p => hs p.2)
  dif : (L.map (·.2)).Nodup
  mem : ∀ p ∈ L, IsC h p.2 p.1
  pln : t.plain = true
  seen : w.params.followText "set-order" = true ∨ t.led = true
  free : L.length * 5 < t.mask * 3
  few : L.length < 64
variable {hs : Cnd → Int} {P : Program} {w : World} {A : Around} {E : Value → Shared → Prop} {s : Shared} {a : Addr} {L : List (Addr × Cnd)} {es : Array (Int × Value)} {ep : Nat} {t : SetTable}
theorem CSet.fit (R : CSet hs w s.heap a L es ep t) : t.fits es.size = true := by
  have q1 := R.tb.sz
  rw [List.length_map] at q1
  have q2 := crow_len R.row
  have q3 := R.free
  unfold SetTable.fits SetTable.fill
  rw [R.tb.dm, Bool.and_eq_true, beq_iff_eq, decide_eq_true_eq]
  refine ⟨by omega, ?_⟩
  show t.place.size + 0 ≤ t.mask
  omega
theorem CSet.stays (R : CSet hs w s.heap a L es ep t) : ¬ t.gaveWay = true := by
  unfold SetTable.gaveWay
  rw [mask_odd R.tb.mok]
  decide
abbrev pr (m : Nat) (h : Int) (c : Nat) : SetTable.Probe := nth m (runAt m (SetTable.bits h % (m + 1)) (SetTable.bits h)) c
theorem pr_add (m : Nat) (h : Int) (c q : Nat) : nth m (pr m h c) q = pr m h (c + q) := (nth_add m c _ q).symm
theorem pr_dum (m : Nat) (h : Int) (c : Nat) : (pr m h c).dummy = none := by
  have all : ∀ (n : Nat) (p : SetTable.Probe), p.dummy = none → (nth m p n).dummy = none := fun n => by
    induction n with
    | zero => exact fun p e => e
    | succ n ih =>
      intro p e
      refine ih (adv m p) ?_
      unfold adv
      split <;> exact e
  exact all c _ rfl
/-- looking for the condition k at x, from the c-th slot of its way on -/
theorem look_from (R : CSet hs w s.heap a L es ep t) {x : Addr} {k : Cnd} (X : IsC s.heap k x) (hu : A.units + 8 < cLine) {K : Nat} (lim : K < 10 * SetTable.turns t.mask) (hK : way t.mask (hs k) K ∉ t.place.toList) (hB : ∀ c, c < K → way t.mask (hs k) c ∈ t.place.toList)
    {Q : SetFound → Shared → Prop} (yes : k ∈ L.map (·.2) → Q (.there none) s) (no : k ∉ L.map (·.2) → Q (.free (way t.mask (hs k) K) false) s) : ∀ (f c : Nat) (st : Option SetTable.Probe), st.getD (t.probeStart (hs k)) = pr t.mask (hs k) c → c ≤ K → K - c < f →
      (∀ (i : Nat) p, L[i]? = some p → p.2 = k → ∃ c', c ≤ c' ∧ c' < K ∧ t.place.toList[i]? = some (way t.mask (hs k) c')) → wpAny (model P w) A (setSearchFrom a (.ref x) (hs k) true f st) Q E s := by
  intro f
  induction f with
  | zero => exact fun _ _ _ _ z _ => absurd z (Nat.not_lt_zero _)
  | succ f ih =>
    intro c st est hc hf ahead
    obtain ⟨o, g, gx, gd⟩ := R.obj
    have load : ∀ {T : (Array (Int × Value) × Nat × SetTable) → Shared → Prop}, T (es, ep, t) s → wpAny (model P w) A (setState a) T E s := fun q => wpAny_setState_of g gd R.fit q
    rw [setSearchFrom_succ]
    refine wpAny_bind (load ?_)
    dsimp only
    refine wp_if_neg R.stays ?_
    try refine wpAny_bind (wpAny_pure ?_)
    have jw : ∀ q, (nth t.mask (pr t.mask (hs k) c) q).j = way t.mask (hs k) (c + q) := fun q => congrArg SetTable.Probe.j (pr_add _ _ _ _)
    have hashes : ∀ (i : Nat) (p : Addr × Cnd), L[i]? = some p → (es[i]?.map fun r : Int × Value => r.1).getD 0 = hs p.2 := fun i p e => by
      rw [crow_at R.row e]
      rfl
    -- what has the key k is not among those passed
    have nope : ∀ q, (∀ k' i', k' < q → t.place.toList[i']? = some (nth t.mask (pr t.mask (hs k) c) k').j → (es[i']?.map fun r : Int × Value => r.1).getD 0 ≠ hs k) → ∀ (i0 : Nat) p0, L[i0]? = some p0 → p0.2 = k → ∀ c', c ≤ c' → c' < c + q → t.place.toList[i0]? = some (way t.mask (hs k) c') → False := fun q hno i0 p0 e0 k0 c' l1 l2 l3 => by
      refine hno (c' - c) i0 (by omega) (by rw [jw, show c + (c' - c) = c' by omega]; exact l3) ?_
      rw [hashes i0 p0 e0, k0]
    rcases go_spec t R.tb.ris R.tb.dm (fun i => (es[i]?.map (·.1)).getD 0) (hs k) (10 * SetTable.turns t.mask) (K - c) (pr t.mask (hs k) c) (pr_dum _ _ _) (by omega) (fun q hq => by rw [jw]; exact hB _ (by omega)) (by rw [jw, show c + (K - c) = K by omega]; exact hK) with ⟨q, i, hq, hi, _, hno, ans⟩ | ⟨hno, ans⟩
    · -- a slot with this hash
      have ans : t.probe (fun i => (es[i]?.map (·.1)).getD 0) (hs k) (st.getD (t.probeStart (hs k))) = some (.candidate (way t.mask (hs k) (c + q)) i (pr t.mask (hs k) (c + (q + 1)))) := by
        rw [est, ← jw, ← pr_add]
        exact ans
      rw [ans]
      dsimp only
      rw [jw] at hi
      have il : i < L.length := by
        have u1 := (List.getElem?_eq_some_iff.mp hi).1
        have u2 := R.tb.sz
        rw [List.length_map] at u2
        rw [Array.length_toList] at u1
        omega
      obtain ⟨p, ep0⟩ : ∃ p, L[i]? = some p := ⟨_, List.getElem?_eq_getElem il⟩
      have pm : p ∈ L := List.mem_of_getElem? ep0
      have slot : t.slot (way t.mask (hs k) (c + q)) = .live i := slot_live R.tb.ris hi
      have main : wpAny (model P w) A (searchRest a (.ref x) (hs k) true f es t (way t.mask (hs k) (c + q)) i (pr t.mask (hs k) (c + (q + 1)))) Q E s := by
        unfold searchRest
        rw [crow_at R.row ep0]
        dsimp only
        refine wpAny_bind (wpAny_holding (eqv_c (R.mem p pm) X hu ?_))
        refine wpAny_bind (load ?_)
        dsimp only
        by_cases same : p.2 = k
        · refine wp_if_pos (by simp [same]) (wpAny_pure (yes ?_))
          exact List.mem_map.mpr ⟨p, pm, same⟩
        · refine wp_if_neg (by simp [same]) ?_
          try refine wpAny_bind (wpAny_pure ?_)
          rw [sameMem]
          dsimp only
          simp only [if_true, slot, crow_at R.row ep0]
          refine wpAny_bind (wpAny_isSame_ref_self (wpAny_bind (wpAny_pure ?_)))
          simp only [if_true]
          refine wp_if_neg (by simp [same]) ?_
          refine ih (c + (q + 1)) _ rfl (by omega) (by omega) fun i0 p0 e0 k0 => ?_
          obtain ⟨c', l1, l2, l3⟩ := ahead i0 p0 e0 k0
          refine ⟨c', ?_, l2, l3⟩
          by_cases before : c' < c + q
          · exact (nope q hno i0 p0 e0 k0 c' l1 before l3).elim
          · by_cases here : c' = c + q
            · rw [here] at l3
              have two := (slot_live R.tb.ris l3).symm.trans slot
              injection two with two
              rw [two, ep0] at e0
              exact absurd ((congrArg Prod.snd (Option.some.inj e0)).trans k0) same
            · omega
      by_cases led : t.led = true
      · refine wp_if_neg (by simp [led]) ?_
        try refine wpAny_bind (wpAny_pure ?_)
        exact main
      · refine wp_if_pos (by simp [led]) ?_
        refine wpAny_bind (unseen_c X (fun y hy => ?_) ?_)
        · obtain ⟨r, hr, rfl⟩ := List.mem_map.mp hy
          have hr : r ∈ es ∧ r.1 = hs k := by simpa using hr
          have hr : r ∈ es.toList := by simpa using hr.1
          rw [R.row] at hr
          obtain ⟨p2, m2, rfl⟩ := List.mem_map.mp hr
          exact ⟨p2.2, p2.1, rfl, R.mem p2 m2⟩
        · refine wp_if_neg (by decide) ?_
          try refine wpAny_bind (wpAny_pure ?_)
          exact main
    · -- an empty slot
      have ans : t.probe (fun i => (es[i]?.map (·.1)).getD 0) (hs k) (st.getD (t.probeStart (hs k))) = some (.empty (way t.mask (hs k) K) none) := by
        have := jw (K - c)
        rw [show c + (K - c) = K by omega] at this
        rw [est, ← this]
        exact ans
      rw [ans]
      dsimp only
      refine wpAny_pure (no fun there => ?_)
      obtain ⟨p0, m0, k0⟩ := List.mem_map.mp there
      obtain ⟨i0, l0, rfl⟩ := List.getElem_of_mem m0
      have e0 := List.getElem?_eq_getElem l0
      obtain ⟨c', l1, l2, l3⟩ := ahead i0 _ e0 k0
      exact nope (K - c) hno i0 _ e0 k0 c' l1 (by omega) l3
theorem look_c (R : CSet hs w s.heap a L es ep t) {x : Addr} {k : Cnd} (X : IsC s.heap k x) (hu : A.units + 8 < cLine) {Q : SetFound → Shared → Prop} (yes : k ∈ L.map (·.2) → Q (.there none) s)
    (no : ∀ K, k ∉ L.map (·.2) → way t.mask (hs k) K ∉ t.place.toList → (∀ c, c < K → way t.mask (hs k) c ∈ t.place.toList) → Q (.free (way t.mask (hs k) K) false) s) : wpAny (model P w) A (setSearch a (.ref x) (hs k) true) Q E s := by
  have fr := R.free
  obtain ⟨K, lim, hK, hB⟩ := R.tb.first (by rw [List.length_map]; omega) (hs k)
  have turns : 10 * SetTable.turns t.mask ≤ 2000 := by
    unfold SetTable.turns
    rcases R.tb.mok with m | m | m <;> omega
  unfold setSearch
  refine look_from R X hu lim hK hB yes (fun n => no K n hK hB) 100000 0 none (start_run t (hs k)) (Nat.zero_le _) (by omega) fun i p e ek => ?_
  have il := (List.getElem?_eq_some_iff.mp e).1
  have ip : i < t.place.toList.length := by
    have u2 := R.tb.sz
    rw [List.length_map] at u2
    rw [Array.length_toList]
    omega
  have hj := List.getElem?_eq_getElem ip
  obtain ⟨c, lc, ec⟩ := R.tb.before hK (by rw [List.getElem?_map, e]; exact congrArg some (congrArg (hs) ek)) hj
  exact ⟨c, Nat.zero_le _, lc, by rw [hj, ec]⟩
/-- the rows in another order -/
theorem crow_perm (L : List (Addr × Cnd)) (es : Array (Int × Value)) (ord : Array Nat) (hr : es.toList = crow hs L) (hp : ord.toList.Perm (List.range L.length)) :
    ∃ L', (ord.filterMap (es[·]?)).toList = crow hs L' ∧ L'.Perm L ∧ (L'.map fun p => hs p.2) = ord.toList.map fun i => (es.map (·.1)).getD i 0 := by
  have sz := crow_len hr
  have each : ∀ l : List Nat, (∀ i ∈ l, i < L.length) → l.filterMap (fun i => es[i]?) = crow hs (l.filterMap fun i => L[i]?) ∧ ((l.filterMap fun i => L[i]?).map fun p => hs p.2) = l.map fun i => (es.map (·.1)).getD i 0 := fun l => by
    induction l with
    | nil => exact fun _ => ⟨rfl, rfl⟩
    | cons i l ih =>
      intro hl
      have li := hl i List.mem_cons_self
      obtain ⟨u1, u2⟩ := ih fun j hj => hl j (List.mem_cons_of_mem _ hj)
      have ei := List.getElem?_eq_getElem li
      have ee := crow_at hr ei
      rw [List.filterMap_cons_some ee, List.filterMap_cons_some (f := fun i => L[i]?) ei, u1, List.map_cons, List.map_cons, u2]
      refine ⟨rfl, ?_⟩
      have e5 : (es.map (·.1))[i]? = some (hs (L[i]).2) := by rw [Array.getElem?_map, ee]; rfl
      have e4 : (es.map (·.1)).getD i 0 = hs (L[i]).2 := by simp [Array.getD_eq_getD_getElem?, e5]
      rw [e4]
  obtain ⟨u1, u2⟩ := each ord.toList fun i hi => List.mem_range.mp (hp.mem_iff.mp hi)
  refine ⟨ord.toList.filterMap fun i => L[i]?, ?_, ?_, u2⟩
  · first
      | (rw [Array.toList_filterMap]; exact u1)
      | simpa using u1
  · have whole : (List.range L.length).filterMap (fun i => L[i]?) = L := by
      apply List.ext_getElem?
      intro n
      have up : ∀ m, m ≤ L.length → (List.range m).filterMap (fun i => L[i]?) = L.take m := fun m => by
        induction m with
        | zero => exact fun _ => rfl
        | succ m ih =>
          intro hm
          rw [List.range_succ, List.filterMap_append, ih (by omega), List.take_succ, List.getElem?_eq_getElem (by omega), List.filterMap_cons_some (List.getElem?_eq_getElem (by omega))]
          rfl
      rw [up L.length (Nat.le_refl _), List.take_length]
    have := hp.filterMap fun i => L[i]?
    rw [whole] at this
    exact this
/-- the table is laid anew -/
theorem relay_c {o : Obj} (g : s.heap.get? a = some o) (gx : o.ExactSet) (gd : o.data = .set es ep t) (hr : es.toList = crow hs L) (hp : t.place.size = es.size) (hd : t.dummies = #[]) (hm : es.size ≤ t.mask) (dif : (L.map (·.2)).Nodup) (mem : ∀ p ∈ L, IsC s.heap p.2 p.1) (pln : t.plain = true)
    (seen : w.params.followText "set-order" = true ∨ t.led = true) (few : L.length < 64) {want M : Nat} (h1 : SetTable.sizeAbove want - 1 = M) (h2 : MaskOk M) (h3 : SetTable.sizeAbove want ≤ 128) (h4 : L.length * 5 < M * 3)
    {Q : Unit → Shared → Prop} (q : ∀ h' L' es' ep' t', Heap.SameBut a s.heap h' → CSet hs w h' a L' es' ep' t' → L'.Perm L → Q () { s with heap := h' }) : wpAny (model P w) A (setRelay a want) Q E s := by
  have sz := crow_len hr
  have fit : t.fits es.size = true := by
    unfold SetTable.fits SetTable.fill
    rw [hd, Bool.and_eq_true, beq_iff_eq, decide_eq_true_eq]
    exact ⟨hp, by show t.place.size + 0 ≤ t.mask; omega⟩
  obtain ⟨t', ord, e, op, T, em, el, epl, edm⟩ := relaid_ok t (hs := es.map (·.1)) (wanted := want) h1 h2 (by rw [Array.size_map]; omega)
  rw [Array.size_map, sz] at op
  obtain ⟨L', r1, r2, r3⟩ := crow_perm L es ord hr op
  rw [← r3] at T
  have sz' := crow_len r1
  have all : (ord.filterMap (es[·]?)).size = es.size := by rw [sz', r2.length_eq, sz]
  rw [setRelay_eq]
  refine wpAny_bind (wpAny_setState_of g gd fit ?_)
  dsimp only
  refine wp_if_neg (by rw [sizeLine_eq]; omega) ?_
  try refine wpAny_bind (wpAny_pure ?_)
  rw [e]
  dsimp only
  refine wpAny_bind ?_
  refine wp_if_neg (by rw [all]; simp) ?_
  try refine wpAny_bind (wpAny_pure ?_)
  refine wpAny_pure ?_
  dsimp only
  have sb : Heap.SameBut a s.heap (s.heap.update a (Obj.putSet (ord.filterMap (es[·]?)) t')) := Heap.SameBut.update ..
  refine wpAny_storeSet_of g gd (q _ L' (ord.filterMap (es[·]?)) (ep + 1) t' sb ?_ r2) (by rw [all, sz, sizeLine_eq]; omega)
  exact { obj := ⟨_, store_at g gd, ⟨gx.1, gx.2.1, gx.2.2⟩, rfl⟩, row := r1, tb := T, dif := (r2.map (·.2)).nodup_iff.mpr dif, mem := fun p m => (mem p (r2.mem_iff.mp m)).beside g gd sb,
          pln := by rw [epl]; exact pln, seen := by rw [el]; exact seen, free := by rw [r2.length_eq, em]; exact h4, few := by rw [r2.length_eq]; exact few }
end PD

/-! PDSetC: sets of conditions: adding; set(xs). -/
namespace PD
open PySem PySem.Spec PySem.Calls PyProof.Rows L2
def HashOk (P : Program) (w : World) (hs : Cnd → Int) : Prop := ∀ {A : Around} {E : Value → Shared → Prop} {s : Shared} {c : Cnd} {b : Addr} {Q : Int → Shared → Prop}, IsC s.heap c b → A.units + 8 < cLine → (∀ tk, s.toks ≤ tk → Q (hs c) { s with toks := tk }) → wpAny (model P w) A (pyHash (.ref b)) Q E s
theorem hash_ok (P : Program) (w : World) : HashOk P w fun c => (cndK c).hash w := fun x hu q => hash_c x hu (q _ (Nat.le_add_right _ _))
section
variable {hs : Cnd → Int} {P : Program} {w : World} {A : Around} {E : Value → Shared → Prop} {s : Shared} {a : Addr} {L : List (Addr × Cnd)} {es : Array (Int × Value)} {ep : Nat} {t : SetTable}
theorem ins_perm {α : Type} (l : List α) (n : Nat) (x : α) : (l.take n ++ x :: l.drop n).Perm (x :: l) := by
  have := List.perm_middle (a := x) (l₁ := l.take n) (l₂ := l.drop n)
  rwa [List.take_append_drop] at this
theorem add_c (R : CSet hs w s.heap a L es ep t) {x : Addr} {k : Cnd} (X : IsC s.heap k x) (hu : A.units + 8 < cLine) (few : L.length + 1 < 64) {Q : Bool → Shared → Prop}
    (q : ∀ b h' L' es' ep' t', Heap.SameBut a s.heap h' → CSet hs w h' a L' es' ep' t' → (k ∈ L.map (·.2) → L' = L) → (k ∉ L.map (·.2) → L'.Perm ((x, k) :: L)) → Q b { s with heap := h' }) : wpAny (model P w) A (setAddHashed a (.ref x) (hs k)) Q E s := by
  obtain ⟨o, g, gx, gd⟩ := R.obj
  have sz := crow_len R.row
  have fr := R.free
  have load : ∀ {A : Around} {T : (Array (Int × Value) × Nat × SetTable) → Shared → Prop}, T (es, ep, t) s → wpAny (model P w) A (setState a) T E s := fun q => wpAny_setState_of g gd R.fit q
  unfold setAddHashed
  refine wpAny_holding ?_
  rw [show (100000 : Nat) = 99999 + 1 from rfl, setAddHashedIn_succ]
  refine wpAny_bind (load ?_)
  dsimp only
  refine wp_if_neg (by simp [byScan, Value.scannable]) ?_
  try refine wpAny_bind (wpAny_pure ?_)
  refine wpAny_bind (look_c R X hu (fun there => ?_) fun K not hK hB => ?_)
  · dsimp only
    exact wpAny_pure (q false s.heap L es ep t (Heap.SameBut.refl a s.heap) R (fun _ => rfl) fun n => absurd there n)
  · dsimp only
    refine wpAny_bind (load ?_)
    dsimp only
    obtain ⟨u1, u2, u3, u4, u5, u6, u7, u8, u9⟩ := R.tb.put hK hB
    have pl1 : (t.put (way t.mask (hs k) K)).1.plain = true := by rw [u6]; exact R.pln
    generalize hput : t.put (way t.mask (hs k) K) = put at u1 u3 u4 u5 u6 u7 u8 u9 pl1 ⊢
    obtain ⟨t1, n⟩ := put
    dsimp only at u1 u3 u4 u5 u6 u7 u8 u9 pl1 ⊢
    subst u1
    first
      | (refine wpAny_bind ?_; refine wp_if_pos pl1 ?_; refine byval_c X _ _ _ ?_)
      | refine wp_if_pos pl1 (wpAny_bind (byval_c X _ _ _ ?_))
    simp only [if_true]
    have rows : (SetTable.insertAt es (SetTable.below t.place (way t.mask (hs k) K)) (hs k, Value.ref x)).toList = crow hs (L.take (SetTable.below t.place (way t.mask (hs k) K)) ++ (x, k) :: L.drop (SetTable.below t.place (way t.mask (hs k) K))) := by
      rw [SetTable.toList_insertAt, R.row]
      unfold crow
      rw [List.map_append, List.map_cons, List.map_take, List.map_drop]
    generalize SetTable.below t.place (way t.mask (hs k) K) = n at u2 u3 rows ⊢
    have pm := ins_perm L n (x, k)
    have len1 := pm.length_eq
    rw [List.length_cons] at len1
    have maps : (L.take n ++ (x, k) :: L.drop n).map (fun p => hs p.2) = (L.map fun p => hs p.2).take n ++ hs k :: (L.map fun p => hs p.2).drop n := by
      rw [List.map_append, List.map_cons, List.map_take, List.map_drop]
    rw [← maps] at u3
    have dif1 : ((L.take n ++ (x, k) :: L.drop n).map (·.2)).Nodup := (pm.map (·.2)).nodup_iff.mpr (by rw [List.map_cons]; exact List.nodup_cons.mpr ⟨not, R.dif⟩)
    have sz1 := crow_len rows
    rw [len1] at sz1
    generalize SetTable.insertAt es n (hs k, Value.ref x) = es1 at rows sz1 ⊢
    generalize L.take n ++ (x, k) :: L.drop n = L1 at pm len1 u3 dif1 rows
    refine wpAny_bind (wpAny_storeSet_of g gd ?_ (by rw [sz1, sizeLine_eq]; omega))
    have sb : Heap.SameBut a s.heap (s.heap.update a (Obj.putSet es1 t1)) := Heap.SameBut.update ..
    have g1 := store_at (es' := es1) (t' := t1) g gd
    generalize s.heap.update a (Obj.putSet es1 t1) = h1 at sb g1 ⊢
    have mem1 : ∀ p ∈ L1, IsC h1 p.2 p.1 := fun p hp => by
      rcases List.mem_cons.mp (pm.mem_iff.mp hp) with rfl | hp
      · exact X.beside g gd sb
      · exact (R.mem p hp).beside g gd sb
    have seen1 : w.params.followText "set-order" = true ∨ t1.led = true := by rw [u5]; exact R.seen
    by_cases full : t1.tooFull = true
    · first
        | (refine wpAny_bind ?_; refine wp_if_pos (by simp [full]) ?_)
        | (refine wp_if_pos (by simp [full]) ?_; refine wpAny_bind ?_)
      have much : (L.length + 1) * 5 ≥ t1.mask * 3 := by
        have := full
        unfold SetTable.tooFull at this
        rwa [decide_eq_true_eq, u9, List.length_map] at this
      rw [sz]
      have psz : t1.place.size = es1.size := by
        have := u3.sz
        rw [List.length_map, len1] at this
        omega
      have two : (t.mask = 7 ∧ L.length = 4) ∨ (t.mask = 31 ∧ L.length = 18) := by
        rcases R.tb.mok with m | m | m <;> rw [u4, m] at much <;> rw [m] at fr
        · exact .inl ⟨m, by omega⟩
        · exact .inr ⟨m, by omega⟩
        · omega
      have anew : ∀ M, SetTable.sizeAbove (SetTable.grown (L.length + 1)) - 1 = M → MaskOk M → SetTable.sizeAbove (SetTable.grown (L.length + 1)) ≤ 128 → (L.length + 1) * 5 < M * 3 →
          wpAny (model P w) A (setRelay a (SetTable.grown (L.length + 1))) (fun _ s1 => wpAny (model P w) A (pure true) Q E s1) E { s with heap := h1 } := fun M v1 v2 v3 v4 => by
        refine relay_c (s := { s with heap := h1 }) g1 ⟨gx.1, gx.2.1, gx.2.2⟩ rfl rows psz u3.dm (by rw [sz1, u4]; rcases two with ⟨m, l⟩ | ⟨m, l⟩ <;> omega) dif1 mem1 pl1 seen1 (by rw [len1]; exact few) v1 v2 v3 (by rw [len1]; exact v4) fun h2 L2 es2 ep2 t2 sb2 R2 pm2 => ?_
        exact wpAny_pure (q true h2 L2 es2 ep2 t2 (sb.trans sb2) R2 (fun y => absurd y not) fun _ => pm2.trans pm)
      rcases two with ⟨_, l⟩ | ⟨_, l⟩
      · exact anew 31 (by rw [l, size_20]) (.inr (.inl rfl)) (by rw [l, size_20]; decide) (by omega)
      · exact anew 127 (by rw [l, size_76]) (.inr (.inr rfl)) (by rw [l, size_76]; decide) (by omega)
    · first
        | refine wp_if_neg (by simp [full]) ?_
        | (refine wpAny_bind ?_; refine wp_if_neg (by simp [full]) ?_; refine wpAny_pure ?_)
      have room1 : L1.length * 5 < t1.mask * 3 := by
        have := full
        unfold SetTable.tooFull at this
        rw [decide_eq_true_eq, u9, List.length_map] at this
        omega
      exact wpAny_pure (q true h1 L1 es1 (ep + 1) t1 sb { obj := ⟨_, g1, ⟨gx.1, gx.2.1, gx.2.2⟩, rfl⟩, row := rows, tb := u3, dif := dif1, mem := mem1, pln := pl1, seen := seen1, free := room1, few := by rw [len1]; exact few } (fun y => absurd y not) fun _ => pm)
theorem CSet.moved {h h' : Heap} (R : CSet hs w h a L es ep t) (ka : ∀ o, h.get? a = some o → h'.get? a = some o) (km : ∀ p ∈ L, IsC h' p.2 p.1) : CSet hs w h' a L es ep t := by
  obtain ⟨o, g, r⟩ := R.obj
  exact { R with obj := ⟨o, ka o g, r⟩, mem := km }
abbrev newSet (w : World) : Obj := { cls := .type "set", dict := none, data := .set #[] 0 (.fresh 0 0 (!w.params.followText "set-order")) }
theorem CSet.new {h : Heap} (g : h.get? a = some (newSet w)) : CSet hs w h a [] #[] 0 (.fresh 0 0 (!w.params.followText "set-order")) where
  obj := ⟨_, g, ⟨rfl, rfl, rfl⟩, rfl⟩
  row := rfl
  tb := ⟨List.Pairwise.nil, rfl, rfl, .inl rfl, fun _ z => (nomatch z), fun i _ _ z => (by simp at z)⟩
  dif := List.nodup_nil
  mem := fun _ z => (nomatch z)
  pln := rfl
  seen := by
    show _ ∨ (!w.params.followText "set-order") = true
    cases w.params.followText "set-order" <;> simp
  free := (by decide : 0 * 5 < 7 * 3)
  few := (by decide : 0 < 64)
/-- the members after the first i items -/
structure Sofar (ks : List (Addr × Cnd)) (i : Nat) (L : List (Addr × Cnd)) : Prop where
  out : ∀ p ∈ L, p ∈ ks.take i
  inn : ∀ p ∈ ks.take i, p.2 ∈ L.map (·.2)
  len : L.length ≤ i
theorem Sofar.step {ks L L' : List (Addr × Cnd)} {i : Nat} {p : Addr × Cnd} (G : Sofar ks i L) (e : ks[i]? = some p) (c1 : p.2 ∈ L.map (·.2) → L' = L) (c2 : p.2 ∉ L.map (·.2) → L'.Perm (p :: L)) : Sofar ks (i + 1) L' := by
  have tk : ks.take (i + 1) = ks.take i ++ [p] := by rw [List.take_succ, e]; rfl
  by_cases c : p.2 ∈ L.map (·.2)
  · rw [c1 c]
    refine ⟨fun y hy => by rw [tk]; exact List.mem_append_left _ (G.out y hy), fun y hy => ?_, Nat.le_succ_of_le G.len⟩
    rw [tk] at hy
    rcases List.mem_append.mp hy with h | h
    · exact G.inn y h
    · rw [List.mem_singleton.mp h]; exact c
  · have pm := c2 c
    refine ⟨fun y hy => ?_, fun y hy => ?_, by rw [pm.length_eq]; exact Nat.succ_le_succ G.len⟩
    · rw [tk]
      rcases List.mem_cons.mp (pm.mem_iff.mp hy) with rfl | h
      · exact List.mem_append_right _ (List.mem_singleton.mpr rfl)
      · exact List.mem_append_left _ (G.out y h)
    · refine (pm.map (·.2)).mem_iff.mpr ?_
      rw [tk] at hy
      rcases List.mem_append.mp hy with h | h
      · exact List.mem_cons_of_mem _ (G.inn y h)
      · rw [List.mem_singleton.mp h]; exact List.mem_cons_self
/-- the loop of set.update -/
theorem update_c (HO : HashOk P w hs) {I : Addr} {fp wr : List Addr} {G : Array GenState → Array GenState → Prop} {n : Nat} {Pv : Nat → Value → Prop} {St : Nat → Shared → Prop} {R : Result → Shared → Prop} (W : WalksS P w A.in1 I fp wr G n Pv St) (S : Addr) (apart : S ∉ fp)
    (ks : List (Addr × Cnd)) (hn : n = ks.length) (few : ks.length < 64) (vals : ∀ i v, Pv i v → ∃ p, ks[i]? = some p ∧ v = .ref p.1) (h0 : Heap) (all : ∀ p ∈ ks, IsC h0 p.2 p.1) (S0 : h0.get? S = none) (wr0 : ∀ b ∈ wr, h0.get? b = none) (hu : A.in1.units + 8 < cLine) :
    ∀ (m i : Nat) (s : Shared), n - i = m → i ≤ n → St i s → (∀ b o, h0.get? b = some o → s.heap.get? b = some o) → (∃ L es ep t, CSet hs w s.heap S L es ep t ∧ Sofar ks i L) →
      (∀ s' L es ep t, Moved (S :: wr) G s s' → CSet hs w s'.heap S L es ep t → Sofar ks n L → (∀ b o, h0.get? b = some o → s'.heap.get? b = some o) → R (.ok (.ret .none)) s') →
      codeAny (model P w) A (.builtin "set.update.loop" ⟨[.ref S, .ref I], []⟩) R s := by
  have Sw : S ∉ wr := fun z => apart (W.sub _ z)
  have up : ∀ b ∈ wr, b ∈ S :: wr := fun b z => List.mem_cons_of_mem _ z
  have stay : ∀ {s s' : Shared}, Moved wr G s s' → (∀ b o, h0.get? b = some o → s.heap.get? b = some o) → ∀ b o, h0.get? b = some o → s'.heap.get? b = some o := fun mv k b o e =>
    mv.heap b o (fun z => by rw [wr0 b z] at e; cases e) (k b o e)
  intro m
  induction m with
  | zero =>
    intro i s hm hi hst k0 ⟨L, es, ep, t, C, G0⟩ fin
    obtain rfl : i = n := by omega
    refine codeAny_builtin F.entry_set_update_loop ?_
    rw [Around.under_plainId F.plain_set_update_loop _]
    show wpAny _ A.in1 (pyNext (.ref I) >>= _) _ _ s
    refine wpAny_bind (W.done s _ _ hst fun s1 mv => ?_)
    show wpAny _ A.in1 (ret Value.none) _ _ s1
    have k1 := stay mv k0
    exact wpAny_pure (fin s1 L es ep t (mv.mono up) (C.moved (fun o e => mv.heap S o Sw e) fun p hp => (all p (List.mem_of_mem_take (G0.out p hp))).keep k1) G0 k1)
  | succ m ih =>
    intro i s hm hi hst k0 ⟨L, es, ep, t, C, G0⟩ fin
    have lt : i < n := by omega
    refine codeAny_builtin F.entry_set_update_loop ?_
    rw [Around.under_plainId F.plain_set_update_loop _]
    show wpAny _ A.in1 (pyNext (.ref I) >>= _) _ _ s
    refine wpAny_bind (W.item i s _ _ lt hst fun v s1 hv st1 mv => ?_)
    obtain ⟨p, e, rfl⟩ := vals i v hv
    have k1 := stay mv k0
    have C1 : CSet hs w s1.heap S L es ep t := C.moved (fun o e => mv.heap S o Sw e) fun y hy => (all y (List.mem_of_mem_take (G0.out y hy))).keep k1
    have X : IsC s1.heap p.2 p.1 := (all p (List.mem_of_getElem? e)).keep k1
    show wpAny _ A.in1 (holding [Value.ref p.1] (setAdd S (.ref p.1)) >>= _) _ _ s1
    refine wpAny_bind (wpAny_holding ?_)
    unfold setAdd
    refine wpAny_holding ?_
    refine wpAny_bind (HO X hu fun tk htk => ?_)
    refine add_c (s := { s1 with toks := tk }) C1 X hu (by have := G0.len; omega) fun b h' L' es' ep' t' sb C2 c1 c2 => ?_
    have k2 : ∀ b o, h0.get? b = some o → h'.get? b = some o := fun b o e => (sb.2 b (fun z => by rw [z, S0] at e; cases e)).trans (k1 b o e)
    refine wpAny_pure ⟨plainId_quiet F.plain_set_update_loop _, ih (i + 1) _ (by omega) lt (W.frame _ s1 _ _ st1 htk fun b hb o e => ?_) k2 ⟨L', es', ep', t', C2, G0.step e c1 c2⟩ fun s2 L2 es2 ep2 t2 mv2 C3 G3 k3 => ?_⟩
    · rw [sb.2 b (fun z : b = S => apart (by rw [← z]; exact hb))]
      exact e
    · refine fin s2 L2 es2 ep2 t2 (Moved.trans W.gtrans ((mv.mono up).then_heap htk fun b o hb e => ?_) mv2) C3 G3 k3
      rw [sb.2 b (fun z : b = S => hb (by rw [z]; exact List.mem_cons_self))]
      exact e
end
end PD

/-! PDSetD: the order of conditions; sorting them. -/
namespace PD
open PySem PySem.Spec PySem.Calls PyProof.Rows L2
def clt (c d : Cnd) : Bool := if c.1 = d.1 then (if c.2.1 = d.2.1 then (if c.2.2.1 = d.2.2.1 then decide (c.2.2.2 < d.2.2.2) else decide (c.2.2.1 < d.2.2.1)) else decide (c.2.1 < d.2.1)) else decide (c.1 < d.1)
def inb (x : Int) : Prop := -1000 ≤ x ∧ x ≤ 1000
/-- a condition of small numbers -/
def csm (c : Cnd) : Prop := inb c.1 ∧ inb c.2.1 ∧ inb c.2.2.1 ∧ inb c.2.2.2
instance (c : Cnd) : Decidable (csm c) := by unfold csm inb; infer_instance
def crk (c : Cnd) : Int := ((c.1 * 4096 + c.2.1) * 4096 + c.2.2.1) * 4096 + c.2.2.2
theorem clt_rk {c d : Cnd} (hc : csm c) (hd : csm d) : clt c d = decide (crk c < crk d) := by
  obtain ⟨k, a, b, e⟩ := c
  obtain ⟨k', a', b', e'⟩ := d
  obtain ⟨h1, h2, h3, h4⟩ := hc
  obtain ⟨g1, g2, g3, g4⟩ := hd
  unfold inb at *
  simp only at h1 h2 h3 h4 g1 g2 g3 g4
  unfold clt crk
  simp only
  split
  · split
    · split
      · exact decide_eq_decide.mpr (by omega)
      · exact decide_eq_decide.mpr (by omega)
    · exact decide_eq_decide.mpr (by omega)
  · exact decide_eq_decide.mpr (by omega)
theorem crk_inj {c d : Cnd} (hc : csm c) (hd : csm d) (h : crk c = crk d) : c = d := by
  obtain ⟨k, a, b, e⟩ := c
  obtain ⟨k', a', b', e'⟩ := d
  obtain ⟨h1, h2, h3, h4⟩ := hc
  obtain ⟨g1, g2, g3, g4⟩ := hd
  unfold inb at *
  unfold crk at h
  simp only at h1 h2 h3 h4 g1 g2 g3 g4 h
  simp only [Prod.mk.injEq]
  omega
section
variable {P : Program} {w : World} {A : Around} {E : Value → Shared → Prop} {s : Shared}
/-- three numbers at an address -/
structure Tri (h : Heap) (a b c : Int) (x : Addr) (t1 t2 t3 : Tok) : Prop where
  ex : ∃ (o : Obj) (n : Nat), h.get? x = some o ∧ o.cls = .type "tuple" ∧ o.data = .seq #[.int a t1, .int b t2, .int c t3] n
theorem tri_key {h : Heap} {a b c : Int} {x : Addr} {t1 t2 t3 : Tok} (T : Tri h a b c x t1 t2 t3) : NestedIs h (.tup [.num a, .num b, .num c]) (.ref x) := by
  obtain ⟨o, n, e1, e2, e3⟩ := T.ex
  exact .tup e1 e2 e3 (.cons (.int _ _) (.cons (.int _ _) (.cons (.int _ _) .nil)))
theorem tri_dep (a b c : Int) : (NestedKey.tup [.num a, .num b, .num c]).depth = 1 := by
  simp only [NestedKey.depth, NestedKey.depthAll]
  rfl
theorem tri_eq {a b c a' b' c' : Int} {x y : Addr} {t1 t2 t3 u1 u2 u3 : Tok} {Q : Bool → Shared → Prop} (X : Tri s.heap a b c x t1 t2 t3) (Y : Tri s.heap a' b' c' y u1 u2 u3) (hu : A.units + 8 < cLine) (q : Q (decide (a = a' ∧ b = b' ∧ c = c')) s) :
    wpAny (model P w) A (eqBool (.ref x) (.ref y)) Q E s := by
  refine eqAt_key _ _ A s _ _ (tri_key X) (tri_key Y) (by rw [tri_dep, tri_dep]; omega) _ _ _ _ ?_
  have : NestedKey.beq (.tup [.num a, .num b, .num c]) (.tup [.num a', .num b', .num c']) = decide (a = a' ∧ b = b' ∧ c = c') := by
    simp only [NestedKey.beq, NestedKey.beqAll, Bool.and_true]
    by_cases h1 : a = a' <;> by_cases h2 : b = b' <;> by_cases h3 : c = c' <;> simp [h1, h2, h3]
  rw [this]
  exact q
def at3 (x y z : Bool) : Nat → Bool
  | 0 => x
  | 1 => y
  | _ => z
theorem tri_lt {a b c a' b' c' : Int} {x y : Addr} {t1 t2 t3 u1 u2 u3 : Tok} (X : Tri s.heap a b c x t1 t2 t3) (Y : Tri s.heap a' b' c' y u1 u2 u3) (hu : A.units + 8 < cLine) :
    Ob.RcOp .Lt A s (.ref x) (.ref y) (if a = a' then (if b = b' then (if c = c' then false else decide (c < c')) else decide (b < b')) else decide (a < a')) := by
  obtain ⟨o, n, e1, e2, e3⟩ := X.ex
  obtain ⟨o', n', f1, f2, f3⟩ := Y.ex
  have main := Ob.RcOp.tuples_lt (A := A) (s := s) (l := x) (b := y) (e := at3 (a == a') (b == b') (c == c')) (r := at3 (decide (a < a')) (decide (b < b')) (decide (c < c'))) ⟨o, e1, e2, n, e3⟩ ⟨o', f1, f2, n', f3⟩ (by omega) (fun j h1 h2 => by
    match j, h1 with
    | 0, _ => exact SeqAt.EqAt.int_int _ _ _ _
    | 1, _ => exact SeqAt.EqAt.int_int _ _ _ _
    | 2, _ => exact SeqAt.EqAt.int_int _ _ _ _
    | j + 3, h => exact absurd h (by simp)) (fun j h1 h2 _ => by
    match j, h1 with
    | 0, _ => exact Ob.RcOp.lt_int _ _ _ _
    | 1, _ => exact Ob.RcOp.lt_int _ _ _ _
    | 2, _ => exact Ob.RcOp.lt_int _ _ _ _
    | j + 3, h => exact absurd h (by simp))
  have z : Ob.lexAt (at3 (a == a') (b == b') (c == c')) (at3 (decide (a < a')) (decide (b < b')) (decide (c < c'))) (decide ((3 : Nat) < 3)) 0 3 = (if a = a' then (if b = b' then (if c = c' then false else decide (c < c')) else decide (b < b')) else decide (a < a')) := by
    simp only [Ob.lexAt, at3, beq_iff_eq, Nat.lt_irrefl, decide_false]
  have z2 : Ob.lexAt (at3 (a == a') (b == b') (c == c')) (at3 (decide (a < a')) (decide (b < b')) (decide (c < c'))) (decide ((#[Value.int a t1, .int b t2, .int c t3] : Array Value).size < (#[Value.int a' u1, .int b' u2, .int c' u3] : Array Value).size)) 0 (min (#[Value.int a t1, .int b t2, .int c t3] : Array Value).size (#[Value.int a' u1, .int b' u2, .int c' u3] : Array Value).size)
      = (if a = a' then (if b = b' then (if c = c' then false else decide (c < c')) else decide (b < b')) else decide (a < a')) := z
  rw [z2] at main
  exact main
theorem sort_lt_c {c d : Cnd} {x y : Addr} {Q : Bool → Shared → Prop} (X : IsC s.heap c x) (Y : IsC s.heap d y) (hu : A.units + 8 < cLine) (q : Q (clt c d) s) : wpAny (model P w) A (keyLt' (tuples' true) (.ref x) (.ref y)) Q E s := by
  obtain ⟨o, o2, n, n2, b2, t0, t1, t2, t3, e1, e2, e3, e4, e5, e6⟩ := X
  obtain ⟨p, p2, m, m2, y2, u0, u1, u2, u3, f1, f2, f3, f4, f5, f6⟩ := Y
  refine PySem.W.kat_lt e1 e3 f1 f3 ?_
  show PySem.W.KatLex P w A true (decide ((2 : Nat) < 2)) Q [(.int c.1 t0, .int d.1 u0), (.ref b2, .ref y2)] 0 s
  unfold clt at q
  refine PySem.W.kat_cons (wpAny_eqBool_int ?_)
  by_cases k : c.1 = d.1
  · rw [if_pos k] at q
    rw [show (c.1 == d.1) = true from beq_iff_eq.mpr k]
    refine PySem.W.kat_yes (PySem.W.kat_cons ?_)
    refine tri_eq ⟨o2, n2, e4, e5, e6⟩ ⟨p2, m2, f4, f5, f6⟩ hu ?_
    by_cases same : c.2.1 = d.2.1 ∧ c.2.2.1 = d.2.2.1 ∧ c.2.2.2 = d.2.2.2
    · rw [decide_eq_true same]
      refine PySem.W.kat_yes (PySem.W.kat_nil ?_)
      rw [if_pos same.1, if_pos same.2.1, same.2.2] at q
      simpa using q
    · rw [decide_eq_false same]
      refine PySem.W.kat_no ?_
      show wpAny (model P w) A (oneLt' false (.ref b2) (.ref y2)) Q _ s
      refine PySem.W.kat_one _ _ ?_
      refine tri_lt ⟨o2, n2, e4, e5, e6⟩ ⟨p2, m2, f4, f5, f6⟩ hu P w _ _ ?_
      show Q _ s
      have : (if c.2.1 = d.2.1 then (if c.2.2.1 = d.2.2.1 then (if c.2.2.2 = d.2.2.2 then false else decide (c.2.2.2 < d.2.2.2)) else decide (c.2.2.1 < d.2.2.1)) else decide (c.2.1 < d.2.1))
          = (if c.2.1 = d.2.1 then (if c.2.2.1 = d.2.2.1 then decide (c.2.2.2 < d.2.2.2) else decide (c.2.2.1 < d.2.2.1)) else decide (c.2.1 < d.2.1)) := by
        by_cases h3 : c.2.2.2 = d.2.2.2
        · rw [if_pos h3, h3]
          simp
        · rw [if_neg h3]
      rw [this]
      exact q
  · rw [if_neg k] at q
    rw [show (c.1 == d.1) = false from beq_eq_false_iff_ne.mpr k]
    exact PySem.W.kat_no (TS.oneLt_ints _ q)
open Classical in
/-- the condition that a value is -/
noncomputable def cOf (h : Heap) (v : Value) : Cnd := if e : ∃ c b, v = .ref b ∧ IsC h c b then e.choose else (0, 0, 0, 0)
theorem cOf_is {h : Heap} {c : Cnd} {b : Addr} (X : IsC h c b) : cOf h (.ref b) = c := by
  have e : ∃ d x, Value.ref b = .ref x ∧ IsC h d x := ⟨c, b, rfl, X⟩
  unfold cOf
  rw [dif_pos e]
  obtain ⟨x, ex, Y⟩ := e.choose_spec
  cases ex
  exact Y.one X
/-- what is sorted -/
def CndsOk (h : Heap) (vs : List Value) : Prop := ∀ v ∈ vs, ∃ c b, v = .ref b ∧ IsC h c b ∧ csm c
theorem katc : ∀ vs : List Value, CndsOk s.heap vs → ∃ fs, PySem.W.KatTups s.heap vs fs ∧ fs.length = vs.length ∧ ∀ f ∈ fs, ∃ n t, f = Value.int n t
  | [], _ => ⟨[], PySem.W.KatTups.nil, rfl, fun _ z => (nomatch z)⟩
  | v :: vs, h => by
    obtain ⟨fs, k, l, i⟩ := katc vs fun u hu => h u (List.mem_cons_of_mem _ hu)
    obtain ⟨c, b, rfl, ⟨o, o2, n, n2, b2, t0, t1, t2, t3, e1, e2, e3, e4, e5, e6⟩, _⟩ := h v List.mem_cons_self
    refine ⟨.int c.1 t0 :: fs, PySem.W.KatTups.cons e1 e2 e3 rfl k, by simp [l], fun f hf => ?_⟩
    rcases List.mem_cons.mp hf with rfl | hf
    · exact ⟨_, _, rfl⟩
    · exact i f hf
theorem kind_c {vs : List Value} (h2 : 2 ≤ vs.length) (ok : CndsOk s.heap vs) (hu : A.units + 8 < cLine) (Q : SortKind → Shared → Prop) (q : ∀ κ, TS.Cmp P w A s κ (pairsOf vs) (fun v => crk (cOf s.heap v)) → Q κ s) : wpAny (model P w) A (keyKind' vs.toArray) Q E s := by
  obtain ⟨fs, k, l, i⟩ := katc vs ok
  refine PySem.W.kat_kind (T := Value.type "int") k (by omega) (fun f hf => ?_) rfl (q _ ?_)
  · obtain ⟨n, t, rfl⟩ := i f hf
    exact PySem.W.Looks.of_pure rfl
  · intro u v hu' hv' Q' E' q'
    rw [pairsOf_toList] at hu' hv'
    obtain ⟨c, x, ex, X, sc⟩ := ok _ (mem_zip_self hu').2
    obtain ⟨d, y, ey, Y, sd⟩ := ok _ (mem_zip_self hv').2
    rw [ex, ey] at q'
    have q' : Q' (decide (crk (cOf s.heap (.ref x)) < crk (cOf s.heap (.ref y)))) s := q'
    rw [cOf_is X, cOf_is Y, ← clt_rk sc sd] at q'
    rw [ex, ey]
    exact sort_lt_c X Y hu q'
/-- list.sort of conditions -/
theorem list_sort_c {a : Addr} {vs : List Value} {n : Nat} {R : PySem.Fin → Shared → Prop} (g : s.heap.get? a = some (seqObj "list" vs.toArray n)) (few : vs.length < 64) (ok : CndsOk s.heap vs) (hu : A.units + 8 < cLine)
    (q : ∀ out : Array Value, out.toList.Perm vs → out.toList.Pairwise (fun u v => crk (cOf s.heap u) ≤ crk (cOf s.heap v)) → R (.done (.ret .none)) { s with heap := sortedHeap s.heap a vs out }) : wpAny (model P w) A (Builtin.«list.sort» ⟨[.ref a], []⟩) R E s := by
  have old : ∀ y o ws m, s.heap.get? y = some o → o.cls = .type "tuple" → o.data = .seq ws m → (TS.midHeap s.heap a vs).get? y = some o := fun y o ws m e ec _ => by
    refine TS.midHeap_old ?_ e
    rintro rfl
    rw [g] at e
    cases e
    exact absurd (show Value.type "list" = Value.type "tuple" from ec) (by intro z; injection z with z; exact absurd z (by decide))
  have mid : ∀ {c : Cnd} {b : Addr}, IsC s.heap c b → IsC (TS.midHeap s.heap a vs) c b := fun X => by
    obtain ⟨o, o2, n, n2, b2, t0, t1, t2, t3, e1, e2, e3, e4, e5, e6⟩ := X
    exact ⟨o, o2, n, n2, b2, t0, t1, t2, t3, old _ _ _ _ e1 e2 e3, e2, e3, old _ _ _ _ e4 e5 e6, e5, e6⟩
  have ok2 : CndsOk (TS.midHeap s.heap a vs) vs := fun v hv => by
    obtain ⟨c, b, e, X, sc⟩ := ok v hv
    exact ⟨c, b, e, mid X, sc⟩
  refine SK.plain_sort (r := fun v => crk (cOf s.heap v)) g few (fun h2 Q hQ => kind_c (s := { s with heap := TS.midHeap s.heap a vs }) h2 ok2 hu Q fun κ cmp => hQ κ ?_) fun ps out h1 h2 h3 => ?_
  · intro u v hu' hv' Q' E' q'
    refine cmp u v hu' hv' Q' E' ?_
    rw [pairsOf_toList] at hu' hv'
    obtain ⟨c, x, ex, X, _⟩ := ok _ (mem_zip_self hu').2
    obtain ⟨d, y, ey, Y, _⟩ := ok _ (mem_zip_self hv').2
    rw [ex, ey] at q'
    have q' : Q' (decide (crk (cOf s.heap (.ref x)) < crk (cOf s.heap (.ref y)))) { s with heap := TS.midHeap s.heap a vs } := q'
    rw [cOf_is X, cOf_is Y] at q'
    rw [ex, ey]
    show Q' (decide (crk (cOf (TS.midHeap s.heap a vs) (.ref x)) < crk (cOf (TS.midHeap s.heap a vs) (.ref y)))) _
    rw [cOf_is (mid X), cOf_is (mid Y)]
    exact q'
  · obtain ⟨z1, z2⟩ := TS.out_rank (r := fun v => crk (cOf s.heap v)) h1 h2 h3
    exact q out z1 z2
theorem call_sort_c {a : Addr} {vs : List Value} {n : Nat} {Q : Value → Shared → Prop} (g : s.heap.get? a = some (seqObj "list" vs.toArray n)) (few : vs.length < 64) (ok : CndsOk s.heap vs) (hu : A.units + 12 < cLine)
    (q : ∀ out : Array Value, out.toList.Perm vs → out.toList.Pairwise (fun u v => crk (cOf s.heap u) ≤ crk (cOf s.heap v)) → Q .none { s with heap := sortedHeap s.heap a vs out }) : wpAny (model P w) A (call (.builtin "list.sort") [.ref a]) Q E s :=
  wpAny_call_entry slot_list_sort ⟨_, g, rfl⟩ entry_list_sort (list_sort_c g few ok (by show A.units + 1 + 8 < cLine; omega) fun out z1 z2 => ⟨_, rfl, q out z1 z2⟩) (args_list_sort _)
end
end PD

/-! PDSetE: set(xs) of conditions; sorted(set). -/
namespace PD
open PySem PySem.Spec PySem.Calls PyProof.Rows L2
section
variable {hs : Cnd → Int} {P : Program} {w : World} {A : Around} {E : Value → Shared → Prop} {s : Shared} {a : Addr} {L : List (Addr × Cnd)} {es : Array (Int × Value)} {ep : Nat} {t : SetTable}
set_option maxHeartbeats 8000000 in
theorem call_set_c (HO : HashOk P w hs) {l : Addr} {items : Array Value} (ks : List (Addr × Cnd)) {Q : Value → Shared → Prop} (hh : A.handled = none) (hl : s.heap.IsList l items) (vals : items.toList = ks.map fun p => Value.ref p.1) (all : ∀ p ∈ ks, IsC s.heap p.2 p.1)
    (few : ks.length < 64) (hu : A.units + 20 < cLine)
    (q : ∀ (h' : Heap) (tk : Nat) L es ep t, CSet hs w h' s.heap.objs.size L es ep t → Sofar ks ks.length L → (∀ b o, s.heap.get? b = some o → h'.get? b = some o) → Q (.ref s.heap.objs.size) { s with heap := h', toks := tk }) :
    wpAny (model P w) A (call (.type "set") [.ref l]) Q E s := by
  have len : items.size = ks.length := by
    have := congrArg List.length vals
    rwa [Array.length_toList, List.length_map] at this
  obtain ⟨mro1, mro2, mro3⟩ := F.called_set.mro
  have made := F.called_set.made
  have subs := F.called_set.sub
  refine wpAny_call (codeAny_of_tree ?_)
  show wpAny _ _ (callAny (.type "set") _) _ _ _
  refine wpAny_pure ⟨Code.quiet_builtin _ (by decide +kernel), codeAny_builtin F.entry_type_call ?_⟩
  rw [Around.under_plain (weight_type_call_type "set" [.ref l] []) rfl]
  have c1 := F.called_set.notType
  have c2 := F.called_set.canCreate
  have c3 := F.typeCall_set_1 (.ref l)
  repeat (any_goals (first | assumption | wp_step))
  refine codeAny_mono (code_set_led1 (.ref l) (E := E) (Q₁ := fun v s1 => v = .ref s.heap.objs.size ∧ s1 = { s with heap := s.heap.push (newSet w) }) ⟨rfl, rfl⟩) fun r s1 hr => ?_
  cases r with
  | error e => exact hr
  | ok fl =>
    cases fl with
    | ret v =>
      obtain ⟨rfl, rfl⟩ := hr
      have gS : (s.heap.push (newSet w)).get? s.heap.objs.size = some (newSet w) := Heap.get?_push_size _ rfl
      have tS : Shared.TypeIs { s with heap := s.heap.push (newSet w) } (.ref s.heap.objs.size) "set" := ⟨_, gS, rfl⟩
      have i1 := F.called_set.init.lookup
      have i2 := F.called_set.init.bind (.ref s.heap.objs.size)
      repeat (any_goals (first | assumption | wp_step))
      refine codeAny_mono (codeAny_call_builtin (R := wants (fun r s2 => r = .none ∧ ∃ h' tk L es ep t, s2 = { s with heap := h', toks := tk } ∧ CSet hs w h' s.heap.objs.size L es ep t ∧ Sofar ks ks.length L ∧ (∀ b o, s.heap.get? b = some o → h'.get? b = some o)) E)
        F.called_set.init.plain F.entry_set_init (check_set_init_1 tS ?_)) fun r2 s2 hr2 => ?_
      · obtain ⟨ol, gl, cl, nl, dl⟩ := hl
        obtain ⟨k1, k2, k3, k4⟩ := ol
        simp only at cl dl
        subst cl; subst dl
        have gl1 : (s.heap.push (newSet w)).get? l = some { cls := .type "list", dict := k2, data := .seq items nl, slots := k4 } := Heap.get?_push_of_some _ gl
        have n1 := F.sub_list_set
        have n2 := F.sub_list_frozenset
        have n3 : (Value.type "list" == Value.type "dict") = false := by decide
        have il : (s.heap.push (newSet w)).IsList l items := ⟨_, gl1, rfl, nl, rfl⟩
        unfold Builtin.«set.__init__» noKeywords Builtin.Frozenset.updateFrom
        generalize hIt : pyIter = It
        wp_walk
        subst hIt
        refine wpAny_pyIter_list il ?_
        refine wpAny_bind (wpAny_runValue ?_)
        have lS : l < s.heap.objs.size := Heap.lt_size gl
        have hh3 : A.in1.in1.in1.handled = none := by simp [hh]
        have sz1 : (s.heap.push (newSet w)).objs.size = s.heap.objs.size + 1 := Heap.size_push ..
        have neI : l ≠ (s.heap.push (newSet w)).objs.size := by rw [sz1]; exact Nat.ne_of_lt (Nat.lt_succ_of_lt lS)
        have fresh : ∀ b, s.heap.objs.size ≤ b → s.heap.get? b = none := fun b hb => by
          cases z : s.heap.get? b with
          | none => rfl
          | some o => exact absurd (Nat.lt_of_lt_of_le (Heap.lt_size z) hb) (Nat.lt_irrefl _)
        refine update_c HO ((Walks.list hh3 _ l neI items).toS) s.heap.objs.size (by
            rw [sz1]
            simp only [List.mem_cons, List.not_mem_nil, or_false, not_or]
            exact ⟨Nat.ne_of_lt (Nat.lt_succ_self _), Nat.ne_of_gt lS⟩) ks len few (fun i v hv => by
            have : items.toList[i]? = some v := by rw [Array.getElem?_toList]; exact hv
            rw [vals, List.getElem?_map] at this
            cases e : ks[i]? with
            | none => rw [e] at this; cases this
            | some p => rw [e] at this; exact ⟨p, rfl, (Option.some.inj this).symm⟩) s.heap all (fresh _ (Nat.le_refl _)) (fun b hb => fresh b (by
            rw [List.mem_singleton.mp hb, sz1]
            exact Nat.le_succ _)) (by show A.units + 1 + 1 + 1 + 8 < cLine; omega) (items.size - 0) 0 _ (by omega) (Nat.zero_le _)
          ⟨⟨_, Heap.get?_push_size _ rfl, rfl, rfl⟩, (il.push _)⟩ (fun b o e => Heap.get?_push_of_some _ (Heap.get?_push_of_some _ e)) ?start ?fin
        case start =>
          have gS2 : ((s.heap.push (newSet w)).push { cls := .type "list_iterator", data := .fields #[.ref l, .int 0 0] }).get? s.heap.objs.size = some (newSet w) := Heap.get?_push_of_some _ gS
          exact ⟨[], #[], 0, _, CSet.new gS2, ⟨fun _ z => (nomatch z), fun _ z => (by simp at z), Nat.le_refl _⟩⟩
        case fin =>
          intro s' L es ep t mv C G0 k
          obtain ⟨h', gn, dr, tk, os⟩ := s'
          obtain rfl : gn = s.gens := mv.gens
          obtain rfl : dr = s.drawn := mv.drawn
          obtain rfl : os = s.os := mv.os
          show wpAny _ _ _ _ _ _
          refine wpAny_pure ?_
          show wpAny _ _ (ret Value.none) _ _ _
          rw [len] at G0
          exact wpAny_pure ⟨rfl, h', tk, L, es, ep, t, rfl, C, G0, k⟩
      · cases r2 with
        | error e => exact hr2
        | ok fl2 =>
          cases fl2 with
          | ret r =>
            obtain ⟨rfl, h', tk, L, es, ep, t, rfl, C, G0, k⟩ := hr2
            repeat (any_goals (first | assumption | wp_step))
            exact q _ _ _ _ _ _ C G0 k
          | _ => exact hr2.elim
    | _ => exact hr.elim
theorem nodup_of {α β : Type} {f : α → β} {l : List α} (h : (l.map f).Nodup) : l.Nodup := List.Pairwise.of_map f (fun _ _ ne e => ne (congrArg f e)) h
/-- sorted(a set of conditions) -/
theorem call_sorted_c (R : CSet hs w s.heap a L es ep t) (hh : A.handled = none) (hu : A.units + 20 < cLine) (sm : ∀ p ∈ L, csm p.2) {Q : Value → Shared → Prop}
    (q : ∀ s' p (out : Array Value) (c : Nat) (L' : List (Addr × Cnd)), (∀ b o, s.heap.get? b = some o → s'.heap.get? b = some o) → s'.gens = s.gens → s'.os = s.os → s.heap.objs.size ≤ p → s'.heap.get? p = some (seqObj "list" out c) →
      out.toList = L'.map (fun y => Value.ref y.1) → L'.Perm L → L'.Pairwise (fun x y => crk x.2 ≤ crk y.2) → Q (.ref p) s') : wpAny (model P w) A (call (.builtin "sorted") [.ref a]) Q E s := by
  obtain ⟨o, g, gx, gd⟩ := R.obj
  have few := R.few
  refine Calls.call_function_entry kind_sorted plain_sorted entry_sorted (args_sorted1 _) ?_
  unfold Builtin.«sorted»
  refine wpAny_bind (m := checkCount "sorted" 1 1 _) (wpAny_pure ?_)
  refine wpAny_bind (collect_set (A := A.in1) hh ⟨o, g, gx.1, gd⟩ R.fit (by rw [crow_len R.row]; unfold scanBound; omega) R.tb.ris R.seen fun s1 vs k1 z1 g1 o1 pm => ?_)
  have vals : es.toList.map (·.2) = L.map fun y => Value.ref y.1 := by
    rw [R.row]
    unfold crow
    rw [List.map_map]
    rfl
  rw [vals] at pm
  have single : ∀ x ∈ L, ∀ y ∈ L, x.1 = y.1 → x = y := fun x hx y hy e => by
    have m1 := R.mem x hx
    have m2 := R.mem y hy
    rw [e] at m1
    exact Prod.ext e (m1.one m2)
  have nL : L.Nodup := nodup_of R.dif
  have lift : ∀ us : List Value, us.Perm (L.map fun y => Value.ref y.1) → ∃ L' : List (Addr × Cnd), us = L'.map (fun y => Value.ref y.1) ∧ L'.Perm L := fun us hp => by
    have each : ∀ us : List Value, (∀ v ∈ us, ∃ y ∈ L, v = Value.ref y.1) → ∃ L' : List (Addr × Cnd), us = L'.map (fun y => Value.ref y.1) ∧ ∀ y ∈ L', y ∈ L := fun us => by
      induction us with
      | nil => exact fun _ => ⟨[], rfl, fun _ z => (nomatch z)⟩
      | cons v us ih =>
        intro h
        obtain ⟨y, hy, rfl⟩ := h v List.mem_cons_self
        obtain ⟨L1, rfl, h1⟩ := ih fun u hu => h u (List.mem_cons_of_mem _ hu)
        refine ⟨y :: L1, rfl, fun x hx => ?_⟩
        rcases List.mem_cons.mp hx with rfl | hx
        · exact hy
        · exact h1 x hx
    obtain ⟨L', rfl, hL'⟩ := each us fun v hv => by
      obtain ⟨y, hy, e⟩ := List.mem_map.mp (hp.mem_iff.mp hv)
      exact ⟨y, hy, e.symm⟩
    refine ⟨L', rfl, ?_⟩
    have nref : (L.map fun y => Value.ref y.1).Nodup := List.pairwise_map.mpr (List.Pairwise.imp_of_mem (fun {x y} hx hy ne e => ne (single x hx y hy (by injection e))) nL)
    have n1 : L'.Nodup := nodup_of (hp.nodup_iff.mpr nref)
    refine (List.perm_ext_iff_of_nodup n1 nL).mpr fun y => ⟨hL' y, fun hy => ?_⟩
    obtain ⟨x, hx, e⟩ := List.mem_map.mp (hp.mem_iff.mpr (List.mem_map.mpr ⟨y, hy, rfl⟩))
    injection e with e
    rw [← single x (hL' x hx) y hy e]
    exact hx
  have fewv : vs.length < 64 := by rw [pm.length_eq, List.length_map]; exact few
  refine wpAny_bind (wpAny_newList ?_ (by rw [sizeLine_eq]; omega))
  have gl : (s1.heap.push (seqObj "list" vs.toArray 0)).get? s1.heap.objs.size = some (seqObj "list" vs.toArray 0) := Heap.get?_push_size _ rfl
  have keep : ∀ y ∈ L, IsC (s1.heap.push (seqObj "list" vs.toArray 0)) y.2 y.1 := fun y hy => (R.mem y hy).keep fun b u e => Heap.get?_push_of_some _ (k1 b u e)
  have ok : CndsOk (s1.heap.push (seqObj "list" vs.toArray 0)) vs := fun v hv => by
    obtain ⟨y, hy, rfl⟩ := List.mem_map.mp (pm.mem_iff.mp hv)
    exact ⟨y.2, y.1, rfl, keep y hy, sm y hy⟩
  refine wpAny_bind (wpAny_holding (call_sort_c (s := { s1 with heap := s1.heap.push (seqObj "list" vs.toArray 0) }) gl fewv ok (by show A.units + 1 + 12 < cLine; omega) fun out b1 b2 => ?_))
  obtain ⟨c, hc⟩ := sortedHeap_at (vs := vs) (out := out) gl
  obtain ⟨L', e', pL⟩ := lift out.toList (b1.trans pm)
  have pw : L'.Pairwise (fun x y => crk x.2 ≤ crk y.2) := by
    rw [e'] at b2
    refine List.Pairwise.imp_of_mem (fun {x y} hx hy hle => ?_) (List.pairwise_map.mp b2)
    have hle : crk (cOf (s1.heap.push (seqObj "list" vs.toArray 0)) (.ref x.1)) ≤ crk (cOf (s1.heap.push (seqObj "list" vs.toArray 0)) (.ref y.1)) := hle
    rw [cOf_is (keep x (pL.mem_iff.mp hx)), cOf_is (keep y (pL.mem_iff.mp hy))] at hle
    exact hle
  refine wpAny_pure ⟨_, rfl, q _ s1.heap.objs.size out c L' (fun b u e => ?_) g1 o1 z1 hc e' pL pw⟩
  have e1 := k1 b u e
  have lt := Heap.lt_size e1
  show (sortedHeap (s1.heap.push (seqObj "list" vs.toArray 0)) s1.heap.objs.size vs out).get? b = some u
  rw [sortedHeap_old (Nat.ne_of_lt lt) (by rw [size_push']; exact Nat.lt_succ_of_lt lt)]
  exact Heap.get?_push_of_some _ e1
end
end PD

/-! PDSetF: sorted(set(xs)) of conditions, as an expression. -/
namespace PD
open PySem PySem.Spec PySem.Calls PyProof.Rows L2
/-! ### the sorted members -/
def insC (c : Cnd) : List Cnd → List Cnd
  | [] => [c]
  | d :: ds => if crk c < crk d then c :: d :: ds else if c = d then d :: ds else d :: insC c ds
def ssC : List Cnd → List Cnd
  | [] => []
  | c :: cs => insC c (ssC cs)
theorem insC_mem {c x : Cnd} : ∀ {l : List Cnd}, x ∈ insC c l ↔ x = c ∨ x ∈ l
  | [] => by simp [insC]
  | d :: ds => by
    unfold insC
    split
    · simp
    · split
      · rename_i h
        subst h
        simp
      · simp only [List.mem_cons, insC_mem (l := ds)]
        constructor
        · rintro (h | h | h) <;> simp [h]
        · rintro (h | h | h) <;> simp [h]
theorem ssC_mem {x : Cnd} : ∀ {cs : List Cnd}, x ∈ ssC cs ↔ x ∈ cs
  | [] => by simp [ssC]
  | c :: cs => by
    show x ∈ insC c (ssC cs) ↔ _
    rw [insC_mem, ssC_mem (cs := cs), List.mem_cons]
theorem insC_up {c : Cnd} (hc : csm c) : ∀ {l : List Cnd}, (∀ x ∈ l, csm x) → l.Pairwise (fun x y => crk x < crk y) → (insC c l).Pairwise (fun x y => crk x < crk y)
  | [], _, _ => List.pairwise_singleton ..
  | d :: ds, hl, h => by
    obtain ⟨h1, h2⟩ := List.pairwise_cons.mp h
    unfold insC
    split
    · rename_i lt
      refine List.pairwise_cons.mpr ⟨fun x hx => ?_, h⟩
      rcases List.mem_cons.mp hx with rfl | hx
      · exact lt
      · exact Int.lt_trans lt (h1 x hx)
    · split
      · exact h
      · rename_i nl ne
        have hd := hl d List.mem_cons_self
        have lt : crk d < crk c := by
          have : crk c ≠ crk d := fun e => ne (crk_inj hc hd e)
          omega
        refine List.pairwise_cons.mpr ⟨fun x hx => ?_, insC_up hc (fun x hx => hl x (List.mem_cons_of_mem _ hx)) h2⟩
        rcases insC_mem.mp hx with rfl | hx
        · exact lt
        · exact h1 x hx
theorem ssC_up : ∀ {cs : List Cnd}, (∀ x ∈ cs, csm x) → (ssC cs).Pairwise (fun x y => crk x < crk y)
  | [], _ => List.Pairwise.nil
  | c :: cs, h => insC_up (h c List.mem_cons_self) (fun x hx => h x (List.mem_cons_of_mem _ (ssC_mem.mp hx))) (ssC_up fun x hx => h x (List.mem_cons_of_mem _ hx))
theorem up_unique : ∀ {l m : List Cnd}, l.Pairwise (fun x y => crk x < crk y) → m.Pairwise (fun x y => crk x < crk y) → (∀ x, x ∈ l ↔ x ∈ m) → l = m
  | [], [], _, _, _ => rfl
  | [], y :: m, _, _, h => absurd ((h y).mpr List.mem_cons_self) (List.not_mem_nil)
  | x :: l, [], _, _, h => absurd ((h x).mp List.mem_cons_self) (List.not_mem_nil)
  | x :: l, y :: m, hl, hm, h => by
    obtain ⟨l1, l2⟩ := List.pairwise_cons.mp hl
    obtain ⟨m1, m2⟩ := List.pairwise_cons.mp hm
    have e : x = y := by
      rcases List.mem_cons.mp ((h x).mp List.mem_cons_self) with e | e
      · exact e
      · rcases List.mem_cons.mp ((h y).mpr List.mem_cons_self) with e2 | e2
        · exact e2.symm
        · have := m1 x e
          have := l1 y e2
          omega
    subst e
    rw [up_unique l2 m2 fun z => ?_]
    constructor
    · intro hz
      rcases List.mem_cons.mp ((h z).mp (List.mem_cons_of_mem _ hz)) with rfl | e
      · exact absurd (l1 z hz) (by omega)
      · exact e
    · intro hz
      rcases List.mem_cons.mp ((h z).mpr (List.mem_cons_of_mem _ hz)) with rfl | e
      · exact absurd (m1 z hz) (by omega)
      · exact e
def cnd? : PyData → Option Cnd
  | .tuple [.int k, .tuple [.int a, .int b, .int c]] => some (k, a, b, c)
  | _ => none
theorem cnd?_eq {d : PyData} {c : Cnd} (h : cnd? d = some c) : d = cndD c := by
  unfold cnd? at h
  split at h
  · cases h
    rfl
  · cases h
def cnds? : List PyData → Option (List Cnd)
  | [] => some []
  | d :: ds => match cnd? d, cnds? ds with
    | some c, some cs => some (c :: cs)
    | _, _ => none
theorem cnds?_eq : ∀ {ds : List PyData} {cs : List Cnd}, cnds? ds = some cs → ds = cs.map cndD
  | [], cs, h => by cases h; rfl
  | d :: ds, cs, h => by
    unfold cnds? at h
    split at h
    · rename_i c cs' h1 h2
      cases h
      rw [cnd?_eq h1, cnds?_eq h2]
      rfl
    · cases h
theorem cnds?_map : ∀ cs : List Cnd, cnds? (cs.map cndD) = some cs
  | [] => rfl
  | c :: cs => by
    show (match cnd? (cndD c), cnds? (cs.map cndD) with | some c, some cs => some (c :: cs) | _, _ => none) = _
    rw [cnds?_map cs]
    rfl
/-- sorted(set(xs)) -/
def gSSet : PyData → Option Rs
  | .list ds => match cnds? ds with
    | some cs => if cs.length < 64 ∧ ∀ c ∈ cs, csm c then some (.n ((ssC cs).map cndD)) else none
    | none => none
  | _ => none
theorem gSSet_ok {cs : List Cnd} (h : cs.length < 64) (h2 : ∀ c ∈ cs, csm c) : gSSet (.list (cs.map cndD)) = some (.n ((ssC cs).map cndD)) := by
  show (match cnds? (cs.map cndD) with | some cs => if cs.length < 64 ∧ ∀ c ∈ cs, csm c then some (Rs.n ((ssC cs).map cndD)) else none | none => none) = _
  rw [cnds?_map]
  exact if_pos ⟨h, h2⟩
/-! ### the rules -/
/-- the set at a, without its members -/
def CSet0 (hs : Cnd → Int) (w : World) (h : Heap) (a : Addr) (L : List (Addr × Cnd)) : Prop := ∃ (es : Array (Int × Value)) (ep : Nat) (t : SetTable), (∃ o, h.get? a = some o ∧ o.ExactSet ∧ o.data = .set es ep t) ∧ es.toList = crow hs L ∧ TabOk t (L.map fun p => hs p.2) ∧ (L.map (·.2)).Nodup ∧
  t.plain = true ∧ (w.params.followText "set-order" = true ∨ t.led = true) ∧ L.length * 5 < t.mask * 3 ∧ L.length < 64
def CSetO (hs : Cnd → Int) (w : World) (a : Addr) (L : List (Addr × Cnd)) : HO := .ext fun h => CSet0 hs w h a L
theorem CSet.bare {hs : Cnd → Int} {w : World} {h : Heap} {a : Addr} {L : List (Addr × Cnd)} {es : Array (Int × Value)} {ep : Nat} {t : SetTable} (R : CSet hs w h a L es ep t) : CSet0 hs w h a L := ⟨es, ep, t, R.obj, R.row, R.tb, R.dif, R.pln, R.seen, R.free, R.few⟩
theorem cset_new {hs : Cnd → Int} {P : Program} {w : World} {H : Hp} {h : Heap} {a : Addr} {L : List (Addr × Cnd)} (R : CSet0 hs w h a L) : ObjOk P w H h a (CSetO hs w a L) := by
  have ⟨es, ep, t, ⟨o, g, r⟩, q⟩ := R
  refine ⟨R, ⟨o, g⟩, fun h1 h2 p k => ?_⟩
  have ⟨es', ep', t', ⟨o', g', r'⟩, q'⟩ := (show CSet0 hs w h1 a L from p)
  exact ⟨es', ep', t', ⟨o', k o' g', r'⟩, q'⟩
theorem isC_reads {h : Heap} {v : Value} {c : Cnd} {as : List Addr} (r : Reads h v (cndD c) as) : ∃ b, v = .ref b ∧ IsC h c b := by
  unfold cndD at r
  cases r with
  | tuple e1 e2 e3 r =>
    rename_i b o vs n
    obtain ⟨vs⟩ := vs
    simp only at r
    cases r with
    | cons r1 r =>
      cases r with
      | cons r2 r =>
        cases r
        cases r1
        cases r2 with
        | tuple f1 f2 f3 q =>
          rename_i b2 o2 vs2 n2
          obtain ⟨vs2⟩ := vs2
          simp only at q
          cases q with
          | cons q1 q =>
            cases q with
            | cons q2 q =>
              cases q with
              | cons q3 q =>
                cases q
                cases q1
                cases q2
                cases q3
                exact ⟨_, rfl, _, _, _, _, _, _, _, _, _, e1, e2, e3, f1, f2, f3⟩
theorem dv_ref {K : PySem.W.Frag} {F : Hp} {x : V} {c : Cnd} (h : DV K F x (cndD c)) : ∃ b, x = .ref b := by
  unfold cndD at h
  cases h
  exact ⟨_, rfl⟩
theorem dvs_cnds {K : PySem.W.Frag} {F : Hp} : ∀ {vs : List V} {cs : List Cnd}, DVs K F vs (cs.map cndD) → ∃ ps : List (Addr × Cnd), vs = ps.map (fun p => V.ref p.1) ∧ ps.map (·.2) = cs ∧ ∀ p ∈ ps, DV K F (.ref p.1) (cndD p.2)
  | _, [], h => by cases h; exact ⟨[], rfl, rfl, fun _ z => (nomatch z)⟩
  | _, c :: cs, h => by
    cases h with
    | cons h1 h2 =>
      obtain ⟨ps, rfl, rfl, h3⟩ := dvs_cnds h2
      obtain ⟨b, rfl⟩ := dv_ref h1
      refine ⟨(b, c) :: ps, rfl, rfl, fun p hp => ?_⟩
      rcases List.mem_cons.mp hp with rfl | hp
      · exact h1
      · exact h3 p hp
theorem dvs_of {K : PySem.W.Frag} {F : Hp} : ∀ {ps : List (Addr × Cnd)}, (∀ p ∈ ps, DV K F (.ref p.1) (cndD p.2)) → DVs K F (ps.map fun p => V.ref p.1) ((ps.map (·.2)).map cndD)
  | [], _ => .nil
  | p :: ps, h => .cons (h p List.mem_cons_self) (dvs_of fun q hq => h q (List.mem_cons_of_mem _ hq))
theorem refs_v : ∀ {ps : List (Addr × Cnd)} {us : List Value}, Vals (ps.map fun p => V.ref p.1) us → us = ps.map fun p => Value.ref p.1
  | [], _, .nil => rfl
  | p :: ps, _, .cons r t => by
    cases r
    rw [refs_v t]
    rfl
theorem v_refs : ∀ (ps : List (Addr × Cnd)), Vals (ps.map fun p => V.ref p.1) (ps.map fun p => Value.ref p.1)
  | [] => .nil
  | p :: ps => .cons rfl (v_refs ps)
abbrev hK (w : World) : Cnd → Int := fun c => (cndK c).hash w
section
variable {X : Cx}
theorem isC_dv {pins : List (Addr × Obj)} {σ : L2.St} {H F : Hp} {s : Shared} {b : Addr} {c : Cnd} (I : Inv X pins σ H s) (e : Same F H) (h : DV X.K F (.ref b) (cndD c)) : IsC s.heap c b := by
  obtain ⟨as, r⟩ := DV.reads I (h.mono e) (rfl : RelV (.ref b) (.ref b))
  obtain ⟨b', e', x⟩ := isC_reads r
  cases e'
  exact x
def rSetC (K : PySem.W.Frag) (w : World) : List V → Hp → VK → Prop := fun xs H Q => ∃ (F : Hp) (l : Addr) (ps : List (Addr × Cnd)), xs = [V.ref l] ∧ Same F H ∧ SqL K H l (ps.map fun p => V.ref p.1) ∧ (∀ p ∈ ps, DV K F (.ref p.1) (cndD p.2)) ∧ ps.length < 64 ∧
  ∀ a L, H a = none → (∀ p ∈ L, p ∈ ps) → (∀ p ∈ ps, p.2 ∈ L.map (·.2)) → Q (.ref a) (upd H a (CSetO (hK w) w a L))
theorem c_setC (hc : X.calm = true) (hu : X.A.units + 64 < cLine) : CallR X (.type "set") (rSetC X.K X.w) := by
  intro pins s σ H xs us Q I r h
  obtain ⟨F, l, ps, rfl, e, hl, hp, few, q⟩ := h
  rw [Vals.ref1 r]
  obtain ⟨its, rv, pl, _⟩ := I.list hl
  have hn : H s.heap.objs.size = none := I.hok.fresh (Nat.le_refl _)
  refine call_set_c (hash_ok X.prog X.w) ps (I.ok.hd hc) pl.isList (by simpa using refs_v rv) (fun p m => isC_dv I e (hp p m)) few (by omega) fun h' tk L es ep t C G k => ?_
  exact ⟨.ref s.heap.objs.size, upd H s.heap.objs.size (CSetO (hK X.w) X.w s.heap.objs.size L), I.laid (t' := tk) k (Nat.le_refl _) (cset_new C.bare), rfl, q _ L hn (fun p m => List.mem_of_mem_take (G.out p m)) fun p m => G.inn p (by rw [List.take_length]; exact m)⟩
def rSortedC (K : PySem.W.Frag) (w : World) : List V → Hp → VK → Prop := fun xs H Q => ∃ (F : Hp) (a : Addr) (L : List (Addr × Cnd)), xs = [V.ref a] ∧ Same F H ∧ H a = some (CSetO (hK w) w a L) ∧ (∀ p ∈ L, DV K F (.ref p.1) (cndD p.2) ∧ csm p.2) ∧
  ∀ (L' : List (Addr × Cnd)) (p : Addr), L'.Perm L → (L'.map (·.2)).Pairwise (fun x y => crk x < crk y) → H p = none → Q (.ref p) (upd H p (.lst (L'.map fun y => V.ref y.1)))
theorem c_sortedC (hc : X.calm = true) (hu : X.A.units + 64 < cLine) : CallR X (.builtin "sorted") (rSortedC X.K X.w) := by
  intro pins s σ H xs us Q I r h
  obtain ⟨F, a, L, rfl, e, ha, hL, q⟩ := h
  have R0 : CSet0 (hK X.w) X.w s.heap a L := (I.hok a _ ha).1
  obtain ⟨es, ep, t, u1, u2, u3, u4, u5, u6, u7, u8⟩ := R0
  have C : CSet (hK X.w) X.w s.heap a L es ep t := ⟨u1, u2, u3, u4, fun p m => isC_dv I e (hL p m).1, u5, u6, u7, u8⟩
  rw [Vals.ref1 r]
  refine call_sorted_c (P := X.prog) C (I.ok.hd hc) (by omega) (fun p m => (hL p m).2) fun s' p out c L' k g o z gp eo pm pw => ?_
  have up : (L'.map (·.2)).Pairwise (fun x y => crk x < crk y) := by
    have nd : (L'.map (·.2)).Nodup := (pm.map (·.2)).nodup_iff.mpr u4
    have le : (L'.map (·.2)).Pairwise (fun x y => crk x ≤ crk y) := List.pairwise_map.mpr pw
    refine List.Pairwise.imp_of_mem (fun {x y} hx hy h => ?_) (List.Pairwise.and nd le)
    obtain ⟨x', hx', rfl⟩ := List.mem_map.mp hx
    obtain ⟨y', hy', rfl⟩ := List.mem_map.mp hy
    have ne : crk x'.2 ≠ crk y'.2 := fun e => h.1 (crk_inj (hL x' (pm.mem_iff.mp hx')).2 (hL y' (pm.mem_iff.mp hy')).2 e)
    have := h.2
    omega
  have len : (L'.map fun y => V.ref y.1).length ≤ sizeLine := by rw [List.length_map, sizeLine_eq, pm.length_eq]; omega
  have hn : H p = none := I.hok.fresh z
  have J : Inv X pins σ (upd H p (.lst (L'.map fun y => V.ref y.1))) { s with heap := s'.heap, gens := s'.gens, drawn := s'.drawn, toks := s'.toks } :=
    I.call (ch := []) (Un.laid k z hn) (I.hok.laid k z ⟨len, out.toList, c, by rw [eo]; exact v_refs L', gp⟩) (by rw [g]; exact I.bare) (fun _ z => nomatch z)
  have es' : s' = { s with heap := s'.heap, gens := s'.gens, drawn := s'.drawn, toks := s'.toks } := by
    cases s'
    cases s
    cases o
    rfl
  rw [es']
  exact ⟨.ref p, _, J, rfl, q L' p pm up hn⟩
theorem j_sset {W : WX} {a : Expr} {f : PEn → Out Val} {p p2 q pos : Pos} (n1 : Bn X "sorted") (n2 : Bn X "set") (hc : X.calm = true) (hu : X.A.units + 64 < cLine) (ha : JE X W a f)
    (hs : starEach [a] X.env = (false, eval a X.env) :: starEach [] X.env := by rfl) (hs2 : starEach [.Call (.Name "set" p2) [a] [] q] X.env = (false, eval (.Call (.Name "set" p2) [a] [] q) X.env) :: starEach [] X.env := by rfl) :
    JE X W (.Call (.Name "sorted" p) [.Call (.Name "set" p2) [a] [] q] [] pos) (eOp1 gSSet f) := by
  have inner := pe_callTy (pos := q) (p := p2) (c_setC hc hu) n2.gl n2.no rfl (pa_cons ha pa_nil hs) (he := hs)
  have outer := pe_callB (pos := pos) (p := p) (c_sortedC hc hu) n1.gl n1.no rfl (pa_cons inner pa_nil hs2) (he := hs2)
  refine pe_mono outer fun σ H Q h => ?_
  obtain ⟨F, r, R, q0⟩ := h
  refine ⟨F, r, R, q0.bind.imp fun v r1 F1 H1 R1 S1 q1 x rx => ?_⟩
  have key : rdV X.K (on1 gSSet) [x] H1 Q := fin1 R1 rx (fwd S1.th q1)
  obtain ⟨x', F2, d, z, ex, s2, hx, g, qq⟩ := on1_cases key
  cases ex
  unfold gSSet at g
  split at g
  · split at g
    · rename_i ds cs hcs
      split at g
      · rename_i ok
        obtain rfl := Option.some.inj g
        rw [cnds?_eq hcs] at hx
        obtain ⟨l, vs, rfl, hl, hv⟩ := hx.list s2
        obtain ⟨ps, rfl, epc, hps⟩ := dvs_cnds hv
        subst epc
        rw [List.length_map] at ok
        refine ⟨F2, l, ps, rfl, s2, hl, hps, ok.1, fun a L ha hL1 hL2 => ?_⟩
        have sm : ∀ p ∈ L, csm p.2 := fun p m => ok.2 p.2 (List.mem_map.mpr ⟨p, hL1 p m, rfl⟩)
        have s3 : Same F2 (upd H1 a (CSetO (hK X.w) X.w a L)) := fun b u e => by
          rw [upd_ne (ne_of_none (s2 b u e) ha)]
          exact s2 b u e
        refine ⟨F2, a, L, rfl, s3, upd_same, fun p m => ⟨hps p (hL1 p m), sm p m⟩, fun L' p pm up hn => ?_⟩
        have eL : L'.map (·.2) = ssC (ps.map (·.2)) := by
          refine up_unique up (ssC_up ok.2) fun c => ?_
          rw [ssC_mem]
          constructor
          · intro m
            obtain ⟨y, my, rfl⟩ := List.mem_map.mp m
            exact List.mem_map.mpr ⟨y, hL1 y (pm.mem_iff.mp my), rfl⟩
          · intro m
            obtain ⟨y, my, rfl⟩ := List.mem_map.mp m
            exact (pm.map (·.2)).mem_iff.mpr (hL2 y my)
        have hpa : p ≠ a := fun e => by rw [e, upd_same] at hn; cases hn
        have hp1 : H1 p = none := by rw [upd_ne hpa] at hn; exact hn
        have fp : F2 p = none := s2.free hp1
        refine qq (.ref p) F2 _ ⟨Same.refl _, fun b u e => ?_, fun b u e => ?_, fun b e _ => e⟩ ⟨p, _, rfl, hp1, fp, upd_same, ?_⟩
        · rw [upd_ne (ne_of_none e hp1), upd_ne (ne_of_none e ha)]
          exact e
        · have e1 := s2 b u e
          rw [upd_ne (ne_of_none e1 hp1), upd_ne (ne_of_none e1 ha)]
          exact e1
        · rw [← eL]
          exact dvs_of fun y m => hps y (hL1 y (pm.mem_iff.mp m))
      · cases g
    · cases g
  · cases g
end
end PD

/-! PDSent: how often a kind is sent at most on a way: the def with a dict. -/
namespace PD
open PySem PySem.Spec PyProof.Rows L2
/-! ### in plain data -/
def ruleS (many : Int) : PyData → Option (Int × Int × List Int)
  | .tuple [.int s, .int t, _, .tuple ks] => match ints? ks with
    | some ns => if (0 ≤ s ∧ s < many) ∧ (0 ≤ t ∧ t < many) ∧ ns.length ≤ 1000 then some (s, t, ns) else none
    | none => none
  | _ => none
def rulesS (many : Int) : List PyData → Option (List (Int × Int × List Int))
  | [] => some []
  | d :: ds => match ruleS many d, rulesS many ds with
    | some r, some rs => some (r :: rs)
    | _, _ => none
def putM (m : Int → Int) (t v : Int) : Int → Int := fun i => if i = t then v else m i
def hasI (kind : Int) (ns : List Int) : Int := if ns.any (fun z => decide (z = kind)) = true then 1 else 0
def stepM (kind loc : Int) (m : Int → Int) (r : Int × Int × List Int) : Int → Int := if r.1 = loc then putM m r.2.1 (if m r.1 + hasI kind r.2.2 > m r.2.1 then m r.1 + hasI kind r.2.2 else m r.2.1) else m
def sentM (rs : List (Int × Int × List Int)) (kind : Int) (n : Nat) : Int → Int := (List.range n).foldl (fun m (i : Nat) => rs.foldl (stepM kind (i : Int)) m) (fun _ => 0)
def mxL : List Int → Int
  | [] => 0
  | x :: xs => xs.foldl max x
theorem foldl_max : ∀ (xs : List Int) (x : Int), (xs.foldl max x = x ∨ xs.foldl max x ∈ xs) ∧ x ≤ xs.foldl max x ∧ ∀ y ∈ xs, y ≤ xs.foldl max x
  | [], x => ⟨.inl rfl, Int.le_refl _, fun _ h => (nomatch h)⟩
  | z :: xs, x => by
    obtain ⟨h1, h2, h3⟩ := foldl_max xs (max x z)
    show (xs.foldl max (max x z) = x ∨ xs.foldl max (max x z) ∈ z :: xs) ∧ x ≤ xs.foldl max (max x z) ∧ ∀ y ∈ z :: xs, y ≤ xs.foldl max (max x z)
    refine ⟨?_, by omega, fun y hy => ?_⟩
    · rcases h1 with h1 | h1
      · rw [h1]
        by_cases c : x ≤ z
        · exact .inr (by rw [show max x z = z by omega]; exact List.mem_cons_self)
        · exact .inl (by omega)
      · exact .inr (List.mem_cons_of_mem _ h1)
    · rcases List.mem_cons.mp hy with rfl | hy
      · omega
      · exact h3 y hy
theorem mxL_is {ns : List Int} {m : Int} (hm : m ∈ ns) (h : ∀ y ∈ ns, y ≤ m) : m = mxL ns := by
  cases ns with
  | nil => cases hm
  | cons x xs =>
    obtain ⟨h1, h2, h3⟩ := foldl_max xs x
    show m = xs.foldl max x
    have a : xs.foldl max x ∈ x :: xs := by
      rcases h1 with h1 | h1
      · rw [h1]; exact List.mem_cons_self
      · exact List.mem_cons_of_mem _ h1
    have b := h _ a
    rcases List.mem_cons.mp hm with rfl | hm
    · omega
    · have := h3 m hm
      omega
def sentV (many : Int) (rs : List (Int × Int × List Int)) (kind : Int) : Int := mxL ((List.range many.toNat).map fun i => sentM rs kind many.toNat ((i : Nat) : Int))
def MSent : List Arg → FO
  | [.d (.int many), .d (.tuple rules), .d (.int kind)] => if 1 ≤ many ∧ many ≤ 1000 then match rulesS many rules with
      | some rs => .ok (.v (.int (sentV many rs kind))) [.d (.int many), .d (.tuple rules), .d (.int kind)]
      | none => .bad
    else .bad
  | _ => .bad
/-! ### the reading -/
def rDP (K : PySem.W.Frag) : List V → Hp → VK → Prop := fun xs H Q => ∃ (a : Addr) (ps : List Addr) (kvs : List (L2.Key × V)), xs = [.ref a] ∧ SqL K H a (ps.map V.ref) ∧ Paired (fun p kv => SqT K H p [kV kv.1, kv.2]) ps kvs ∧ ∀ p, H p = none → Q (.ref p) (upd H p (.dK (mergeK [] kvs)))
def tLocs (te : TE) : TE := tLc (iRng1 (tCons (tVar 0) tNil)) (gName 4) tYes te [4]
def tMore (K : PySem.W.Frag) (mg : Str → Option Value) : TE := tCB (rdV K (on2 gMax2)) (tCons (tDGet (tVar 3) (tVar 6)) (tCons (tOp (rI0 fun i j => .int (i + j)) (tDGet (tVar 3) (tVar 5)) (rdE K mg W0 (eOp1 gInt (eOp2 gIn (eVar 2) (eVar 8))))) tNil))
def tStepS (K : PySem.W.Frag) (mg : Str → Option Value) : TS := tIfS (rdT K mg W0 (tBoo (eOp2 gEq (eVar 5) (eVar 4)))) (sDPut (tVar 3) (tVar 6) (tMore K mg)) tNext
def tSent (K : PySem.W.Frag) (mg : Str → Option Value) : TS :=
  tSeq (tAsg (tCB (rDP K) (tCons (tLocs (tTup (tCons (tVar 4) (tCons (tC (.int 0)) tNil)))) tNil)) (gName 3))
    (tSeq (tFor (iRng1 (tCons (tVar 0) tNil)) (gName 4) (tFor (iTup K (tVar 1)) (gTup K 4 (gCons (gName 5) (gCons (gName 6) (gCons (gName 7) (gCons (gName 8) gNil))))) (tStepS K mg)))
      (tRet (tCB (rMax K) (tCons (tLocs (tDGet (tVar 3) (tVar 4))) tNil))))
/-! ### that it does so -/
section
variable {K : PySem.W.Frag} {mg : Str → Option Value}
def isUD : Sl → Bool
  | .l _ _ => false
  | _ => true
theorem noOw {r : PEn} {σ : L2.St} {b : Addr} (h : r.all isUD = true) : ¬ Ow r σ b := by
  rintro ⟨i, p, xs, e, _⟩
  have := List.all_eq_true.mp h _ (List.mem_of_getElem? e)
  cases this
/-- a state whose slots hold data -/
theorem rel_ud {F H : Hp} {r : PEn} {σ : L2.St} (hl : σ.length = r.length) (e : Same F H) (h : r.all isUD = true) (hd : ∀ (i : Nat) (d : PyData), r[i]? = some (.d d) → ∃ v, σ[i]? = some (some v) ∧ DV K F v d) : Rel K F r σ H where
  len := hl
  sub := e
  dat := hd
  lst := fun i p xs e => by
    have := List.all_eq_true.mp h _ (List.mem_of_getElem? e)
    cases this
  inj := fun i j p q xs ys a e _ _ _ => by
    have := List.all_eq_true.mp h _ (List.mem_of_getElem? e)
    cases this
theorem ints?_is : ∀ {ks : List PyData} {ns : List Int}, ints? ks = some ns → ks = ns.map .int
  | [], ns, h => by cases h; rfl
  | d :: ks, ns, h => by
    unfold ints? at h
    split at h
    · rename_i h1
      cases h1
    · rename_i i xs h1
      cases h1
      cases z : ints? ks with
      | none => rw [z] at h; cases h
      | some ms =>
        rw [z] at h
        cases h
        rw [ints?_is z]
        rfl
    · cases h
theorem putK_len {kvs : List (L2.Key × V)} {k : L2.Key} {v x : V} (h : valV kvs k = some x) : (putK kvs k v).length = kvs.length := by
  have a : (kvs.any fun kv => decide (kv.1 = k)) = true := by rw [valV_any, h]; rfl
  unfold putK
  rw [if_pos a, List.length_map]
theorem putK_le (kvs : List (L2.Key × V)) (k : L2.Key) (v : V) : (putK kvs k v).length ≤ kvs.length + 1 := by
  unfold putK
  split
  · rw [List.length_map]; omega
  · rw [List.length_append]; exact Nat.le_refl _
theorem merge_at : ∀ (ks : List Int) (kvs : List (L2.Key × V)) (j : Int), valV (mergeK kvs (ks.map fun i => (Sum.inl i, V.int 0))) (.inl j) = if j ∈ ks then some (.int 0) else valV kvs (.inl j)
  | [], kvs, j => by simp [mergeK]
  | k :: ks, kvs, j => by
    show valV (mergeK (putK kvs (.inl k) (.int 0)) (ks.map fun i => (Sum.inl i, V.int 0))) (.inl j) = _
    rw [merge_at ks, valV_put]
    by_cases h : j ∈ ks
    · rw [if_pos h, if_pos (List.mem_cons_of_mem _ h)]
    · rw [if_neg h]
      by_cases e : j = k
      · subst e
        rw [if_pos rfl, if_pos List.mem_cons_self]
      · rw [if_neg (fun z => e (by injection z)), if_neg (by simp [e, h])]
theorem merge_len : ∀ (ks : List Int) (kvs : List (L2.Key × V)), (mergeK kvs (ks.map fun i => (Sum.inl i, V.int 0))).length ≤ kvs.length + ks.length
  | [], kvs => Nat.le_refl _
  | k :: ks, kvs => by
    show (mergeK (putK kvs (.inl k) (.int 0)) (ks.map fun i => (Sum.inl i, V.int 0))).length ≤ _
    have h1 := merge_len ks (putK kvs (.inl k) (.int 0))
    have h2 := putK_le kvs (.inl k) (V.int 0)
    rw [List.length_cons]
    omega
/-- the dict tells m below many -/
def Dm (many : Int) (m : Int → Int) (H : Hp) (p : Addr) : Prop := ∃ kvs : List (L2.Key × V), H p = some (.dK kvs) ∧ kvs.length ≤ 1000 ∧ ∀ i, 0 ≤ i → i < many → valV kvs (.inl i) = some (.int (m i))
theorem Dm.get {many : Int} {m : Int → Int} {H : Hp} {p : Addr} (h : Dm many m H p) {i : Int} (h0 : 0 ≤ i) (h1 : i < many) : DGet H p (.int i) (some (.int (m i))) := by
  obtain ⟨kvs, e, _, g⟩ := h
  have := DGet.k (k := .inl i) e
  rw [g i h0 h1] at this
  exact this
theorem Dm.put {many : Int} {m : Int → Int} {H : Hp} {p : Addr} (h : Dm many m H p) {i v : Int} (h0 : 0 ≤ i) (h1 : i < many) : ∃ H', DPut H p (.int i) (.int v) H' ∧ Dm many (putM m i v) H' p ∧ ∀ b, b ≠ p → H' b = H b := by
  obtain ⟨kvs, e, l, g⟩ := h
  refine ⟨_, DPut.k (k := .inl i) e (Nat.lt_of_le_of_lt l (by decide)), ⟨_, upd_same, by rw [putK_len (g i h0 h1)]; exact l, fun j j0 j1 => ?_⟩, fun b hb => upd_ne hb⟩
  rw [valV_put, g j j0 j1]
  unfold putM
  by_cases c : j = i
  · rw [if_pos (by rw [c]), if_pos c]
  · rw [if_neg (fun z => c (by injection z)), if_neg c]
theorem Dm.up {many : Int} {m : Int → Int} {H H' : Hp} {p : Addr} (h : Dm many m H p) (s : Same H H') : Dm many m H' p := by
  obtain ⟨kvs, e, r⟩ := h
  exact ⟨kvs, s _ _ e, r⟩
theorem rules_at {many : Int} : ∀ {rules : List PyData} {rs : List (Int × Int × List Int)}, rulesS many rules = some rs → rules.length = rs.length ∧ ∀ (i : Nat) (d : PyData), rules[i]? = some d → ∃ r, rs[i]? = some r ∧ ruleS many d = some r
  | [], rs, h => by cases h; exact ⟨rfl, fun i d e => by simp at e⟩
  | d :: ds, rs, h => by
    unfold rulesS at h
    split at h
    · rename_i r rs' h1 h2
      cases h
      obtain ⟨l, q⟩ := rules_at h2
      refine ⟨by simp [l], fun i e he => ?_⟩
      cases i with
      | zero => cases he; exact ⟨r, rfl, h1⟩
      | succ i => exact q i e (by simpa using he)
    · cases h
theorem ruleS_is {many : Int} {d : PyData} {r : Int × Int × List Int} (h : ruleS many d = some r) : ∃ c, d = .tuple [.int r.1, .int r.2.1, c, .tuple (r.2.2.map .int)] ∧ (0 ≤ r.1 ∧ r.1 < many) ∧ (0 ≤ r.2.1 ∧ r.2.1 < many) := by
  unfold ruleS at h
  split at h
  · split at h
    · rename_i s t c ks _ ns h1
      split at h
      · rename_i ok
        cases h
        rw [ints?_is h1]
        exact ⟨c, rfl, ok.1, ok.2.1⟩
      · cases h
    · cases h
  · cases h
theorem any_eqv (kind : Int) (ns : List Int) : ((ns.map PyData.int).any fun z => PyData.eqv z (.int kind)) = ns.any fun z => decide (z = kind) := by
  induction ns with
  | nil => rfl
  | cons n ns ih =>
    show (PyData.eqv (.int n) (.int kind) || _) = (decide (n = kind) || _)
    rw [ih]
    rfl
theorem dvs_at {F : Hp} : ∀ {ws : List V} {ds : List PyData}, DVs K F ws ds → ∀ {i : Nat} {x : V}, ws[i]? = some x → ∃ d, ds[i]? = some d ∧ DV K F x d
  | _, _, .nil, i, x, e => by simp at e
  | _, _, .cons h1 h2, 0, x, e => by cases e; exact ⟨_, rfl, h1⟩
  | _, _, .cons h1 h2, i + 1, x, e => dvs_at h2 (by simpa using e)
/-- what the loops keep -/
structure Lp (K : PySem.W.Frag) (F H0 : Hp) (many kind : Int) (qa p : Addr) (m : Int → Int) (σ : L2.St) (H : Hp) : Prop where
  sig : ∃ z4 z5 z6 z7 z8, σ = [some (.int many), some (.ref qa), some (.int kind), some (.ref p), z4, z5, z6, z7, z8]
  same : Same H0 H
  dm : Dm many m H p
theorem fz_int {F : Hp} {x : V} {n : Int} (h : DV K F x (.int n)) : x = .int n := by
  cases h
  rfl
/-- one rule at one location -/
theorem step_sent {F H0 H : Hp} {many kind loc : Int} {qa p : Addr} {m : Int → Int} {s t : Int} {vc : V} {sd : Addr} {ks : List Int} {D : Ends} (e0 : Same F H0) (hp0 : H0 p = none) (sm : Same H0 H) (dm : Dm many m H p) (hs : 0 ≤ s ∧ s < many) (ht : 0 ≤ t ∧ t < many)
    (hk : DV K F (.ref sd) (.tuple (ks.map .int))) (nx : ∀ H', Same H0 H' → Dm many (stepM kind loc m (s, t, ks)) H' p → D.nx [some (.int many), some (.ref qa), some (.int kind), some (.ref p), some (.int loc), some (.int s), some (.int t), some vc, some (.ref sd)] H') :
    tStepS K mg D [some (.int many), some (.ref qa), some (.int kind), some (.ref p), some (.int loc), some (.int s), some (.int t), some vc, some (.ref sd)] H := by
  have eF : Same F H := fun b o e => sm b o (e0 b o e)
  unfold tStepS
  have r1 : Rel K F [.u, .u, .u, .u, .d (.int loc), .d (.int s), .u, .u, .u] [some (.int many), some (.ref qa), some (.int kind), some (.ref p), some (.int loc), some (.int s), some (.int t), some vc, some (.ref sd)] H := rel_ud rfl eF rfl fun i d e => by
    match i, e with
    | 4, e => cases e; exact ⟨_, rfl, .int _⟩
    | 5, e => cases e; exact ⟨_, rfl, .int _⟩
    | 0, e => cases e
    | 1, e => cases e
    | 2, e => cases e
    | 3, e => cases e
    | 6, e => cases e
    | 7, e => cases e
    | 8, e => cases e
    | i + 9, e => simp at e
  refine ⟨F, _, r1, ?_⟩
  have t1 : tBoo (eOp2 gEq (eVar 5) (eVar 4)) [.u, .u, .u, .u, .d (.int loc), .d (.int s), .u, .u, .u] = .ok (decide (s = loc)) [.u, .u, .u, .u, .d (.int loc), .d (.int s), .u, .u, .u] := tb_ (ed2 (evV rfl) (evV rfl) (gEq_int _ _))
  rw [t1]
  intro F1 H1 R1 S1
  have h1 : Same H H1 := fun b o e => S1.kp b o e (noOw rfl)
  have d1 := dm.up h1
  have sm1 : Same H0 H1 := fun b o e => h1 b o (sm b o e)
  by_cases c1 : s = loc
  · rw [decide_eq_true c1]
    show (if true = true then sDPut _ _ _ D _ H1 else _)
    rw [if_pos rfl]
    refine ⟨_, rfl, _, rfl, p, .int (m t), rfl, d1.get ht.1 ht.2, _, rfl, _, rfl, p, .int (m s), rfl, d1.get hs.1 hs.2, ?_⟩
    have eF1 : Same F H1 := fun b o e => h1 b o (eF b o e)
    have r2 : Rel K F [.u, .u, .d (.int kind), .u, .u, .u, .u, .u, .d (.tuple (ks.map .int))] [some (.int many), some (.ref qa), some (.int kind), some (.ref p), some (.int loc), some (.int s), some (.int t), some vc, some (.ref sd)] H1 := rel_ud rfl eF1 rfl fun i d e => by
      match i, e with
      | 2, e => cases e; exact ⟨_, rfl, .int _⟩
      | 8, e => cases e; exact ⟨_, rfl, hk⟩
      | 0, e => cases e
      | 1, e => cases e
      | 3, e => cases e
      | 4, e => cases e
      | 5, e => cases e
      | 6, e => cases e
      | 7, e => cases e
      | i + 9, e => simp at e
    refine ⟨F, _, r2, ?_⟩
    have inn : gIn (.int kind) (.tuple (ks.map .int)) = some (.v (.bool (ks.any fun z => decide (z = kind)))) := by
      rw [← any_eqv kind ks]
      exact if_pos ⟨rfl, shaped_ints ks⟩
    have t2 : eOp1 gInt (eOp2 gIn (eVar 2) (eVar 8)) [.u, .u, .d (.int kind), .u, .u, .u, .u, .u, .d (.tuple (ks.map .int))] = .ok (.v (.int (hasI kind ks))) [.u, .u, .d (.int kind), .u, .u, .u, .u, .u, .d (.tuple (ks.map .int))] := ed1 (ed2 (evV rfl) (evV rfl) inn) rfl
    rw [t2]
    intro F2 H2 R2 S2 x hx
    obtain rfl := fz_int hx
    have h2 : Same H1 H2 := fun b o e => S2.kp b o e (noOw rfl)
    have d2 := d1.up h2
    have sm2 : Same H0 H2 := fun b o e => h2 b o (sm1 b o e)
    refine ⟨_, _, rfl, rfl, ?_⟩
    have eF2 : Same F H2 := fun b o e => h2 b o (eF1 b o e)
    refine ⟨F, [.int (m t), .int (m s + hasI kind ks)], .v (.int (if m s + hasI kind ks > m t then m s + hasI kind ks else m t)), eF2, .cons (.fr (.int _)) (.cons (.fr (.int _)) .nil), rfl, fun x F3 H3 G3 hx => ?_⟩
    obtain rfl := fz_int (show DV K F3 x (.int _) from hx)
    have d3 := d2.up G3.hh
    obtain ⟨H4, hp, d4, ne⟩ := d3.put (v := if m s + hasI kind ks > m t then m s + hasI kind ks else m t) ht.1 ht.2
    refine ⟨_, rfl, _, rfl, p, H4, rfl, hp, nx H4 (fun b o e => ?_) ?_⟩
    · have : b ≠ p := fun z => by rw [z, hp0] at e; cases e
      rw [ne b this]
      exact G3.hh b o (sm2 b o e)
    · unfold stepM
      rw [if_pos (show (s, t, ks).1 = loc from c1)]
      exact d4
  · rw [decide_eq_false c1]
    show (if false = true then _ else tNext D _ H1)
    rw [if_neg (by decide)]
    refine nx H1 sm1 ?_
    unfold stepM
    rw [if_neg (show ¬ (s, t, ks).1 = loc from c1)]
    exact d1
theorem sent_cases (as : List Arg) : MSent as = .bad ∨ ∃ (many : Int) (rules : List PyData) (kind : Int) (rs : List (Int × Int × List Int)), as = [.d (.int many), .d (.tuple rules), .d (.int kind)] ∧ (1 ≤ many ∧ many ≤ 1000) ∧ rulesS many rules = some rs ∧ MSent as = .ok (.v (.int (sentV many rs kind))) as := by
  unfold MSent
  split
  · rename_i many rules kind
    by_cases hm : 1 ≤ many ∧ many ≤ 1000
    · rw [if_pos hm]
      cases z : rulesS many rules with
      | none => exact .inl rfl
      | some rs => exact .inr ⟨many, rules, kind, rs, rfl, hm, z, rfl⟩
    · rw [if_neg hm]
      exact .inl rfl
  · exact .inl rfl
theorem len_sent {vs : List V} {H : Hp} {Q : VK} {E : XK} (h : spD K mg MSent vs H Q E) : vs.length = 3 := by
  obtain ⟨F, as, _, pa, _, q⟩ := h
  rcases sent_cases as with e | ⟨many, rules, kind, rs, rfl, _⟩
  · rw [e] at q
    exact q.elim
  · exact (Paired.length pa)
/-- the tuples (location, 0) so far -/
structure Prs (H0 : Hp) (ps : List Addr) (H : Hp) : Prop where
  same : Same H0 H
  at_ : ∀ (j : Nat) (a : Addr), ps[j]? = some a → H a = some (.tup [.int (j : Nat), .int 0])
theorem prs_paired {H0 H : Hp} : ∀ (n : Nat) (ps : List Addr), ps.length = n → (∀ (j : Nat) (a : Addr), ps[j]? = some a → H a = some (.tup [.int (j : Nat), .int 0])) → Paired (fun p (kv : L2.Key × V) => SqT K H p [kV kv.1, kv.2]) ps (((List.range n).map fun i => ((i : Nat) : Int)).map fun i => (Sum.inl i, V.int 0)) := by
  intro n ps hl h
  have gen : ∀ (ps : List Addr) (k : Nat), (∀ (j : Nat) (a : Addr), ps[j]? = some a → H a = some (.tup [.int ((k + j : Nat) : Int), .int 0])) → Paired (fun p (kv : L2.Key × V) => SqT K H p [kV kv.1, kv.2]) ps (((List.range' k ps.length).map fun i => ((i : Nat) : Int)).map fun i => (Sum.inl i, V.int 0)) := by
    intro ps
    induction ps with
    | nil => exact fun _ _ => .nil
    | cons a ps ih =>
      intro k h
      refine .cons (.inl (.inl (h 0 a rfl))) ?_
      refine ih (k + 1) fun j b e => ?_
      have := h (j + 1) b (by simpa using e)
      rw [show k + 1 + j = k + (j + 1) by omega]
      exact this
  have := gen ps 0 fun j a e => by rw [Nat.zero_add]; exact h j a e
  rw [hl, ← List.range_eq_range'] at this
  exact this
theorem pure_sent {vs : List V} {H : Hp} {Q : VK} {E : XK} (h : spD K mg MSent vs H Q E) : tSent K mg { nx := fun _ H' => Q .non H', rt := Q } (start ["many", "rules", "kind", "most", "location", "source", "target", "conditions", "sends"] vs) H := by
  obtain ⟨F, as, e0, pa, nd, q⟩ := h
  rcases sent_cases as with e | ⟨many, rules, kind, rs, rfl, hm, hrs, e⟩
  · rw [e] at q
    exact q.elim
  rw [e] at q
  have pa0 := pa
  cases pa with
  | cons a1 pa =>
  cases pa with
  | cons a2 pa =>
  cases pa with
  | cons a3 pa =>
  cases pa
  rename_i x1 x2 x3
  obtain rfl := fz_int (show DV K F x1 (.int many) from a1)
  obtain rfl := fz_int (show DV K F x3 (.int kind) from a3)
  have a2 : DV K F x2 (.tuple rules) := a2
  cases a2 with
  | @tup qa ws _ hq hw =>
  obtain ⟨hlen, hat⟩ := rules_at hrs
  have hwl : ws.length = rules.length := hw.len
  show tSent K mg _ [some (.int many), some (.ref qa), some (.int kind), none, none, none, none, none, none] H
  obtain ⟨n, hn⟩ := Int.eq_ofNat_of_zero_le (show (0 : Int) ≤ many by omega)
  have hnn : many.toNat = n := by omega
  -- the dict is made
  refine ⟨_, rfl, many, rfl, by omega, by omega, fun D hD => ?_⟩
  refine lc_range (fun i H1 => ∃ ps, ps.length = i ∧ H1 D = some (.lst (ps.map V.ref)) ∧ Prs H ps H1) ⟨[], rfl, upd_same, ⟨fun b o e => by rw [upd_ne (ne_of_none e hD)]; exact e, fun j a e => by simp at e⟩⟩ (fun i H1 hi ⟨ps, hl, hacc, P⟩ => ?_) fun H1 ⟨ps, hl, hacc, P⟩ => ?_
  · refine ⟨rfl, ?_⟩
    unfold tYes
    simp only [if_true]
    refine ⟨_, rfl, by show 2 ≤ sizeLine; decide, fun p hp => ?_⟩
    have pD : p ≠ D := fun z => by rw [z, hacc] at hp; cases hp
    refine ⟨ps.map V.ref, by rw [upd_ne (Ne.symm pD)]; exact hacc, by rw [List.length_map, hl]; exact Nat.lt_of_lt_of_le (show i < 1001 by omega) (by decide), ps ++ [p], by rw [List.length_append, hl]; rfl, by rw [upd_same, List.map_append]; rfl, ⟨fun b o e => ?_, fun j a e => ?_⟩⟩
    · have h1 := P.same b o e
      have bD : b ≠ D := ne_of_none e hD
      rw [upd_ne bD, upd_ne (ne_of_none h1 hp)]
      exact h1
    · by_cases hj : j < ps.length
      · rw [List.getElem?_append_left hj] at e
        have h1 := P.at_ j a e
        have aD : a ≠ D := fun z => by rw [z, hacc] at h1; cases h1
        rw [upd_ne aD, upd_ne (ne_of_none h1 hp)]
        exact h1
      · rw [List.getElem?_append_right (by omega)] at e
        have hj2 : j = ps.length := by
          by_cases z : j - ps.length = 0
          · omega
          · have : ([p] : List Addr)[j - ps.length]? = none := by rw [List.getElem?_eq_none]; show 1 ≤ _; omega
            rw [this] at e
            cases e
        subst hj2
        rw [Nat.sub_self] at e
        cases e
        rw [upd_ne pD, upd_same, hl]
        rw [Int.zero_add]
  · rw [hnn] at hl
    refine ⟨D, ps, _, rfl, .inl (.inl hacc), prs_paired (H0 := H) n ps hl P.at_, fun p hp => ?_⟩
    have hp0 : H p = none := by
      cases z : H p with
      | none => rfl
      | some o => rw [P.same p o z] at hp; cases hp
    -- the loops
    show tSeq _ _ _ [some (.int many), some (.ref qa), some (.int kind), some (.ref p), none, none, none, none, none] _
    refine ⟨_, rfl, many, rfl, by omega, by omega, for_range (n := many.toNat) (fun i σ H1 => Lp K F H many kind qa p ((List.range i).foldl (fun m (i : Nat) => rs.foldl (stepM kind (i : Int)) m) (fun _ => 0)) σ H1) ⟨⟨none, none, none, none, none, rfl⟩, fun b o e => ?_, ?_⟩ (fun i σ H1 hi L => ?_) fun σ H1 L => ?_⟩
    · have h1 := P.same b o e
      rw [upd_ne (ne_of_none h1 hp)]
      exact h1
    · refine ⟨_, upd_same, ?_, fun i i0 i1 => ?_⟩
      · have := merge_len ((List.range n).map fun i => ((i : Nat) : Int)) []
        rw [List.length_map, List.length_range] at this
        simp only [List.length_nil] at this
        omega
      · rw [merge_at, if_pos]
        · rfl
        · exact List.mem_map.mpr ⟨i.toNat, List.mem_range.mpr (by omega), by omega⟩
    · obtain ⟨⟨z4, z5, z6, z7, z8, rfl⟩, sm, dm⟩ := L
      rw [Int.zero_add]
      show tFor _ _ _ _ [some (.int many), some (.ref qa), some (.int kind), some (.ref p), some (.int (i : Nat)), z5, z6, z7, z8] H1
      have qH : ∀ {H2 : Hp}, Same H H2 → SqT K H2 qa ws := fun s => seqT_mono (fun b o e => s b o (e0 b o e)) hq
      refine ⟨_, rfl, qa, rfl, ⟨ws, qH sm⟩, for_tup (xs := ws) (fun j σ H2 => (∃ z5 z6 z7 z8, σ = [some (.int many), some (.ref qa), some (.int kind), some (.ref p), some (.int (i : Nat)), z5, z6, z7, z8]) ∧ Same H H2 ∧
        Dm many ((rs.take j).foldl (stepM kind (i : Int)) ((List.range i).foldl (fun m (i : Nat) => rs.foldl (stepM kind (i : Int)) m) (fun _ => 0))) H2 p) ⟨⟨z5, z6, z7, z8, rfl⟩, sm, dm⟩ (fun j σ H2 _ ⟨_, s2, _⟩ => qH s2) (fun j x σ H2 ej ⟨⟨z5, z6, z7, z8, eσ⟩, s2, d2⟩ => ?_) fun σ H2 ⟨⟨z5, z6, z7, z8, eσ⟩, s2, d2⟩ => ?_⟩
      · subst eσ
        obtain ⟨d, ed, dv⟩ := dvs_at hw ej
        obtain ⟨r, er, ers⟩ := hat j d ed
        obtain ⟨c, rfl, hs, ht⟩ := ruleS_is ers
        cases dv with
        | @tup b vs4 _ hb hv4 =>
        cases hv4 with
        | cons v1 hv4 =>
        cases hv4 with
        | cons v2 hv4 =>
        cases hv4 with
        | @cons vc _ _ _ v3 hv4 =>
        cases hv4 with
        | cons v4 hv4 =>
        cases hv4
        have h1 := fz_int v1
        have h2 := fz_int v2
        subst h1 h2
        have v4' := v4
        cases v4 with
        | @tup sd _ _ _ _ =>
        refine ⟨b, _, rfl, seqT_mono (fun b o e => s2 b o (e0 b o e)) hb, rfl, _, _, rfl, _, _, rfl, _, _, rfl, _, _, rfl, rfl, ?_⟩
        show tStepS K mg _ [some (.int many), some (.ref qa), some (.int kind), some (.ref p), some (.int (i : Nat)), some (.int r.1), some (.int r.2.1), some vc, some (.ref sd)] H2
        refine step_sent e0 hp0 s2 d2 hs ht v4' fun H3 s3 d3 => ⟨⟨_, _, _, _, rfl⟩, s3, ?_⟩
        have tk : rs.take (j + 1) = rs.take j ++ [r] := by rw [List.take_succ, er]; rfl
        rw [tk, List.foldl_append]
        exact d3
      · subst eσ
        refine ⟨⟨_, _, _, _, _, rfl⟩, s2, ?_⟩
        rw [List.range_succ, List.foldl_append]
        rw [hwl, hlen, List.take_length] at d2
        exact d2
    · obtain ⟨⟨z4, z5, z6, z7, z8, rfl⟩, sm, dm⟩ := L
      -- the answer
      have mm : ((List.range many.toNat).foldl (fun m (i : Nat) => rs.foldl (stepM kind (i : Int)) m) (fun _ => 0)) = sentM rs kind many.toNat := rfl
      rw [mm] at dm
      refine ⟨_, rfl, many, rfl, by omega, by omega, fun D2 hD2 => ?_⟩
      refine lc_range (fun i H2 => Same H1 H2 ∧ H2 D2 = some (.lst (((List.range i).map fun i => sentM rs kind many.toNat ((i : Nat) : Int)).map V.int))) ⟨fun b o e => by rw [upd_ne (ne_of_none e hD2)]; exact e, upd_same⟩ (fun i H2 hi ⟨s2, hacc⟩ => ?_) fun H2 ⟨s2, hacc⟩ => ?_
      · refine ⟨rfl, ?_⟩
        unfold tYes
        simp only [if_true]
        refine ⟨_, rfl, _, rfl, p, .int (sentM rs kind many.toNat (0 + ((i : Nat) : Int))), rfl, (dm.up s2).get (by omega) (by omega), _, hacc, ?_, fun b o e => ?_, ?_⟩
        · rw [List.length_map, List.length_map, List.length_range]
          exact Nat.lt_of_lt_of_le (show i < 1001 by omega) (by decide)
        · rw [upd_ne (ne_of_none e hD2)]
          exact s2 b o e
        · rw [upd_same, List.range_succ, List.map_append, List.map_append, Int.zero_add]
          rfl
      · refine ⟨D2, _, rfl, .inl (.inl hacc), by rw [List.length_map, List.length_range]; omega, fun mx hmx hle => ?_⟩
        have em : mx = sentV many rs kind := mxL_is hmx hle
        rw [em]
        have s3 : Same H H2 := fun b o e => s2 b o (sm b o e)
        refine q _ F H2 ⟨Same.refl _, fun b o e => s3 b o (e0 b o e), fun b e _ => e, fun b o e _ => s3 b o e, fun b hb => ?_, .cons (.int _) (.cons (show DV K F (.ref qa) (.tuple rules) from .tup hq hw) (.cons (.int _) .nil))⟩ (.int _)
        cases z : H b with
        | none => exact absurd z hb
        | some o => rw [s3 b o z]; simp
end
end PD

/-! PDProto: protocols, as the laws draw them. -/
namespace PD
open PySem PySem.Spec PyProof.Rows L2
def gBound_0 : PEn → Out Fl :=
  sIf (tBoo (eOp2 gEq (eCall MDraw [true, false] (aCons (eVar 0) (aCons (eC (.int 4)) (aNil)))) (eC (.int 0)))) (sRet (eTup (aCons (eOp2 gSub (eCall MDraw [true, false] (aCons (eVar 0) (aCons (eC (.int 7)) (aNil)))) (eC (.int 3))) (aCons (eOp2 gSub (eCall MDraw [true, false] (aCons (eVar 0) (aCons (eC (.int 7)) (aNil)))) (eC (.int 3))) (aCons (eCall MDraw [true, false] (aCons (eVar 0) (aCons (eC (.int 2)) (aNil)))) (aNil)))))) (sSkip)
def gBound_1 : PEn → Out Fl :=
  sRet (eCall MOne [true, false] (aCons (eVar 0) (aCons (eLst (aCons (eTup (aCons (eC (.int 0)) (aCons (eC (.int 1)) (aCons (eC (.int 1)) (aNil))))) (aCons (eTup (aCons (eC (.int 1)) (aCons (eOp1 gNeg (eC (.int 1))) (aCons (eC (.int 0)) (aNil))))) (aCons (eTup (aCons (eC (.int 0)) (aCons (eC (.int 0)) (aCons (eC (.int 1)) (aNil))))) (aCons (eTup (aCons (eC (.int 0)) (aCons (eC (.int 2)) (aCons (eC (.int 1)) (aNil))))) (aCons (eTup (aCons (eC (.int 1)) (aCons (eOp1 gNeg (eC (.int 2))) (aCons (eC (.int 0)) (aNil))))) (aCons (eTup (aCons (eC (.int 0)) (aCons (eC (.int 1)) (aCons (eC (.int 0)) (aNil))))) (aCons (eTup (aCons (eC (.int 1)) (aCons (eC (.int 0)) (aCons (eC (.int 0)) (aNil))))) (aNil))))))))) (aNil))))
def gBound : PEn → Out Fl := (sSeq gBound_0 gBound_1)
def MBound : List Arg → FO := den gBound 1 1
def gConds_0 : PEn → Out Fl :=
  sSet 3 (eLst (aNil))
def gConds_b1 : PEn → Out Fl :=
  sExpr (eApp 3 (eCall MOne [true, false] (aCons (eVar 0) (aCons (eVar 2) (aNil)))))
def gConds_1 : PEn → Out Fl :=
  sFor (iRange1 (eCall MOne [true, false] (aCons (eVar 0) (aCons (eLst (aCons (eC (.int 0)) (aCons (eC (.int 1)) (aCons (eC (.int 1)) (aCons (eC (.int 1)) (aCons (eC (.int 2)) (aNil))))))) (aNil))))) (gNm 4) gConds_b1
def gConds_2 : PEn → Out Fl :=
  sRet (eIf (tBoo (eOp2 gGt (eVar 1) (eC (.int 0)))) (eOp1 gTuple (eOp1 gSSet (eVar 3))) (eTup (aNil)))
def gConds : PEn → Out Fl := (sSeq gConds_0 (sSeq gConds_1 gConds_2))
def MConds : List Arg → FO := den gConds 3 5
def gRule_0 : PEn → Out Fl :=
  sSet 4 (eCall MDraw [true, false] (aCons (eVar 0) (aCons (eOp2 gSub (eVar 1) (eC (.int 1))) (aNil))))
def gRule_1 : PEn → Out Fl :=
  sSet 5 (eOp2 gAdd (eOp2 gAdd (eVar 4) (eC (.int 1))) (eCall MDraw [true, false] (aCons (eVar 0) (aCons (eOp2 gSub (eOp2 gSub (eVar 1) (eVar 4)) (eC (.int 1))) (aNil)))))
def gRule_2 : PEn → Out Fl :=
  sSet 6 (eOp1 gTuple (eComp (iRange1 (eVar 2)) [7] (gNm 7) (tBoo (eOp2 gEq (eCall MDraw [true, false] (aCons (eVar 0) (aCons (eC (.int 3)) (aNil)))) (eC (.int 0)))) (eVar 7)))
def gRule_3 : PEn → Out Fl :=
  sRet (eTup (aCons (eVar 4) (aCons (eVar 5) (aCons (eCall MConds [true, false, false] (aCons (eVar 0) (aCons (eVar 2) (aCons (eVar 3) (aNil))))) (aCons (eVar 6) (aNil))))))
def gRule : PEn → Out Fl := (sSeq gRule_0 (sSeq gRule_1 (sSeq gRule_2 gRule_3)))
def MRule : List Arg → FO := den gRule 4 8
def gProto_0 : PEn → Out Fl :=
  sUnp (gTp 2 (gsC (gNm 3) (gsC (gNm 4) (gsN)))) (eTup (aCons (eOp2 gAdd (eC (.int 2)) (eCall MDraw [true, false] (aCons (eVar 0) (aCons (eOp2 gSub (eVar 1) (eC (.int 1))) (aNil))))) (aCons (eCall MOne [true, false] (aCons (eVar 0) (aCons (eLst (aCons (eC (.int 0)) (aCons (eC (.int 1)) (aCons (eC (.int 1)) (aCons (eC (.int 1)) (aCons (eC (.int 2)) (aNil))))))) (aNil)))) (aNil))))
def gProto_1 : PEn → Out Fl :=
  sSet 5 (eLst (aNil))
def gProto_b2 : PEn → Out Fl :=
  sExpr (eApp 5 (eTup (aCons (eCall MDraw [true, false] (aCons (eVar 0) (aCons (eOp2 gMax2 (eC (.int 1)) (eVar 4)) (aNil)))) (aCons (eCall MBound [true] (aCons (eVar 0) (aNil))) (aNil)))))
def gProto_2 : PEn → Out Fl :=
  sFor (iRange1 (eOp2 gAdd (eC (.int 1)) (eCall MDraw [true, false] (aCons (eVar 0) (aCons (eC (.int 4)) (aNil)))))) (gNm 6) gProto_b2
def gProto_3 : PEn → Out Fl :=
  sSet 7 (eComp (iRange2 (eC (.int 1)) (eVar 3)) [8] (gNm 8) (tBoo (eOp2 gEq (eCall MDraw [true, false] (aCons (eVar 0) (aCons (eC (.int 3)) (aNil)))) (eC (.int 0)))) (eVar 8))
def gProto_4 : PEn → Out Fl :=
  sSet 9 (eTup (aNil))
def gProto_b5 : PEn → Out Fl :=
  sSeq (sSet 10 (eCall MRule [true, false, false, false] (aCons (eVar 0) (aCons (eVar 3) (aCons (eVar 4) (aCons (eVar 5) (aNil))))))) (sSeq (sSet 1 (eComp (iRange1 (eVar 4)) [11] (gNm 11) (tYesD) (eCall MSent [false, false, false] (aCons (eVar 3) (aCons (eOp2 gAdd (eVar 9) (eTup (aCons (eVar 10) (aNil)))) (aCons (eVar 11) (aNil))))))) (sIf (tBoo (eOp2 gLt (eOp1 gMax1 (eOp2 gAdd (eVar 1) (eLst (aCons (eC (.int 0)) (aNil))))) (eC (.int 2)))) (sSet 9 (eOp2 gAdd (eVar 9) (eTup (aCons (eVar 10) (aNil))))) (sSkip)))
def gProto_5 : PEn → Out Fl :=
  sFor (iRange1 (eCall MDraw [true, false] (aCons (eVar 0) (aCons (eOp2 gAdd (eVar 2) (eC (.int 1))) (aNil))))) (gNm 6) gProto_b5
def gProto_6 : PEn → Out Fl :=
  sIf (tOrD (tBoo (eOp2 gEq (eVar 7) (eLst (aNil)))) (tBoo (eOp2 gGt (eCall MDraw [true, false] (aCons (eVar 0) (aCons (eC (.int 6)) (aNil)))) (eC (.int 0))))) (sSet 7 (eOp2 gAdd (eLst (aCons (eC (.int 0)) (aNil))) (eVar 7))) (sSkip)
def gProto_7 : PEn → Out Fl :=
  sRet (eTup (aCons (eVar 3) (aCons (eVar 4) (aCons (eOp1 gTuple (eVar 7)) (aCons (eVar 9) (aNil))))))
def gProto : PEn → Out Fl := (sSeq gProto_0 (sSeq gProto_1 (sSeq gProto_2 (sSeq gProto_3 (sSeq gProto_4 (sSeq gProto_5 (sSeq gProto_6 gProto_7)))))))
def MProto : List Arg → FO := den gProto 3 12
def gBroad_0 : PEn → Out Fl :=
  sUnp (gTp 2 (gsC (gNm 1) (gsC (gNm 2) (gsN)))) (eTup (aCons (eTup (aCons (eC (.int 0)) (aCons (eC (.int 1)) (aCons (eC (.int 1)) (aNil))))) (aCons (eTup (aCons (eC (.int 1)) (aCons (eOp1 gNeg (eC (.int 1))) (aCons (eC (.int 0)) (aNil))))) (aNil))))
def gBroad_1 : PEn → Out Fl :=
  sIf (tBoo (eOp2 gEq (eCall MDraw [true, false] (aCons (eVar 0) (aCons (eC (.int 3)) (aNil)))) (eC (.int 0)))) (sPar [1, 2] (aCons (eCall MBound [true] (aCons (eVar 0) (aNil))) (aCons (eCall MBound [true] (aCons (eVar 0) (aNil))) (aNil)))) (sSkip)
def gBroad_2 : PEn → Out Fl :=
  sPar [3, 4] (aCons (eTup (aCons (eTup (aCons (eC (.int 0)) (aCons (eVar 1) (aNil)))) (aNil))) (aCons (eTup (aCons (eTup (aCons (eC (.int 0)) (aCons (eVar 2) (aNil)))) (aNil))) (aNil)))
def gBroad_3 : PEn → Out Fl :=
  sSet 5 (eLst (aCons (eTup (aCons (eC (.int 1)) (aCons (eC (.int 2)) (aCons (eTup (aNil)) (aCons (eTup (aCons (eC (.int 0)) (aNil))) (aNil)))))) (aCons (eTup (aCons (eC (.int 0)) (aCons (eC (.int 2)) (aCons (eVar 3) (aCons (eTup (aCons (eC (.int 0)) (aNil))) (aNil)))))) (aCons (eTup (aCons (eC (.int 0)) (aCons (eC (.int 3)) (aCons (eVar 4) (aCons (eTup (aCons (eC (.int 0)) (aNil))) (aNil)))))) (aCons (eTup (aCons (eC (.int 2)) (aCons (eC (.int 3)) (aCons (eVar 4) (aCons (eTup (aNil)) (aNil)))))) (aNil))))))
def gBroad_4 : PEn → Out Fl :=
  sIf (tBoo (eOp2 gEq (eCall MDraw [true, false] (aCons (eVar 0) (aCons (eC (.int 4)) (aNil)))) (eC (.int 0)))) (sExpr (ePopAt 5 (eCall MDraw [true, false] (aCons (eVar 0) (aCons (eOp1 gLen (eVar 5)) (aNil)))))) (sSkip)
def gBroad_5 : PEn → Out Fl :=
  sRet (eTup (aCons (eC (.int 4)) (aCons (eC (.int 1)) (aCons (eTup (aCons (eC (.int 0)) (aCons (eC (.int 1)) (aNil)))) (aCons (eOp1 gTuple (eVar 5)) (aNil))))))
def gBroad : PEn → Out Fl := (sSeq gBroad_0 (sSeq gBroad_1 (sSeq gBroad_2 (sSeq gBroad_3 (sSeq gBroad_4 gBroad_5)))))
def MBroad : List Arg → FO := den gBroad 1 6
def gSome_0 : PEn → Out Fl :=
  sRet (eIf (tBoo (eOp2 gEq (eCall MDraw [true, false] (aCons (eVar 0) (aCons (eC (.int 3)) (aNil)))) (eC (.int 0)))) (eCall MBroad [true] (aCons (eVar 0) (aNil))) (eCall MProto [true, false, false] (aCons (eVar 0) (aCons (eVar 1) (aCons (eVar 2) (aNil))))))
def gSome : PEn → Out Fl := gSome_0
def MSome : List Arg → FO := den gSome 3 3
def gLConds_0 : PEn → Out Fl :=
  sSet 1 (eLst (aNil))
def gLConds_b1 : PEn → Out Fl :=
  sExpr (eExt 1 (eOp1 gList (eOp2 gIx (eVar 2) (eC (.int 2)))))
def gLConds_1 : PEn → Out Fl :=
  sFor (iSeq (eOp2 gIx (eVar 0) (eC (.int 3)))) (gNm 2) gLConds_b1
def gLConds_2 : PEn → Out Fl :=
  sRet (eOp1 gSSet (eVar 1))
def gLConds : PEn → Out Fl := (sSeq gLConds_0 (sSeq gLConds_1 gLConds_2))
def MLConds : List Arg → FO := den gLConds 1 3
/-! ### a comprehension whose test draws -/
theorem comp_envT {j : Nat} {t : PEn → Out Bool} {s : PEn → Out (List PyData)} {env : List PyData → PEn} {items : List PyData} (hs : ∀ p, s (env p) = .ok items (env p)) (hl : items.length ≤ many) (hw : ∀ p, wipeE (env p) [j] = env p) (hb : ∀ p p', backE (env p) (env p') [j] = env p')
    (hv : ∀ p d, (setE [(j, d)] (env p))[j]? = some (.d d)) (hw2 : ∀ p d, wipeE (setE [(j, d)] (env p)) [j] = env p)
    (step : ∀ p d, d ∈ items → PenL p → ∃ b p', PenL p' ∧ t (setE [(j, d)] (env p)) = .ok b (setE [(j, d)] (env p'))) {p : List PyData} (hp : PenL p) :
    ∃ es p', PenL p' ∧ es.Sublist items ∧ eComp s [j] (gNm j) t (eVar j) (env p) = .ok (.n es) (env p') := by
  obtain ⟨acc, r', e, p', hp', hsub, rfl⟩ := lc_inv (own := [j]) (g := gNm j) (t := t) (f := eVar j) (fun i acc r => ∃ p', PenL p' ∧ acc.Sublist (items.take i) ∧ r = env p') items 0 [] (env p) ⟨p, hp, List.nil_sublist _, rfl⟩ (by
    rintro i d acc r hi ⟨p1, hp1, hsub, rfl⟩
    rw [Nat.zero_add] at hsub
    have hd := List.mem_of_getElem? hi
    obtain ⟨b, p2, hp2, ht⟩ := step p1 d hd hp1
    have tk : items.take (0 + i + 1) = items.take i ++ [d] := by
      rw [Nat.zero_add, List.take_add_one, hi]
      rfl
    refine ⟨[(j, d)], setE [(j, d)] (env p2), rfl, by simp [within], ?_⟩
    cases b with
    | true =>
      refine .inl ⟨ht, .v d, setE [(j, d)] (env p2), d, setE [(j, d)] (env p2), evV (hv p2 d), rfl, p2, hp2, ?_, hw2 p2 d⟩
      rw [tk]
      exact hsub.append (List.Sublist.refl _)
    | false =>
      refine .inr ⟨ht, p2, hp2, ?_, hw2 p2 d⟩
      rw [tk]
      exact hsub.trans (List.sublist_append_left _ _))
  rw [Nat.zero_add, List.take_length] at hsub
  refine ⟨acc, p', hp', hsub, ?_⟩
  unfold eComp
  rw [hs p]
  show (if items.length ≤ many then _ else _) = _
  rw [if_pos hl, hw, e]
  show Out.ok (Val.n acc) (backE (env p) (env p') [j]) = _
  rw [hb]
/-! ### what is drawn -/
def CndP (kinds : Int) (c : Cnd) : Prop := (0 ≤ c.1 ∧ c.1 < kinds) ∧ (-3 ≤ c.2.1 ∧ c.2.1 ≤ 3) ∧ (-3 ≤ c.2.2.1 ∧ c.2.2.1 ≤ 3) ∧ (0 ≤ c.2.2.2 ∧ c.2.2.2 ≤ 1)
theorem CndP.sm {kinds : Int} {c : Cnd} (h : CndP kinds c) (hk : kinds ≤ 10) : csm c := by
  obtain ⟨h1, h2, h3, h4⟩ := h
  refine ⟨⟨by omega, by omega⟩, ⟨by omega, by omega⟩, ⟨by omega, by omega⟩, ⟨by omega, by omega⟩⟩
structure RuleP (many kinds : Int) (d : PyData) : Prop where
  ex : ∃ (s t : Int) (cs : List Cnd) (ks : List Int), d = .tuple [.int s, .int t, .tuple (cs.map cndD), .tuple (ks.map .int)] ∧ (0 ≤ s ∧ s < t ∧ t < many) ∧ cs.length ≤ 2 ∧ (∀ c ∈ cs, CndP kinds c) ∧ ks.length ≤ 2 ∧ (∀ k ∈ ks, 0 ≤ k ∧ k < kinds) ∧ cs.Pairwise (fun x y => crk x < crk y) ∧ ks.Pairwise (· < ·)
structure ProtoP (d : PyData) : Prop where
  ex : ∃ (many kinds : Int) (st : List Int) (rules : List PyData), d = .tuple [.int many, .int kinds, .tuple (st.map .int), .tuple rules] ∧ (2 ≤ many ∧ many ≤ 5) ∧ (0 ≤ kinds ∧ kinds ≤ 2) ∧ st.length ≤ 5 ∧ (∀ x ∈ st, 0 ≤ x ∧ x < many) ∧ rules.length ≤ 8 ∧ (∀ r ∈ rules, RuleP many kinds r) ∧ st ≠ [] ∧ st.Pairwise (· < ·)
theorem bound_ok {p : List PyData} (hp : PenL p) : ∃ (a b c : Int) (p' : List PyData), PenL p' ∧ (-3 ≤ a ∧ a ≤ 3) ∧ (-3 ≤ b ∧ b ≤ 3) ∧ (0 ≤ c ∧ c ≤ 1) ∧ MBound [.l p] = .ok (.v (.tuple [.int a, .int b, .int c])) [.l p'] := by
  obtain ⟨d, p1, hp1, e1, _, _⟩ := draw_ok hp (b := 4) (by decide) (by decide)
  have t0 : tBoo (eOp2 gEq (eCall MDraw [true, false] (aCons (eVar 0) (aCons (eC (.int 4)) (aNil)))) (eC (.int 0))) [.l true p] = .ok (decide (d = 0)) [.l true p1] := by get_elem_tactic_extensible
  by_cases h : d = 0
  · rw [decide_eq_true h] at t0
    obtain ⟨a, p2, hp2, e2, a0, a1⟩ := draw_ok hp1 (b := 7) (by decide) (by decide)
    obtain ⟨b, p3, hp3, e3, b0, b1⟩ := draw_ok hp2 (b := 7) (by decide) (by decide)
    obtain ⟨c, p4, hp4, e4, c0, c1⟩ := draw_ok hp3 (b := 2) (by decide) (by decide)
    refine ⟨a - 3, b - 3, c, p4, hp4, by omega, by omega, by omega, ?_⟩
    refine den_ret rfl (v := .v (.tuple [.int (a - 3), .int (b - 3), .int c])) (r := [.l true p4]) ?_ rfl rfl
    show gBound [.l true p] = _
    unfold gBound gBound_0
    exact retT t0 (ret_ (by get_elem_tactic_extensible))
  · rw [decide_eq_false h] at t0
    obtain ⟨x, p2, hp2, hx, e2⟩ := one_ok hp1 (xs := [.tuple [.int 0, .int 1, .int 1], .tuple [.int 1, .int (-1), .int 0], .tuple [.int 0, .int 0, .int 1], .tuple [.int 0, .int 2, .int 1], .tuple [.int 1, .int (-2), .int 0], .tuple [.int 0, .int 1, .int 0], .tuple [.int 1, .int 0, .int 0]]) (by simp) (by decide)
    obtain ⟨a, b, c, rfl, ha, hb, hc⟩ : ∃ a b c : Int, x = .tuple [.int a, .int b, .int c] ∧ (-3 ≤ a ∧ a ≤ 3) ∧ (-3 ≤ b ∧ b ≤ 3) ∧ (0 ≤ c ∧ c ≤ 1) := by
      simp only [List.mem_cons, List.not_mem_nil, or_false] at hx
      rcases hx with rfl | rfl | rfl | rfl | rfl | rfl | rfl <;> exact ⟨_, _, _, rfl, by decide, by decide, by decide⟩
    refine ⟨a, b, c, p2, hp2, ha, hb, hc, ?_⟩
    refine den_ret rfl (v := .v (.tuple [.int a, .int b, .int c])) (r := [.l true p2]) ?_ rfl rfl
    show gBound [.l true p] = _
    unfold gBound gBound_0 gBound_1
    exact (skipF t0).trans (ret_ (by get_elem_tactic_extensible))
theorem conds_ok {p : List PyData} (hp : PenL p) {kinds : Int} {menu : List Cnd} (hm : menu ≠ []) (hl : menu.length ≤ 5) (hk : kinds ≤ 2) (hc : ∀ c ∈ menu, CndP (if kinds > 0 then kinds else 1) c) : ∃ (cs : List Cnd) (p' : List PyData), PenL p' ∧ cs.length ≤ 2 ∧ (∀ c ∈ cs, CndP kinds c) ∧ cs.Pairwise (fun x y => crk x < crk y) ∧
    MConds [.l p, .d (.int kinds), .d (.list (menu.map cndD))] = .ok (.v (.tuple (cs.map cndD))) [.l p', .d (.int kinds), .d (.list (menu.map cndD))] := by
  obtain ⟨x, p1, hp1, hx, e1⟩ := one_ok hp (xs := [.int 0, .int 1, .int 1, .int 1, .int 2]) (by simp) (by decide)
  obtain ⟨n, rfl, hn⟩ : ∃ n : Int, x = .int n ∧ (0 ≤ n ∧ n ≤ 2) := by
    simp only [List.mem_cons, List.not_mem_nil, or_false] at hx
    rcases hx with rfl | rfl | rfl | rfl | rfl <;> exact ⟨_, rfl, by decide⟩
  have s0 : gConds_0 [.l true p, .d (.int kinds), .d (.list (menu.map cndD)), .u, .u] = .ok .next [.l true p, .d (.int kinds), .d (.list (menu.map cndD)), .l false [], .u] := by
    unfold gConds_0
    get_elem_tactic_extensible
  have cnt : iRange1 (eCall MOne [true, false] (aCons (eVar 0) (aCons (eLst (aCons (eC (.int 0)) (aCons (eC (.int 1)) (aCons (eC (.int 1)) (aCons (eC (.int 1)) (aCons (eC (.int 2)) (aNil))))))) (aNil)))) [.l true p, .d (.int kinds), .d (.list (menu.map cndD)), .l false [], .u]
      = .ok (rangeD 0 n.toNat) [.l true p1, .d (.int kinds), .d (.list (menu.map cndD)), .l false [], .u] := rng_ (by get_elem_tactic_extensible) (by omega) (by omega)
  have loop := for_inv (g := gNm 4) (body := gConds_b1) (fun i r => ∃ (p : List PyData) (cs : List Cnd) (z : Sl), PenL p ∧ cs.length = i ∧ (∀ c ∈ cs, c ∈ menu) ∧ (z = .u ∨ ∃ d, z = .d d) ∧ r = [.l true p, .d (.int kinds), .d (.list (menu.map cndD)), .l false (cs.map cndD), z]) (rangeD 0 n.toNat) 0
    [.l true p1, .d (.int kinds), .d (.list (menu.map cndD)), .l false [], .u] ⟨p1, [], .u, hp1, rfl, fun _ h => (nomatch h), .inl rfl, rfl⟩ ?_
  · obtain ⟨r', el, p2, cs, z, hp2, hlen, hcs, _, rfl⟩ := loop
    rw [rangeD_len, Nat.zero_add] at hlen
    have s1 : gConds_1 [.l true p, .d (.int kinds), .d (.list (menu.map cndD)), .l false [], .u] = .ok .next [.l true p2, .d (.int kinds), .d (.list (menu.map cndD)), .l false (cs.map cndD), z] := by
      unfold gConds_1 sFor
      rw [cnt]
      exact el
    by_cases hk0 : kinds > 0
    · have sm : ∀ c ∈ cs, csm c := fun c h => (hc c (hcs c h)).sm (by rw [if_pos hk0]; omega)
      have gs := gSSet_ok (cs := cs) (by omega) sm
      refine ⟨ssC cs, p2, hp2, ?_, fun c h => ?_, ssC_up sm, ?_⟩
      · have : ∀ (l : List Cnd), (ssC l).length ≤ l.length := fun l => by
          induction l with
          | nil => exact Nat.le_refl _
          | cons c l ih =>
            have ins : ∀ (m : List Cnd), (insC c m).length ≤ m.length + 1 := fun m => by
              induction m with
              | nil => exact Nat.le_refl _
              | cons d m ihm =>
                unfold insC
                split
                · exact Nat.le_refl _
                · split
                  · exact Nat.le_succ _
                  · exact Nat.succ_le_succ ihm
            exact Nat.le_trans (ins _) (Nat.succ_le_succ ih)
        have := this cs
        omega
      · have := hc c (hcs c (ssC_mem.mp h))
        rw [if_pos hk0] at this
        exact this
      · refine den_ret rfl (v := .v (.tuple ((ssC cs).map cndD))) (r := [.l true p2, .d (.int kinds), .d (.list (menu.map cndD)), .l false (cs.map cndD), z]) ?_ rfl rfl
        show gConds [.l true p, .d (.int kinds), .d (.list (menu.map cndD)), .u, .u] = _
        unfold gConds gConds_2
        have t : tBoo (eOp2 gGt (eVar 1) (eC (.int 0))) [.l true p2, .d (.int kinds), .d (.list (menu.map cndD)), .l false (cs.map cndD), z] = .ok true [.l true p2, .d (.int kinds), .d (.list (menu.map cndD)), .l false (cs.map cndD), z] := by
          refine (tb_ (ed2 (evV rfl) evC gGt_int)).trans ?_
          rw [decide_eq_true hk0]
        refine (seqN s0).trans ((seqN s1).trans (ret_ ((if_ t).trans ?_)))
        show eOp1 gTuple (eOp1 gSSet (eVar 3)) _ = _
        exact ev1v (ev1n (evL rfl) rfl gs) rfl gTuple_lst
    · refine ⟨[], p2, hp2, Nat.zero_le _, fun _ h => (nomatch h), .nil, ?_⟩
      refine den_ret rfl (v := .v (.tuple [])) (r := [.l true p2, .d (.int kinds), .d (.list (menu.map cndD)), .l false (cs.map cndD), z]) ?_ rfl rfl
      show gConds [.l true p, .d (.int kinds), .d (.list (menu.map cndD)), .u, .u] = _
      unfold gConds gConds_2
      have t : tBoo (eOp2 gGt (eVar 1) (eC (.int 0))) [.l true p2, .d (.int kinds), .d (.list (menu.map cndD)), .l false (cs.map cndD), z] = .ok false [.l true p2, .d (.int kinds), .d (.list (menu.map cndD)), .l false (cs.map cndD), z] := by
        refine (tb_ (ed2 (evV rfl) evC gGt_int)).trans ?_
        rw [decide_eq_false (by omega)]
      refine (seqN s0).trans ((seqN s1).trans (ret_ ((if_ t).trans ?_)))
      rfl
  · rintro i d r hi ⟨p, cs, z, hp, hlen, hcs, hz, rfl⟩
    have hi2 := (at_rangeD hi).1
    obtain ⟨x, p2, hp2, hx, e2⟩ := one_ok hp (xs := menu.map cndD) (by simpa using hm) (by rw [List.length_map]; omega)
    obtain ⟨c, hcm, rfl⟩ := List.mem_map.mp hx
    refine ⟨[(4, d)], [.l true p2, .d (.int kinds), .d (.list (menu.map cndD)), .l false ((cs ++ [c]).map cndD), .d d], rfl, by rcases hz with rfl | ⟨z, rfl⟩ <;> rfl, .inl ?_, p2, cs ++ [c], .d d, hp2, by rw [List.length_append, hlen, Nat.zero_add]; rfl, fun y hy => ?_, .inr ⟨_, rfl⟩, rfl⟩
    · show gConds_b1 [.l true p, .d (.int kinds), .d (.list (menu.map cndD)), .l false (cs.map cndD), .d d] = _
      unfold gConds_b1
      refine app_E (r1 := [.l true p2, .d (.int kinds), .d (.list (menu.map cndD)), .l false (cs.map cndD), .d d]) rfl (by get_elem_tactic_extensible) rfl (Nat.lt_of_lt_of_le (show (cs.map cndD).length < 10 by rw [List.length_map]; omega) (by decide)) ?_
      rw [List.map_append]
      rfl
    · rcases List.mem_append.mp hy with h | h
      · exact hcs y h
      · rw [List.mem_singleton.mp h]; exact hcm
theorem ints_of {lo : Int} {n : Nat} {es : List PyData} (h : es.Sublist (rangeD lo n)) : ∃ ks : List Int, es = ks.map .int ∧ ks.length ≤ n ∧ (∀ k ∈ ks, lo ≤ k ∧ k < lo + n) ∧ ks.Pairwise (· < ·) := by
  unfold rangeD at h
  obtain ⟨is, hi, rfl⟩ := List.sublist_map_iff.mp h
  refine ⟨is.map fun i => lo + (i : Nat), by rw [List.map_map]; rfl, by have := hi.length_le; rw [List.length_range] at this; rw [List.length_map]; exact this, fun k hk => ?_, ?_⟩
  · obtain ⟨i, hi', rfl⟩ := List.mem_map.mp hk
    have := List.mem_range.mp (hi.subset hi')
    exact ⟨by omega, by omega⟩
  · rw [List.pairwise_map]
    refine List.Pairwise.imp (R := (· < ·)) (fun h => by omega) (List.Pairwise.sublist hi List.pairwise_lt_range)
theorem rule_ok {p : List PyData} (hp : PenL p) {mny kinds : Int} {menu : List Cnd} (h2 : 2 ≤ mny ∧ mny ≤ 5) (hk : 0 ≤ kinds ∧ kinds ≤ 2) (hm : menu ≠ []) (hl : menu.length ≤ 5) (hc : ∀ c ∈ menu, CndP (if kinds > 0 then kinds else 1) c) : ∃ (d : PyData) (p' : List PyData), PenL p' ∧ RuleP mny kinds d ∧
    MRule [.l p, .d (.int mny), .d (.int kinds), .d (.list (menu.map cndD))] = .ok (.v d) [.l p', .d (.int mny), .d (.int kinds), .d (.list (menu.map cndD))] := by
  obtain ⟨s, p1, hp1, e1, s0, s1⟩ := draw_ok hp (b := mny - 1) (by omega) (by have := log_le (k := mny - 1) (n := 7) (by omega) (by decide); omega)
  obtain ⟨t, p2, hp2, e2, t0, t1⟩ := draw_ok hp1 (b := mny - s - 1) (by omega) (by have := log_le (k := mny - s - 1) (n := 7) (by omega) (by decide); omega)
  have a0 : gRule_0 [.l true p, .d (.int mny), .d (.int kinds), .d (.list (menu.map cndD)), .u, .u, .u, .u] = .ok .next [.l true p1, .d (.int mny), .d (.int kinds), .d (.list (menu.map cndD)), .d (.int s), .u, .u, .u] := by
    unfold gRule_0
    get_elem_tactic_extensible
  have a1 : gRule_1 [.l true p1, .d (.int mny), .d (.int kinds), .d (.list (menu.map cndD)), .d (.int s), .u, .u, .u] = .ok .next [.l true p2, .d (.int mny), .d (.int kinds), .d (.list (menu.map cndD)), .d (.int s), .d (.int (s + 1 + t)), .u, .u] := by
    unfold gRule_1
    get_elem_tactic_extensible
  obtain ⟨es, p3, hp3, hsub, ec⟩ := comp_envT (j := 7) (t := tBoo (eOp2 gEq (eCall MDraw [true, false] (aCons (eVar 0) (aCons (eC (.int 3)) (aNil)))) (eC (.int 0)))) (s := iRange1 (eVar 2)) (items := rangeD 0 kinds.toNat)
    (env := fun p => [.l true p, .d (.int mny), .d (.int kinds), .d (.list (menu.map cndD)), .d (.int s), .d (.int (s + 1 + t)), .u, .u]) (fun p => rng_ (evV rfl) hk.1 (by omega)) (by rw [rangeD_len]; exact few1 (by omega)) (fun _ => rfl) (fun _ _ => rfl) (fun _ _ => rfl) (fun _ _ => rfl) (fun p d _ hp => by
      obtain ⟨x, p', hp', ex, _, _⟩ := draw_ok hp (b := 3) (by decide) (by decide)
      refine ⟨decide (x = 0), p', hp', ?_⟩
      show tBoo _ [.l true p, .d (.int mny), .d (.int kinds), .d (.list (menu.map cndD)), .d (.int s), .d (.int (s + 1 + t)), .u, .d d] = _
      get_elem_tactic_extensible) hp2
  obtain ⟨ks, rfl, hel, hks, hka⟩ := ints_of hsub
  have a2 : gRule_2 [.l true p2, .d (.int mny), .d (.int kinds), .d (.list (menu.map cndD)), .d (.int s), .d (.int (s + 1 + t)), .u, .u] = .ok .next [.l true p3, .d (.int mny), .d (.int kinds), .d (.list (menu.map cndD)), .d (.int s), .d (.int (s + 1 + t)), .d (.tuple (ks.map .int)), .u] := by
    unfold gRule_2
    exact set_vE (ev1v ec rfl gTuple_lst) rfl rfl
  obtain ⟨cs, p4, hp4, hcl, hcs, hca, e4⟩ := conds_ok hp3 hm hl hk.2 hc
  refine ⟨.tuple [.int s, .int (s + 1 + t), .tuple (cs.map cndD), .tuple (ks.map .int)], p4, hp4, ⟨s, s + 1 + t, cs, ks, rfl, by omega, hcl, hcs, by omega, fun k h => by have := hks k h; omega, hca, hka⟩, ?_⟩
  refine den_ret rfl (v := .v (.tuple [.int s, .int (s + 1 + t), .tuple (cs.map cndD), .tuple (ks.map .int)])) (r := [.l true p4, .d (.int mny), .d (.int kinds), .d (.list (menu.map cndD)), .d (.int s), .d (.int (s + 1 + t)), .d (.tuple (ks.map .int)), .u]) ?_ rfl rfl
  show gRule [.l true p, .d (.int mny), .d (.int kinds), .d (.list (menu.map cndD)), .u, .u, .u, .u] = _
  unfold gRule gRule_3
  refine (seqN a0).trans ((seqN a1).trans ((seqN a2).trans (ret_ ?_)))
  get_elem_tactic_extensible
theorem sent_ok {mny kinds : Int} {rules : List PyData} (h2 : 1 ≤ mny ∧ mny ≤ 1000) (h : ∀ r ∈ rules, RuleP mny kinds r) : ∃ rs, ∀ k : Int, MSent [.d (.int mny), .d (.tuple rules), .d (.int k)] = .ok (.v (.int (sentV mny rs k))) [.d (.int mny), .d (.tuple rules), .d (.int k)] := by
  have : ∃ rs, rulesS mny rules = some rs := by
    clear h2
    induction rules with
    | nil => exact ⟨[], rfl⟩
    | cons r rules ih =>
      obtain ⟨rs, e⟩ := ih fun x hx => h x (List.mem_cons_of_mem _ hx)
      obtain ⟨s, t, cs, ks, rfl, h3, _, _, hl, _, _, _⟩ := (h r List.mem_cons_self).ex
      refine ⟨(s, t, ks) :: rs, ?_⟩
      have e1 : ruleS mny (.tuple [.int s, .int t, .tuple (cs.map cndD), .tuple (ks.map .int)]) = some (s, t, ks) := by
        show (match ints? (ks.map .int) with | some ns => if (0 ≤ s ∧ s < mny) ∧ (0 ≤ t ∧ t < mny) ∧ ns.length ≤ 1000 then some (s, t, ns) else none | none => none) = _
        rw [ints?_map]
        exact if_pos ⟨by omega, by omega, by omega⟩
      show (match ruleS mny _, rulesS mny rules with | some r, some rs => some (r :: rs) | _, _ => none) = _
      rw [e1, e]
  obtain ⟨rs, e⟩ := this
  refine ⟨rs, fun k => ?_⟩
  show (if 1 ≤ mny ∧ mny ≤ 1000 then match rulesS mny rules with | some rs => FO.ok (.v (.int (sentV mny rs k))) [.d (.int mny), .d (.tuple rules), .d (.int k)] | none => .bad else .bad) = _
  rw [if_pos h2, e]
end PD

/-! PDProtB: drawn protocols and broadcasts. -/
namespace PD
open PySem PySem.Spec PyProof.Rows L2
theorem lg7 {k : Int} (h : 0 ≤ k ∧ k ≤ 100) : k.natAbs.log2 < 9000 := by
  have := log_le (k := k) (n := 7) (by omega) (by decide)
  omega
theorem callP3 {M : List Arg → FO} {f f' f'' : PEn → Out Val} {i : Nat} {q : Bool} {p p' : List PyData} {v : Val} {d d' d'' w : PyData} {r r2 r3 : PEn} (h0 : r[i]? = some (.l q p)) (hf : f r = .ok (.v d) r) (hf' : f' r = .ok (.v d') r) (hf'' : f'' r = .ok v r) (hz : v.fz r = some (d'', r2)) (h2 : r2[i]? = some (.l q p))
    (hM : M [.l p, .d d, .d d', .d d''] = .ok (.v w) [.l p', .d d, .d d', .d d'']) (he : r2.set i (.l q p') = r3) : eCall M [true, false, false, false] (aCons (eVar i) (aCons f (aCons f' (aCons f'' aNil)))) r = .ok (.v w) r3 := by
  subst he
  unfold eCall
  rw [aC (evL h0) (aC hf (aC hf' (aC hf'' aN)))]
  show callD M [true, false, false, false] [.b i, .v d, .v d', v] r = _
  have e1 : ∀ x : PyData, Val.fz r (.v x) = some (x, r) := fun _ => rfl
  simp only [callD, prep, prep1, h0, e1, hz, places, apart, List.contains_nil, Bool.not_false, Bool.and_true, if_true, argsOf, argOf, h2, hM, okB, backs, upB_one h2, Rs.val]
theorem rng2_ {f g : PEn → Out Val} {r r1 r2 : PEn} {m n : Int} (h : f r = .ok (.v (.int m)) r1) (h2 : g r1 = .ok (.v (.int n)) r2) (hm : -1000 ≤ m ∧ m ≤ 1000) (hn : -1000 ≤ n ∧ n ≤ 1000) : iRange2 f g r = .ok (rangeD m (n - m).toNat) r2 := by
  unfold iRange2
  rw [h]
  show Out.bind (g r1) _ = _
  rw [h2]
  show (if n ≤ big ∧ -big ≤ n ∧ m ≤ big ∧ -big ≤ m then Out.ok (rangeD m (n - m).toNat) r2 else .bad) = _
  rw [if_pos ⟨by unfold big; omega, by unfold big; omega, by unfold big; omega, by unfold big; omega⟩]
theorem gMax1_ints {ns : List Int} (h : ns ≠ []) : gMax1 (.list (ns.map .int)) = some (.v (.int (mostI ns))) := by
  cases ns with
  | nil => exact absurd rfl h
  | cons n ns =>
    show (ints? ((n :: ns).map .int)).map _ = _
    rw [ints?_map]
    rfl
theorem gEq_nilI (ns : List Int) : gEq (.list (ns.map .int)) (.list []) = some (.v (.bool ns.isEmpty)) := by
  rw [gEq_sh rfl (shaped_ints _) rfl, eqv_nil]
abbrev menuL (menu : List Cnd) (z : Sl) : Prop := z = .l false (menu.map cndD) ∨ z = .d (.list (menu.map cndD))
theorem one_int {p : List PyData} (hp : PenL p) {ns : List Int} (h : ns ≠ []) (hl : ns.length < 4096) : ∃ (n : Int) (p' : List PyData), PenL p' ∧ n ∈ ns ∧ MOne [.l p, .d (.list (ns.map .int))] = .ok (.v (.int n)) [.l p', .d (.list (ns.map .int))] := by
  obtain ⟨x, p', hp', hx, e⟩ := one_ok hp (xs := ns.map .int) (by simpa using h) (by rw [List.length_map]; exact hl)
  obtain ⟨n, hn, rfl⟩ := List.mem_map.mp hx
  exact ⟨n, p', hp', hn, e⟩
theorem free_u {r : PEn} {i : Nat} {z : Sl} (h : r[i]? = some z) (hz : z = .u ∨ ∃ d, z = .d d) : free r i = true := by
  unfold free
  rw [h]
  rcases hz with rfl | ⟨d, rfl⟩ <;> rfl
def Loc (z : Sl) : Prop := z = .u ∨ (∃ d, z = .d d) ∨ ∃ xs, z = .l false xs
theorem Loc.free {z : Sl} (hz : Loc z) {r : PEn} {i : Nat} (h : r[i]? = some z) : free r i = true := by
  unfold PD.free
  rw [h]
  rcases hz with rfl | ⟨d, rfl⟩ | ⟨xs, rfl⟩ <;> rfl
theorem Loc.u : Loc .u := .inl rfl
theorem Loc.d {d : PyData} : Loc (.d d) := .inr (.inl ⟨d, rfl⟩)
theorem Loc.l {xs : List PyData} : Loc (.l false xs) := .inr (.inr ⟨xs, rfl⟩)
theorem Loc.frees {z : Sl} (hz : Loc z) {r : PEn} {i : Nat} {d : PyData} (h : r[i]? = some z) : frees [(i, d)] r = true := by
  show PD.free r i && true = true
  rw [hz.free h]
  rfl
abbrev envP (p : List PyData) (z1 : Sl) (size mny kinds : Int) (z5 z6 z7 z9 z10 : Sl) : PEn := [.l true p, z1, .d (.int size), .d (.int mny), .d (.int kinds), z5, z6, z7, .u, z9, z10, .u]
theorem menu_ok {p : List PyData} (hp : PenL p) {z1 : Sl} {size mny kinds : Int} (hk : 0 ≤ kinds ∧ kinds ≤ 2) : ∃ (menu : List Cnd) (p' : List PyData) (z6 : Sl), PenL p' ∧ menu ≠ [] ∧ menu.length ≤ 4 ∧ (∀ c ∈ menu, CndP (if kinds > 0 then kinds else 1) c) ∧ Loc z6 ∧
    gProto_2 (envP p z1 size mny kinds (.l false []) .u .u .u .u) = .ok .next (envP p' z1 size mny kinds (.l false (menu.map cndD)) z6 .u .u .u) := by
  obtain ⟨n, p1, hp1, e1, n0, n1⟩ := draw_ok hp (b := 4) (by decide) (by decide)
  have cnt : iRange1 (eOp2 gAdd (eC (.int 1)) (eCall MDraw [true, false] (aCons (eVar 0) (aCons (eC (.int 4)) (aNil))))) (envP p z1 size mny kinds (.l false []) .u .u .u .u) = .ok (rangeD 0 (1 + n).toNat) (envP p1 z1 size mny kinds (.l false []) .u .u .u .u) := rng_ (by get_elem_tactic_extensible) (by omega) (by omega)
  have loop := for_inv (g := gNm 6) (body := gProto_b2) (fun i r => ∃ (p : List PyData) (cs : List Cnd) (z : Sl), PenL p ∧ cs.length = i ∧ (∀ c ∈ cs, CndP (if kinds > 0 then kinds else 1) c) ∧ Loc z ∧ r = envP p z1 size mny kinds (.l false (cs.map cndD)) z .u .u .u) (rangeD 0 (1 + n).toNat) 0
    (envP p1 z1 size mny kinds (.l false []) .u .u .u .u) ⟨p1, [], .u, hp1, rfl, fun _ h => (nomatch h), .u, rfl⟩ ?_
  · obtain ⟨r', el, p2, cs, z, hp2, hlen, hcs, hz, rfl⟩ := loop
    rw [rangeD_len, Nat.zero_add] at hlen
    refine ⟨cs, p2, z, hp2, fun h => ?_, by omega, hcs, hz, ?_⟩
    · rw [h] at hlen
      have : (0 : Nat) = (1 + n).toNat := hlen
      omega
    · unfold gProto_2 sFor
      rw [cnt]
      exact el
  · rintro i d r hi ⟨p, cs, z, hp, hlen, hcs, hz, rfl⟩
    have hi2 := (at_rangeD hi).1
    have gm : gMax2 (.int 1) (.int kinds) = some (.v (.int (if kinds > 1 then kinds else 1))) := rfl
    obtain ⟨k, p2, hp2, e2, k0, k1⟩ := draw_ok hp (b := if kinds > 1 then kinds else 1) (by split <;> omega) (lg7 (by split <;> omega))
    obtain ⟨a, b, c, p3, hp3, ha, hb, hc, e3⟩ := bound_ok hp2
    refine ⟨[(6, d)], envP p3 z1 size mny kinds (.l false ((cs ++ [(k, a, b, c)]).map cndD)) (.d d) .u .u .u, rfl, hz.frees rfl, .inl ?_, p3, cs ++ [(k, a, b, c)], .d d, hp3, by rw [List.length_append, hlen, Nat.zero_add]; rfl, fun y hy => ?_, .d, rfl⟩
    · show gProto_b2 (envP p z1 size mny kinds (.l false (cs.map cndD)) (.d d) .u .u .u) = _
      unfold gProto_b2
      refine app_E (r1 := envP p3 z1 size mny kinds (.l false (cs.map cndD)) (.d d) .u .u .u) (d := cndD (k, a, b, c)) rfl ?_ rfl (Nat.lt_of_lt_of_le (show (cs.map cndD).length < 10 by rw [List.length_map]; omega) (by decide)) ?_
      · show eTup _ _ = Out.ok (Val.v (.tuple [.int k, .tuple [.int a, .int b, .int c]])) _
        get_elem_tactic_extensible
      · rw [List.map_append]
        rfl
    · rcases List.mem_append.mp hy with h | h
      · exact hcs y h
      · rw [List.mem_singleton.mp h]
        exact ⟨⟨k0, by revert k1; split <;> split <;> omega⟩, ha, hb, hc⟩
theorem starts_ok {p : List PyData} (hp : PenL p) {z1 z5 z6 : Sl} {size mny kinds : Int} (h2 : 2 ≤ mny ∧ mny ≤ 5) : ∃ (st : List Int) (p' : List PyData), PenL p' ∧ st.length ≤ 4 ∧ (∀ x ∈ st, 1 ≤ x ∧ x < mny) ∧ st.Pairwise (· < ·) ∧
    gProto_3 (envP p z1 size mny kinds z5 z6 .u .u .u) = .ok .next (envP p' z1 size mny kinds z5 z6 (.l false (st.map .int)) .u .u) := by
  obtain ⟨es, p3, hp3, hsub, ec⟩ := comp_envT (j := 8) (t := tBoo (eOp2 gEq (eCall MDraw [true, false] (aCons (eVar 0) (aCons (eC (.int 3)) (aNil)))) (eC (.int 0)))) (s := iRange2 (eC (.int 1)) (eVar 3)) (items := rangeD 1 (mny - 1).toNat)
    (env := fun p => envP p z1 size mny kinds z5 z6 .u .u .u) (fun p => rng2_ evC (evV rfl) (by decide) (by omega)) (by rw [rangeD_len]; exact few1 (by omega)) (fun _ => rfl) (fun _ _ => rfl) (fun _ _ => rfl) (fun _ _ => rfl) (fun p d _ hp => by
      obtain ⟨x, p', hp', ex, _, _⟩ := draw_ok hp (b := 3) (by decide) (by decide)
      refine ⟨decide (x = 0), p', hp', ?_⟩
      show tBoo _ [.l true p, z1, .d (.int size), .d (.int mny), .d (.int kinds), z5, z6, .u, .d d, .u, .u, .u] = _
      get_elem_tactic_extensible) hp
  obtain ⟨st, rfl, hl, hm, ha⟩ := ints_of hsub
  refine ⟨st, p3, hp3, by omega, fun x hx => by have := hm x hx; omega, ha, ?_⟩
  unfold gProto_3
  exact set_nE ec rfl rfl
theorem rules_step {p : List PyData} (hp : PenL p) {z1 z5 z6 z7 z10 : Sl} {size mny kinds : Int} {menu : List Cnd} {rules : List PyData} (h1 : Loc z1) (h10 : Loc z10) (h5 : menuL menu z5) (h2 : 2 ≤ mny ∧ mny ≤ 5) (hk : 0 ≤ kinds ∧ kinds ≤ 2) (hm : menu ≠ []) (hl : menu.length ≤ 5) (hc : ∀ c ∈ menu, CndP (if kinds > 0 then kinds else 1) c)
    (hr : rules.length ≤ 100) (hru : ∀ r ∈ rules, RuleP mny kinds r) : ∃ (p' : List PyData) (z1' z5' z10' : Sl) (rules' : List PyData), PenL p' ∧ Loc z1' ∧ Loc z10' ∧ menuL menu z5' ∧ rules'.length ≤ rules.length + 1 ∧ (∀ r ∈ rules', RuleP mny kinds r) ∧
    gProto_b5 (envP p z1 size mny kinds z5 z6 z7 (.d (.tuple rules)) z10) = .ok .next (envP p' z1' size mny kinds z5' z6 z7 (.d (.tuple rules')) z10') := by
  obtain ⟨d, p1, hp1, hd, e1⟩ := rule_ok hp h2 hk hm hl hc
  have s0 : sSet 10 (eCall MRule [true, false, false, false] (aCons (eVar 0) (aCons (eVar 3) (aCons (eVar 4) (aCons (eVar 5) (aNil)))))) (envP p z1 size mny kinds z5 z6 z7 (.d (.tuple rules)) z10)
      = .ok .next (envP p1 z1 size mny kinds (.d (.list (menu.map cndD))) z6 z7 (.d (.tuple rules)) (.d d)) := by
    rcases h5 with rfl | rfl
    · exact set_vE (callP3 (q := true) (p := p) rfl (evV rfl) (evV rfl) (evL rfl) rfl rfl e1 rfl) (h10.free rfl) rfl
    · exact set_vE (callP3 (q := true) (p := p) rfl (evV rfl) (evV rfl) (evV rfl) rfl rfl e1 rfl) (h10.free rfl) rfl
  have hru' : ∀ r ∈ rules ++ [d], RuleP mny kinds r := fun r h => by
    rcases List.mem_append.mp h with h | h
    · exact hru r h
    · rw [List.mem_singleton.mp h]; exact hd
  have ga : gAdd (.tuple rules) (.tuple [d]) = some (.v (.tuple (rules ++ [d]))) := gAdd_tup (few1 (by show rules.length + 1 ≤ _; omega))
  obtain ⟨rs, ers⟩ := sent_ok (mny := mny) (kinds := kinds) ⟨by omega, by omega⟩ hru'
  obtain ⟨ws, hws⟩ : ∃ ws : List Int, ws = ((List.range kinds.toNat).map fun i => sentV mny rs (0 + (i : Nat))) := ⟨_, rfl⟩
  have hwl : ws.length ≤ 2 := by
    rw [hws, List.length_map, List.length_range]
    omega
  have s1 : sSet 1 (eComp (iRange1 (eVar 4)) [11] (gNm 11) (tYesD) (eCall MSent [false, false, false] (aCons (eVar 3) (aCons (eOp2 gAdd (eVar 9) (eTup (aCons (eVar 10) (aNil)))) (aCons (eVar 11) (aNil)))))) (envP p1 z1 size mny kinds (.d (.list (menu.map cndD))) z6 z7 (.d (.tuple rules)) (.d d))
      = .ok .next (envP p1 (.l false (ws.map .int)) size mny kinds (.d (.list (menu.map cndD))) z6 z7 (.d (.tuple rules)) (.d d)) := by
    have c := comp_map (own := [11]) (g := gNm 11) (f := eCall MSent [false, false, false] (aCons (eVar 3) (aCons (eOp2 gAdd (eVar 9) (eTup (aCons (eVar 10) (aNil)))) (aCons (eVar 11) (aNil))))) (w := fun d => match d with | .int i => .int (sentV mny rs i) | d => d) (s := iRange1 (eVar 4)) (items := rangeD 0 kinds.toNat)
      (r := envP p1 z1 size mny kinds (.d (.list (menu.map cndD))) z6 z7 (.d (.tuple rules)) (.d d)) (r0 := envP p1 z1 size mny kinds (.d (.list (menu.map cndD))) z6 z7 (.d (.tuple rules)) (.d d)) (rng_ (evV rfl) hk.1 (by omega)) (by rw [rangeD_len]; exact few1 (by omega)) rfl rfl (fun x hx => by
        obtain ⟨i, hi, rfl⟩ := mem_rangeD hx
        refine ⟨[(11, .int (i : Nat))], [.l true p1, z1, .d (.int size), .d (.int mny), .d (.int kinds), .d (.list (menu.map cndD)), z6, z7, .u, .d (.tuple rules), .d d, .d (.int (i : Nat))], rfl, rfl, rfl, ?_, rfl⟩
        exact call_d3v (evV rfl) (ev2v (evV rfl) (tup_ (aC (evV rfl) aN) rfl (show 1 ≤ few by decide)) rfl rfl ga) (evV rfl) (ers _))
    refine set_nE c (h1.free rfl) ?_
    subst hws
    show envP _ _ _ _ _ _ _ _ _ _ = _
    unfold rangeD
    rw [List.map_map, List.map_map]
    rfl
  have gn : gAdd (.list (ws.map .int)) (.list [.int 0]) = some (.n ((ws ++ [0]).map .int)) := by
    rw [gAdd_lst (few1 (by rw [List.length_map]; show ws.length + 1 ≤ _; omega)), List.map_append]
    rfl
  have t : tBoo (eOp2 gLt (eOp1 gMax1 (eOp2 gAdd (eVar 1) (eLst (aCons (eC (.int 0)) (aNil))))) (eC (.int 2))) (envP p1 (.l false (ws.map .int)) size mny kinds (.d (.list (menu.map cndD))) z6 z7 (.d (.tuple rules)) (.d d))
      = .ok (decide (mostI (ws ++ [0]) < 2)) (envP p1 (.l false (ws.map .int)) size mny kinds (.d (.list (menu.map cndD))) z6 z7 (.d (.tuple rules)) (.d d)) :=
    tb_ (ev2v (ev1v (ev2n (evL rfl) (lst_ (aC evC aN) rfl (by decide)) rfl rfl gn) rfl (gMax1_ints (by simp))) evC rfl rfl gLt_int)
  by_cases hlt : mostI (ws ++ [0]) < 2
  · rw [decide_eq_true hlt] at t
    refine ⟨p1, .l false (ws.map .int), .d (.list (menu.map cndD)), .d d, rules ++ [d], hp1, .l, .d, .inr rfl, by rw [List.length_append]; exact Nat.le_refl _, hru', ?_⟩
    unfold gProto_b5
    exact (seqN s0).trans ((seqN s1).trans ((ifT t).trans (set_vE (ev2v (evV rfl) (tup_ (aC (evV rfl) aN) rfl (show 1 ≤ few by decide)) rfl rfl ga) rfl rfl)))
  · rw [decide_eq_false hlt] at t
    refine ⟨p1, .l false (ws.map .int), .d (.list (menu.map cndD)), .d d, rules, hp1, .l, .d, .inr rfl, Nat.le_succ _, hru, ?_⟩
    unfold gProto_b5
    exact (seqN s0).trans ((seqN s1).trans ((ifF t).trans rfl))
theorem rules_ok {p : List PyData} (hp : PenL p) {z1 z6 z7 : Sl} {size mny kinds : Int} {menu : List Cnd} (h1 : Loc z1) (h6 : Loc z6) (h2 : 2 ≤ mny ∧ mny ≤ 5) (hk : 0 ≤ kinds ∧ kinds ≤ 2) (hs : 0 ≤ size ∧ size ≤ 8) (hm : menu ≠ []) (hl : menu.length ≤ 5) (hc : ∀ c ∈ menu, CndP (if kinds > 0 then kinds else 1) c) :
    ∃ (p' : List PyData) (z1' z5' z6' z10' : Sl) (rules' : List PyData), PenL p' ∧ (rules'.length : Int) ≤ size ∧ (∀ r ∈ rules', RuleP mny kinds r) ∧
    gProto_5 (envP p z1 size mny kinds (.l false (menu.map cndD)) z6 z7 (.d (.tuple [])) .u) = .ok .next (envP p' z1' size mny kinds z5' z6' z7 (.d (.tuple rules')) z10') := by
  obtain ⟨n, p1, hp1, e1, n0, n1⟩ := draw_ok hp (b := size + 1) (by omega) (by have := log_le (k := size + 1) (n := 7) (by omega) (by decide); omega)
  have cnt : iRange1 (eCall MDraw [true, false] (aCons (eVar 0) (aCons (eOp2 gAdd (eVar 2) (eC (.int 1))) (aNil)))) (envP p z1 size mny kinds (.l false (menu.map cndD)) z6 z7 (.d (.tuple [])) .u) = .ok (rangeD 0 n.toNat) (envP p1 z1 size mny kinds (.l false (menu.map cndD)) z6 z7 (.d (.tuple [])) .u) := rng_ (by get_elem_tactic_extensible) (by omega) (by omega)
  have loop := for_inv (g := gNm 6) (body := gProto_b5) (fun i r => ∃ (p : List PyData) (z1 z5 z6 z10 : Sl) (rules : List PyData), PenL p ∧ Loc z1 ∧ Loc z6 ∧ Loc z10 ∧ menuL menu z5 ∧ rules.length ≤ i ∧ (∀ r ∈ rules, RuleP mny kinds r) ∧ r = envP p z1 size mny kinds z5 z6 z7 (.d (.tuple rules)) z10) (rangeD 0 n.toNat) 0
    (envP p1 z1 size mny kinds (.l false (menu.map cndD)) z6 z7 (.d (.tuple [])) .u) ⟨p1, z1, _, z6, .u, [], hp1, h1, h6, .u, .inl rfl, Nat.le_refl _, fun _ h => (nomatch h), rfl⟩ ?_
  · obtain ⟨r', el, p2, z1', z5', z6', z10', rules', hp2, _, _, _, _, hlen, hru, rfl⟩ := loop
    rw [rangeD_len, Nat.zero_add] at hlen
    refine ⟨p2, z1', z5', z6', z10', rules', hp2, by omega, hru, ?_⟩
    unfold gProto_5 sFor
    rw [cnt]
    exact el
  · rintro i d r hi ⟨p, z1, z5, z6, z10, rules, hp, h1, h6, h10, h5, hlen, hru, rfl⟩
    have hi2 := (at_rangeD hi).1
    obtain ⟨p', z1', z5', z10', rules', hp', h1', h10', h5', hlen', hru', e⟩ := rules_step hp (z6 := .d d) (z7 := z7) (size := size) h1 h10 h5 h2 hk hm hl hc (by omega) hru
    exact ⟨[(6, d)], _, rfl, h6.frees rfl, .inl e, p', z1', z5', .d d, z10', rules', hp', h1', .d, h10', h5', by omega, hru', rfl⟩
theorem proto_ok {p : List PyData} (hp : PenL p) {most size : Int} (hm : 2 ≤ most ∧ most ≤ 5) (hs : 0 ≤ size ∧ size ≤ 8) : ∃ (d : PyData) (p' : List PyData), PenL p' ∧ ProtoP d ∧ MProto [.l p, .d (.int most), .d (.int size)] = .ok (.v d) [.l p', .d (.int most), .d (.int size)] := by
  obtain ⟨x, p1, hp1, e1, x0, x1⟩ := draw_ok hp (b := most - 1) (by omega) (lg7 (by omega))
  obtain ⟨kinds, p2, hp2, hk, e2⟩ := one_int hp1 (ns := [0, 1, 1, 1, 2]) (by simp) (by decide)
  have hk : 0 ≤ kinds ∧ kinds ≤ 2 := by
    simp only [List.mem_cons, List.not_mem_nil, or_false] at hk
    omega
  have e2 : MOne [.l p1, .d (.list [.int 0, .int 1, .int 1, .int 1, .int 2])] = .ok (.v (.int kinds)) [.l p2, .d (.list [.int 0, .int 1, .int 1, .int 1, .int 2])] := e2
  have s0 : gProto_0 [.l true p, .d (.int most), .d (.int size), .u, .u, .u, .u, .u, .u, .u, .u, .u] = .ok .next (envP p2 (.d (.int most)) size (2 + x) kinds .u .u .u .u .u) := by
    unfold gProto_0
    get_elem_tactic_extensible
  have s1 : gProto_1 (envP p2 (.d (.int most)) size (2 + x) kinds .u .u .u .u .u) = .ok .next (envP p2 (.d (.int most)) size (2 + x) kinds (.l false []) .u .u .u .u) := by
    unfold gProto_1
    get_elem_tactic_extensible
  obtain ⟨menu, p3, z6, hp3, hm0, hml, hmc, h6, s2⟩ := menu_ok hp2 (z1 := .d (.int most)) (size := size) (mny := 2 + x) hk
  obtain ⟨st, p4, hp4, hsl, hsm, hsa, s3⟩ := starts_ok hp3 (z1 := .d (.int most)) (z5 := .l false (menu.map cndD)) (z6 := z6) (size := size) (mny := 2 + x) (kinds := kinds) (by omega)
  have s4 : gProto_4 (envP p4 (.d (.int most)) size (2 + x) kinds (.l false (menu.map cndD)) z6 (.l false (st.map .int)) .u .u) = .ok .next (envP p4 (.d (.int most)) size (2 + x) kinds (.l false (menu.map cndD)) z6 (.l false (st.map .int)) (.d (.tuple [])) .u) := set_vE (tup_ aN rfl (by decide)) rfl rfl
  obtain ⟨p5, z1', z5', z6', z10', rules, hp5, hrl, hru, s5⟩ := rules_ok hp4 (mny := 2 + x) (z1 := .d (.int most)) (z7 := .l false (st.map .int)) (size := size) .d h6 (by omega) hk hs hm0 (by omega) hmc
  have go : ∀ (p6 : List PyData) (st' : List Int), PenL p6 → st'.length ≤ 5 → (∀ x' ∈ st', 0 ≤ x' ∧ x' < 2 + x) → st' ≠ [] → st'.Pairwise (· < ·) →
      gProto_6 (envP p5 z1' size (2 + x) kinds z5' z6' (.l false (st.map .int)) (.d (.tuple rules)) z10') = .ok .next (envP p6 z1' size (2 + x) kinds z5' z6' (.l false (st'.map .int)) (.d (.tuple rules)) z10') →
      ∃ (d : PyData) (p' : List PyData), PenL p' ∧ ProtoP d ∧ MProto [.l p, .d (.int most), .d (.int size)] = .ok (.v d) [.l p', .d (.int most), .d (.int size)] := by
    intro p6 st' hp6 hl6 hm6 hn6 ha6 s6
    refine ⟨.tuple [.int (2 + x), .int kinds, .tuple (st'.map .int), .tuple rules], p6, hp6, ⟨2 + x, kinds, st', rules, rfl, by omega, hk, hl6, hm6, by omega, hru, hn6, ha6⟩, ?_⟩
    refine den_ret rfl (v := .v (.tuple [.int (2 + x), .int kinds, .tuple (st'.map .int), .tuple rules])) (r := envP p6 z1' size (2 + x) kinds z5' z6' (.l false (st'.map .int)) (.d (.tuple rules)) z10') ?_ rfl rfl
    show gProto [.l true p, .d (.int most), .d (.int size), .u, .u, .u, .u, .u, .u, .u, .u, .u] = _
    unfold gProto
    refine (seqN s0).trans ((seqN s1).trans ((seqN s2).trans ((seqN s3).trans ((seqN s4).trans ((seqN s5).trans ((seqN s6).trans (ret_ ?_)))))))
    get_elem_tactic_extensible
  have ge := gEq_nilI st
  have t0 : tBoo (eOp2 gEq (eVar 7) (eLst (aNil))) (envP p5 z1' size (2 + x) kinds z5' z6' (.l false (st.map .int)) (.d (.tuple rules)) z10') = .ok st.isEmpty (envP p5 z1' size (2 + x) kinds z5' z6' (.l false (st.map .int)) (.d (.tuple rules)) z10') :=
    tb_ (ev2v (evL rfl) lst_nil rfl rfl ge)
  have put : ∀ p6, sSet 7 (eOp2 gAdd (eLst (aCons (eC (.int 0)) (aNil))) (eVar 7)) (envP p6 z1' size (2 + x) kinds z5' z6' (.l false (st.map .int)) (.d (.tuple rules)) z10') = .ok .next (envP p6 z1' size (2 + x) kinds z5' z6' (.l false ((0 :: st).map .int)) (.d (.tuple rules)) z10') := fun p6 => by
    have ga : gAdd (.list [.int 0]) (.list (st.map .int)) = some (.n ((0 :: st).map .int)) := gAdd_lst (few1 (by rw [List.length_map]; show 1 + st.length ≤ _; omega))
    exact set_nE (ev2n (lst_ (aC evC aN) rfl (show 1 ≤ few by decide)) (evL rfl) rfl rfl ga) rfl rfl
  have a1 : (0 :: st).Pairwise (· < ·) := List.pairwise_cons.mpr ⟨fun y hy => by have := hsm y hy; omega, hsa⟩
  have a2 : ∀ y ∈ (0 :: st), 0 ≤ y ∧ y < 2 + x := fun y hy => by
    rcases List.mem_cons.mp hy with rfl | hy
    · omega
    · have := hsm y hy
      omega
  cases he : st.isEmpty with
  | true =>
    rw [he] at t0
    exact go p5 (0 :: st) hp5 (by rw [List.length_cons]; omega) a2 (by simp) a1 (by
      unfold gProto_6
      exact (ifT (toT t0)).trans (put p5))
  | false =>
    rw [he] at t0
    obtain ⟨y, p6, hp6, ey, _, _⟩ := draw_ok hp5 (b := 6) (by decide) (by decide)
    have t1 : tBoo (eOp2 gGt (eCall MDraw [true, false] (aCons (eVar 0) (aCons (eC (.int 6)) (aNil)))) (eC (.int 0))) (envP p5 z1' size (2 + x) kinds z5' z6' (.l false (st.map .int)) (.d (.tuple rules)) z10') = .ok (decide (0 < y)) (envP p6 z1' size (2 + x) kinds z5' z6' (.l false (st.map .int)) (.d (.tuple rules)) z10') := by get_elem_tactic_extensible
    by_cases hy : 0 < y
    · rw [decide_eq_true hy] at t1
      exact go p6 (0 :: st) hp6 (by rw [List.length_cons]; omega) a2 (by simp) a1 (by
        unfold gProto_6
        exact (ifT ((toF t0).trans t1)).trans (put p6))
    · rw [decide_eq_false hy] at t1
      exact go p6 st hp6 (by omega) (fun y hy => by have := hsm y hy; omega) (by rintro rfl; cases he) hsa (by
        unfold gProto_6
        exact (ifF ((toF t0).trans t1)).trans rfl)
theorem eopT {f g : PEn → Out Val} {t : PEn → Out Bool} {r r1 : PEn} (h : t r = .ok true r1) : eIf t f g r = f r1 := (if_ h).trans rfl
theorem eopF {f g : PEn → Out Val} {t : PEn → Out Bool} {r r1 : PEn} (h : t r = .ok false r1) : eIf t f g r = g r1 := (if_ h).trans rfl
/-- xs.pop(i) -/
theorem pop_ {f : PEn → Out Val} {i : Nat} {q : Bool} {k : Int} {xs xs0 : List PyData} {r r1 : PEn} (h0 : r[i]? = some (.l q xs0)) (hf : f r = .ok (.v (.int k)) r1) (h1 : r1[i]? = some (.l q xs)) (hk : 0 ≤ k ∧ k < xs.length) (hl : xs.length < 1000) : ∃ d, xs[k.toNat]? = some d ∧ ∀ {r2}, r1.set i (.l q (xs.eraseIdx k.toNat)) = r2 → ePopAt i f r = .ok (.v d) r2 := by
  have hk2 : k.toNat < xs.length := by omega
  refine ⟨xs[k.toNat], List.getElem?_eq_getElem hk2, fun he => ?_⟩
  subst he
  have e : seqIndex? k xs.length = some k.toNat := by
    unfold seqIndex?
    have h1 : ¬ k < 0 := by omega
    have h2 : (decide (0 ≤ k) && decide (k < (xs.length : Nat))) = true := by simp [hk.1, hk.2]
    simp only [h1, if_false, h2, if_true]
  unfold ePopAt
  simp only [h0, hf, Out.bind, h1, e, List.getElem?_eq_getElem hk2]
  rw [if_pos ⟨by omega, by omega⟩]
theorem rp_mk {mny kinds : Int} {s t : Int} {cs : List Cnd} {ks : List Int} (h : 0 ≤ s ∧ s < t ∧ t < mny) (h2 : cs.length ≤ 2) (h3 : ∀ c ∈ cs, CndP kinds c) (h4 : ks.length ≤ 2) (h5 : ∀ k ∈ ks, 0 ≤ k ∧ k < kinds) (h6 : cs.Pairwise (fun x y => crk x < crk y)) (h7 : ks.Pairwise (· < ·)) : RuleP mny kinds (.tuple [.int s, .int t, .tuple (cs.map cndD), .tuple (ks.map .int)]) :=
  ⟨s, t, cs, ks, rfl, h, h2, h3, h4, h5, h6, h7⟩
abbrev Bnd (b : Int × Int × Int) : Prop := (-3 ≤ b.1 ∧ b.1 ≤ 3) ∧ (-3 ≤ b.2.1 ∧ b.2.1 ≤ 3) ∧ (0 ≤ b.2.2 ∧ b.2.2 ≤ 1)
abbrev bndD (b : Int × Int × Int) : PyData := .tuple [.int b.1, .int b.2.1, .int b.2.2]
theorem bound_ok' {p : List PyData} (hp : PenL p) : ∃ (b : Int × Int × Int) (p' : List PyData), PenL p' ∧ Bnd b ∧ MBound [.l p] = .ok (.v (bndD b)) [.l p'] := by
  obtain ⟨a, b, c, p', hp', ha, hb, hc, e⟩ := bound_ok hp
  exact ⟨(a, b, c), p', hp', ⟨ha, hb, hc⟩, e⟩
theorem broad_1 {p : List PyData} (hp : PenL p) : ∃ (b c : Int × Int × Int) (p' : List PyData), PenL p' ∧ Bnd b ∧ Bnd c ∧ gBroad_1 [.l true p, .d (bndD (0, 1, 1)), .d (bndD (1, -1, 0)), .u, .u, .u] = .ok .next [.l true p', .d (bndD b), .d (bndD c), .u, .u, .u] := by
  obtain ⟨x, p1, hp1, e1, _, _⟩ := draw_ok hp (b := 3) (by decide) (by decide)
  have t : tBoo (eOp2 gEq (eCall MDraw [true, false] (aCons (eVar 0) (aCons (eC (.int 3)) (aNil)))) (eC (.int 0))) [.l true p, .d (bndD (0, 1, 1)), .d (bndD (1, -1, 0)), .u, .u, .u] = .ok (decide (x = 0)) [.l true p1, .d (bndD (0, 1, 1)), .d (bndD (1, -1, 0)), .u, .u, .u] := by get_elem_tactic_extensible
  by_cases hx : x = 0
  · rw [decide_eq_true hx] at t
    obtain ⟨b, p2, hp2, hb, e2⟩ := bound_ok' hp1
    obtain ⟨c, p3, hp3, hc, e3⟩ := bound_ok' hp2
    refine ⟨b, c, p3, hp3, hb, hc, ?_⟩
    unfold gBroad_1
    refine (ifT t).trans ?_
    exact par_E (aC (callP0E rfl e2 rfl) (aC (callP0E rfl e3 rfl) aN)) rfl rfl rfl
  · rw [decide_eq_false hx] at t
    refine ⟨(0, 1, 1), (1, -1, 0), p1, hp1, by decide, by decide, ?_⟩
    unfold gBroad_1
    exact (ifF t).trans rfl
theorem broad_ok {p : List PyData} (hp : PenL p) : ∃ (d : PyData) (p' : List PyData), PenL p' ∧ ProtoP d ∧ MBroad [.l p] = .ok (.v d) [.l p'] := by
  have s0 : gBroad_0 [.l true p, .u, .u, .u, .u, .u] = .ok .next [.l true p, .d (bndD (0, 1, 1)), .d (bndD (1, -1, 0)), .u, .u, .u] := by
    unfold gBroad_0
    get_elem_tactic_extensible
  obtain ⟨b, c, p1, hp1, hb, hc, s1⟩ := broad_1 hp
  have s2 : gBroad_2 [.l true p1, .d (bndD b), .d (bndD c), .u, .u, .u] = .ok .next [.l true p1, .d (bndD b), .d (bndD c), .d (.tuple [cndD (0, b)]), .d (.tuple [cndD (0, c)]), .u] := by
    unfold gBroad_2
    exact par_E (aC (tup_ (aC (tup_ (aC evC (aC (evV rfl) aN)) rfl (show 2 ≤ few by decide)) aN) rfl (show 1 ≤ few by decide)) (aC (tup_ (aC (tup_ (aC evC (aC (evV rfl) aN)) rfl (show 2 ≤ few by decide)) aN) rfl (show 1 ≤ few by decide)) aN)) rfl rfl rfl
  have s3 : gBroad_3 [.l true p1, .d (bndD b), .d (bndD c), .d (.tuple [cndD (0, b)]), .d (.tuple [cndD (0, c)]), .u] = .ok .next [.l true p1, .d (bndD b), .d (bndD c), .d (.tuple [cndD (0, b)]), .d (.tuple [cndD (0, c)]),
      .l false [.tuple [.int 1, .int 2, .tuple [], .tuple [.int 0]], .tuple [.int 0, .int 2, .tuple [cndD (0, b)], .tuple [.int 0]], .tuple [.int 0, .int 3, .tuple [cndD (0, c)], .tuple [.int 0]], .tuple [.int 2, .int 3, .tuple [cndD (0, c)], .tuple []]]] := by
    unfold gBroad_3
    get_elem_tactic_extensible
  generalize hR : [PyData.tuple [.int 1, .int 2, .tuple [], .tuple [.int 0]], .tuple [.int 0, .int 2, .tuple [cndD (0, b)], .tuple [.int 0]], .tuple [.int 0, .int 3, .tuple [cndD (0, c)], .tuple [.int 0]], .tuple [.int 2, .int 3, .tuple [cndD (0, c)], .tuple []]] = R at s3
  have hRl : R.length = 4 := by rw [← hR]; rfl
  have cb : ∀ x ∈ [((0, b) : Cnd)], CndP 1 x := fun x hx => by
    rw [List.mem_singleton.mp hx]
    exact ⟨⟨Int.le_refl _, by show (0 : Int) < 1; decide⟩, hb.1, hb.2.1, hb.2.2⟩
  have cc : ∀ x ∈ [((0, c) : Cnd)], CndP 1 x := fun x hx => by
    rw [List.mem_singleton.mp hx]
    exact ⟨⟨Int.le_refl _, by show (0 : Int) < 1; decide⟩, hc.1, hc.2.1, hc.2.2⟩
  have c0 : ∀ x ∈ ([] : List Cnd), CndP 1 x := fun _ h => (nomatch h)
  have k0 : ∀ k ∈ [(0 : Int)], 0 ≤ k ∧ k < 1 := by decide
  have hRP : ∀ r ∈ R, RuleP 4 1 r := by
    rw [← hR]
    intro r hr
    simp only [List.mem_cons, List.not_mem_nil, or_false] at hr
    rcases hr with rfl | rfl | rfl | rfl
    · exact rp_mk (cs := []) (ks := [0]) (by decide) (by decide) c0 (by decide) k0 .nil (by decide)
    · exact rp_mk (cs := [(0, b)]) (ks := [0]) (by decide) (show 1 ≤ 2 by decide) cb (by decide) k0 (.cons (fun _ h => (nomatch h)) .nil) (by decide)
    · exact rp_mk (cs := [(0, c)]) (ks := [0]) (by decide) (show 1 ≤ 2 by decide) cc (by decide) k0 (.cons (fun _ h => (nomatch h)) .nil) (by decide)
    · exact rp_mk (cs := [(0, c)]) (ks := []) (by decide) (show 1 ≤ 2 by decide) cc (by decide) (fun _ h => (nomatch h)) (.cons (fun _ h => (nomatch h)) .nil) (by decide)
  have go : ∀ (p2 : List PyData) (R' : List PyData), PenL p2 → R'.Sublist R → gBroad_4 [.l true p1, .d (bndD b), .d (bndD c), .d (.tuple [cndD (0, b)]), .d (.tuple [cndD (0, c)]), .l false R] = .ok .next [.l true p2, .d (bndD b), .d (bndD c), .d (.tuple [cndD (0, b)]), .d (.tuple [cndD (0, c)]), .l false R'] →
      ∃ (d : PyData) (p' : List PyData), PenL p' ∧ ProtoP d ∧ MBroad [.l p] = .ok (.v d) [.l p'] := by
    intro p2 R' hp2 hs s4
    refine ⟨.tuple [.int 4, .int 1, .tuple ([0, 1].map .int), .tuple R'], p2, hp2, ⟨4, 1, [0, 1], R', rfl, by decide, by decide, by decide, by decide, by have := hs.length_le; omega, fun r hr => hRP r (hs.subset hr), by decide, by decide⟩, ?_⟩
    refine den_ret rfl (v := .v (.tuple [.int 4, .int 1, .tuple [.int 0, .int 1], .tuple R'])) (r := [.l true p2, .d (bndD b), .d (bndD c), .d (.tuple [cndD (0, b)]), .d (.tuple [cndD (0, c)]), .l false R']) ?_ rfl rfl
    show gBroad [.l true p, .u, .u, .u, .u, .u] = _
    unfold gBroad gBroad_5
    refine (seqN s0).trans ((seqN s1).trans ((seqN s2).trans ((seqN s3).trans ((seqN s4).trans (ret_ ?_)))))
    get_elem_tactic_extensible
  obtain ⟨x, p2, hp2, e2, _, _⟩ := draw_ok hp1 (b := 4) (by decide) (by decide)
  have t : tBoo (eOp2 gEq (eCall MDraw [true, false] (aCons (eVar 0) (aCons (eC (.int 4)) (aNil)))) (eC (.int 0))) [.l true p1, .d (bndD b), .d (bndD c), .d (.tuple [cndD (0, b)]), .d (.tuple [cndD (0, c)]), .l false R] = .ok (decide (x = 0)) [.l true p2, .d (bndD b), .d (bndD c), .d (.tuple [cndD (0, b)]), .d (.tuple [cndD (0, c)]), .l false R] := by get_elem_tactic_extensible
  by_cases hx : x = 0
  · rw [decide_eq_true hx] at t
    obtain ⟨k, p3, hp3, e3, k0, k1⟩ := draw_ok hp2 (b := 4) (by decide) (by decide)
    have gl : gLen (.list R) = some (.v (.int 4)) := by
      show some (Rs.v (.int (R.length : Nat))) = _
      rw [hRl]
      rfl
    obtain ⟨d, _, e⟩ := pop_ (f := eCall MDraw [true, false] (aCons (eVar 0) (aCons (eOp1 gLen (eVar 5)) (aNil)))) (i := 5) (q := false) (k := k) (xs := R) (xs0 := R) (r := [.l true p2, .d (bndD b), .d (bndD c), .d (.tuple [cndD (0, b)]), .d (.tuple [cndD (0, c)]), .l false R]) (r1 := [.l true p3, .d (bndD b), .d (bndD c), .d (.tuple [cndD (0, b)]), .d (.tuple [cndD (0, c)]), .l false R]) rfl (by get_elem_tactic_extensible) rfl (by omega) (by omega)
    refine go p3 (R.eraseIdx k.toNat) hp3 (List.eraseIdx_sublist _ _) ?_
    unfold gBroad_4
    refine (ifT t).trans ?_
    unfold sExpr
    rw [e rfl]
    rfl
  · rw [decide_eq_false hx] at t
    refine go p2 R hp2 (List.Sublist.refl _) ?_
    unfold gBroad_4
    exact (ifF t).trans rfl
theorem some_ok {p : List PyData} (hp : PenL p) {most size : Int} (hm : 2 ≤ most ∧ most ≤ 5) (hs : 0 ≤ size ∧ size ≤ 8) : ∃ (d : PyData) (p' : List PyData), PenL p' ∧ ProtoP d ∧ MSome [.l p, .d (.int most), .d (.int size)] = .ok (.v d) [.l p', .d (.int most), .d (.int size)] := by
  obtain ⟨x, p1, hp1, e1, x0, x1⟩ := draw_ok hp (b := 3) (by decide) (by decide)
  have t : tBoo (eOp2 gEq (eCall MDraw [true, false] (aCons (eVar 0) (aCons (eC (.int 3)) (aNil)))) (eC (.int 0))) [.l true p, .d (.int most), .d (.int size)] = .ok (decide (x = 0)) [.l true p1, .d (.int most), .d (.int size)] := by get_elem_tactic_extensible
  by_cases hx : x = 0
  · rw [decide_eq_true hx] at t
    obtain ⟨d, p2, hp2, hd, e2⟩ := broad_ok hp1
    refine ⟨d, p2, hp2, hd, den_ret rfl (v := .v d) (r := [.l true p2, .d (.int most), .d (.int size)]) ?_ rfl rfl⟩
    show gSome [.l true p, .d (.int most), .d (.int size)] = _
    unfold gSome gSome_0
    exact ret_ ((eopT t).trans (by get_elem_tactic_extensible))
  · rw [decide_eq_false hx] at t
    obtain ⟨d, p2, hp2, hd, e2⟩ := proto_ok hp1 hm hs
    refine ⟨d, p2, hp2, hd, den_ret rfl (v := .v d) (r := [.l true p2, .d (.int most), .d (.int size)]) ?_ rfl rfl⟩
    show gSome [.l true p, .d (.int most), .d (.int size)] = _
    unfold gSome gSome_0
    exact ret_ ((eopF t).trans (by get_elem_tactic_extensible))
/-! ### protocols, typed -/
structure Ru where
  s : Int
  t : Int
  cs : List Cnd
  ks : List Int
def ruD (u : Ru) : PyData := .tuple [.int u.s, .int u.t, .tuple (u.cs.map cndD), .tuple (u.ks.map .int)]
structure RuOk (mny kinds : Int) (u : Ru) : Prop where
  st : 0 ≤ u.s ∧ u.s < u.t ∧ u.t < mny
  cl : u.cs.length ≤ 2
  c : ∀ c ∈ u.cs, CndP kinds c
  kl : u.ks.length ≤ 2
  k : ∀ k ∈ u.ks, 0 ≤ k ∧ k < kinds
  ca : u.cs.Pairwise (fun x y => crk x < crk y)
  ka : u.ks.Pairwise (· < ·)
structure Prt where
  many : Int
  kinds : Int
  st : List Int
  ru : List Ru
def prD (q : Prt) : PyData := .tuple [.int q.many, .int q.kinds, .tuple (q.st.map .int), .tuple (q.ru.map ruD)]
structure PrOk (q : Prt) : Prop where
  m : 2 ≤ q.many ∧ q.many ≤ 5
  k : 0 ≤ q.kinds ∧ q.kinds ≤ 2
  sl : q.st.length ≤ 5
  s : ∀ x ∈ q.st, 0 ≤ x ∧ x < q.many
  s0 : q.st ≠ []
  sa : q.st.Pairwise (· < ·)
  rl : q.ru.length ≤ 8
  r : ∀ u ∈ q.ru, RuOk q.many q.kinds u
theorem rules_typed {mny kinds : Int} : ∀ {rules : List PyData}, (∀ r ∈ rules, RuleP mny kinds r) → ∃ us : List Ru, rules = us.map ruD ∧ ∀ u ∈ us, RuOk mny kinds u
  | [], _ => ⟨[], rfl, fun _ h => (nomatch h)⟩
  | r :: rules, h => by
    obtain ⟨us, rfl, hu⟩ := rules_typed fun x hx => h x (List.mem_cons_of_mem _ hx)
    obtain ⟨s, t, cs, ks, rfl, h1, h2, h3, h4, h5, h6, h7⟩ := (h r List.mem_cons_self).ex
    refine ⟨⟨s, t, cs, ks⟩ :: us, rfl, fun u hu' => ?_⟩
    rcases List.mem_cons.mp hu' with rfl | hu'
    · exact ⟨h1, h2, h3, h4, h5, h6, h7⟩
    · exact hu u hu'
theorem ProtoP.typed {d : PyData} (h : ProtoP d) : ∃ q, d = prD q ∧ PrOk q := by
  obtain ⟨mny, kinds, st, rules, rfl, h1, h2, h3, h4, h5, h6, h7, h8⟩ := h.ex
  obtain ⟨us, rfl, hu⟩ := rules_typed h6
  exact ⟨⟨mny, kinds, st, us⟩, rfl, h1, h2, h3, h4, h7, h8, by rw [List.length_map] at h5; exact h5, hu⟩
theorem draw_pr {p : List PyData} (hp : PenL p) {most size : Int} (hm : 2 ≤ most ∧ most ≤ 5) (hs : 0 ≤ size ∧ size ≤ 8) : ∃ (q : Prt) (p' : List PyData), PenL p' ∧ PrOk q ∧ MSome [.l p, .d (.int most), .d (.int size)] = .ok (.v (prD q)) [.l p', .d (.int most), .d (.int size)] := by
  obtain ⟨d, p', hp', hd, e⟩ := some_ok hp hm hs
  obtain ⟨q, rfl, hq⟩ := hd.typed
  exact ⟨q, p', hp', hq, e⟩
/-- all conditions of a protocol, ascending -/
def lcs (q : Prt) : List Cnd := ssC (q.ru.flatMap (·.cs))
theorem flat_len {us : List Ru} (h : ∀ u ∈ us, u.cs.length ≤ 2) : (us.flatMap (·.cs)).length ≤ 2 * us.length := by
  induction us with
  | nil => exact Nat.le_refl _
  | cons u us ih =>
    have := h u List.mem_cons_self
    have := ih fun x hx => h x (List.mem_cons_of_mem _ hx)
    rw [List.flatMap_cons, List.length_append, List.length_cons]
    omega
theorem ssC_len : ∀ l : List Cnd, (ssC l).length ≤ l.length
  | [] => Nat.le_refl _
  | c :: l => by
    have ins : ∀ (m : List Cnd), (insC c m).length ≤ m.length + 1 := fun m => by
      induction m with
      | nil => exact Nat.le_refl _
      | cons d m ihm =>
        unfold insC
        split
        · exact Nat.le_refl _
        · split
          · exact Nat.le_succ _
          · exact Nat.succ_le_succ ihm
    exact Nat.le_trans (ins _) (Nat.succ_le_succ (ssC_len l))
theorem lcs_mem {q : Prt} {x : Cnd} : x ∈ lcs q ↔ ∃ u ∈ q.ru, x ∈ u.cs := by
  unfold lcs
  rw [ssC_mem, List.mem_flatMap]
theorem lcs_ok {q : Prt} (h : PrOk q) : ∀ x ∈ lcs q, CndP q.kinds x := fun x hx => by
  obtain ⟨u, hu, hx⟩ := lcs_mem.mp hx
  exact (h.r u hu).c x hx
theorem lcs_len {q : Prt} (h : PrOk q) : (lcs q).length ≤ 16 := by
  have h1 := ssC_len (q.ru.flatMap (·.cs))
  have h2 := flat_len fun u hu => (h.r u hu).cl
  have := h.rl
  unfold lcs
  omega
theorem ix3' {a b c e : PyData} {xs : List PyData} : gIx (.tuple (a :: b :: c :: e :: xs)) (.int 3) = some (.v e) := ix3
theorem ext_ {f : PEn → Out Val} {i : Nat} {q : Bool} {ds xs xs0 : List PyData} {r r1 r2 : PEn} (h0 : r[i]? = some (.l q xs0)) (h : f r = .ok (.n ds) r1) (h1 : r1[i]? = some (.l q xs)) (hl : xs.length + ds.length ≤ many) (he : r1.set i (.l q (xs ++ ds)) = r2) : sExpr (eExt i f) r = .ok .next r2 := by
  subst he
  unfold sExpr eExt
  simp only [h0, h, Out.bind, h1]
  rw [if_pos hl]
theorem iseq_t {f : PEn → Out Val} {r r1 : PEn} {xs : List PyData} (h : f r = .ok (.v (.tuple xs)) r1) : iSeq f r = .ok xs r1 := by
  unfold iSeq
  rw [h]
  rfl
theorem lconds_ok {q : Prt} (hq : PrOk q) : MLConds [.d (prD q)] = .ok (.n ((lcs q).map cndD)) [.d (prD q)] := by
  have s0 : gLConds_0 [.d (prD q), .u, .u] = .ok .next [.d (prD q), .l false [], .u] := by
    unfold gLConds_0
    get_elem_tactic_extensible
  have cnt : iSeq (eOp2 gIx (eVar 0) (eC (.int 3))) [.d (prD q), .l false [], .u] = .ok (q.ru.map ruD) [.d (prD q), .l false [], .u] := iseq_t (ev2v (evV rfl) evC rfl rfl ix3)
  have loop := for_inv (g := gNm 2) (body := gLConds_b1) (fun i r => ∃ z, Loc z ∧ r = [.d (prD q), .l false (((q.ru.take i).flatMap (·.cs)).map cndD), z]) (q.ru.map ruD) 0 [.d (prD q), .l false [], .u] ⟨.u, .u, rfl⟩ ?_
  · obtain ⟨r', el, z, hz, rfl⟩ := loop
    rw [List.length_map, Nat.zero_add, List.take_length] at el
    have s1 : gLConds_1 [.d (prD q), .l false [], .u] = .ok .next [.d (prD q), .l false ((q.ru.flatMap (·.cs)).map cndD), z] := by
      unfold gLConds_1 sFor
      rw [cnt]
      exact el
    have h2 := flat_len fun u hu => (hq.r u hu).cl
    have gs := gSSet_ok (cs := q.ru.flatMap (·.cs)) (by have := hq.rl; omega) (fun c hc => by
      obtain ⟨u, hu, hx⟩ := List.mem_flatMap.mp hc
      exact ((hq.r u hu).c c hx).sm (by have := hq.k; omega))
    refine den_ret rfl (v := .n ((lcs q).map cndD)) (r := [.d (prD q), .l false ((q.ru.flatMap (·.cs)).map cndD), z]) ?_ rfl rfl
    show gLConds [.d (prD q), .u, .u] = _
    unfold gLConds gLConds_2
    exact (seqN s0).trans ((seqN s1).trans (ret_ (ev1n (evL rfl) rfl gs)))
  · rintro i d r hi ⟨z, hz, rfl⟩
    rw [List.getElem?_map] at hi
    obtain ⟨u, hu, rfl⟩ := Option.map_eq_some_iff.mp hi
    have hil : i < q.ru.length := (List.getElem?_eq_some_iff.mp hu).1
    have hum := List.mem_of_getElem? hu
    have h2 := flat_len (us := q.ru.take (0 + i)) fun u hu => (hq.r u (List.mem_of_mem_take hu)).cl
    rw [List.length_take] at h2
    refine ⟨[(2, ruD u)], [.d (prD q), .l false (((q.ru.take (0 + i + 1)).flatMap (·.cs)).map cndD), .d (ruD u)], rfl, hz.frees rfl, .inl ?_, .d (ruD u), .d, rfl⟩
    show gLConds_b1 [.d (prD q), .l false (((q.ru.take (0 + i)).flatMap (·.cs)).map cndD), .d (ruD u)] = _
    unfold gLConds_b1
    refine ext_ (ds := u.cs.map cndD) rfl (ev1n (ev2v (evV rfl) evC rfl rfl ix2) rfl rfl) rfl (few1 ?_) ?_
    · rw [List.length_map, List.length_map]
      have := (hq.r u hum).cl
      have := hq.rl
      omega
    · rw [Nat.zero_add, List.take_add_one, hu, List.flatMap_append, List.map_append]
      simp
end PD

/-! PDOrd: conditions, rules and protocols as data: tests and sizes. -/
namespace PD
open PySem PySem.Spec PyProof.Rows L2
theorem shaped_tup {xs : List PyData} : SeqAt.shaped (.tuple xs) = true ↔ (∀ x ∈ xs, PyData.canLay0 x = true ∧ x.depth ≤ 63) := by
  have h1 : ∀ ys : List PyData, PyData.canLayAll0 ys = true ↔ ∀ y ∈ ys, PyData.canLay0 y = true := fun ys => by
    induction ys with
    | nil => simp [PyData.canLayAll0]
    | cons y ys ih => simp [PyData.canLayAll0, ih]
  have h2 := depths_iff (n := 63) (xs := xs)
  unfold SeqAt.shaped
  rw [PyData.canLay0, PyData.depth, Bool.and_eq_true, decide_eq_true_eq, h1]
  constructor
  · rintro ⟨a, b⟩ x hx
    exact ⟨a x hx, h2.mp (by omega) x hx⟩
  · intro h
    have := h2.mpr fun x hx => (h x hx).2
    exact ⟨fun x hx => (h x hx).1, by omega⟩
theorem shaped_in {d : PyData} (h : SeqAt.shaped d = true) : PyData.canLay0 d = true ∧ d.depth ≤ 64 := by
  unfold SeqAt.shaped at h
  rw [Bool.and_eq_true, decide_eq_true_eq] at h
  exact h
theorem lay_cnd (c : Cnd) : PyData.canLay0 (cndD c) = true := rfl
theorem dep_cnd (c : Cnd) : (cndD c).depth = 2 := rfl
theorem shaped_cnd (c : Cnd) : SeqAt.shaped (cndD c) = true := rfl
theorem shaped_cnds (cs : List Cnd) : SeqAt.shaped (.tuple (cs.map cndD)) = true := shaped_tup.mpr fun x hx => by
  obtain ⟨c, _, rfl⟩ := List.mem_map.mp hx
  exact ⟨rfl, by rw [dep_cnd]; decide⟩
theorem eqv_cnd (c c' : Cnd) : PyData.eqv (cndD c) (cndD c') = decide (c = c') := by
  obtain ⟨k, a, b, e⟩ := c
  obtain ⟨k', a', b', e'⟩ := c'
  unfold cndD
  simp only [PyData.eqv, PyData.eqvAll, Bool.and_true]
  by_cases h1 : k = k' <;> by_cases h2 : a = a' <;> by_cases h3 : b = b' <;> by_cases h4 : e = e' <;> simp [h1, h2, h3, h4]
theorem any_cnd (c : Cnd) (o : List Cnd) : ((o.map cndD).any fun z => PyData.eqv z (cndD c)) = decide (c ∈ o) := by
  induction o with
  | nil => rfl
  | cons x o ih =>
    rw [List.map_cons, List.any_cons, ih, eqv_cnd]
    by_cases h : x = c
    · subst h; simp
    · have h2 : ¬ c = x := fun e => h e.symm
      simp [h, h2]
theorem gIn_cnd (c : Cnd) (o : List Cnd) : gIn (cndD c) (.tuple (o.map cndD)) = some (.v (.bool (decide (c ∈ o)))) := by
  rw [← any_cnd]
  exact if_pos ⟨shaped_cnd c, shaped_cnds o⟩
theorem gNotIn_cnd (c : Cnd) (o : List Cnd) : gNotIn (cndD c) (.tuple (o.map cndD)) = some (.v (.bool (!decide (c ∈ o)))) := by
  rw [← any_cnd]
  exact if_pos ⟨shaped_cnd c, shaped_cnds o⟩
/-! ### sizes -/
theorem CndP.gv {kinds : Int} {c : Cnd} (h : CndP kinds c) (hk : kinds ≤ 10) : Gv 7 2 79 (cndD c) := by
  obtain ⟨h1, h2, h3, h4⟩ := h
  refine gv_each (m := 2) (n := 1) (c := 36) (fun y hy => ?_) (Nat.le_refl _) (by decide)
  simp only [List.mem_cons, List.not_mem_nil, or_false] at hy
  rcases hy with rfl | rfl
  · exact gv_small (by omega) (by decide) (by decide)
  · refine gv_each (m := 3) (n := 0) (c := 9) (fun y hy => ?_) (Nat.le_refl _) (by decide)
    simp only [List.mem_cons, List.not_mem_nil, or_false] at hy
    rcases hy with rfl | rfl | rfl <;> exact gv_small (by omega) (by decide) (by decide)
theorem cnds_gv {kinds : Int} {cs : List Cnd} (h : ∀ c ∈ cs, CndP kinds c) (hk : kinds ≤ 10) {m : Nat} (hl : cs.length ≤ m) {C : Nat} (hC : m * 81 + 3 ≤ C) : Gv 7 3 C (.tuple (cs.map cndD)) :=
  gv_each (m := m) (n := 2) (c := 79) (fun y hy => by
    obtain ⟨c, hc, rfl⟩ := List.mem_map.mp hy
    exact (h c hc).gv hk) (by rw [List.length_map]; exact hl) hC
theorem ints_gv {lo hi : Int} {ks : List Int} (h : ∀ k ∈ ks, lo ≤ k ∧ k ≤ hi) (h1 : -128 < lo) (h2 : hi < 128) {m : Nat} (hl : ks.length ≤ m) {C : Nat} (hC : m * 11 + 3 ≤ C) : Gv 7 1 C (.tuple (ks.map .int)) :=
  gv_each (m := m) (n := 0) (c := 9) (fun y hy => by
    obtain ⟨k, hk, rfl⟩ := List.mem_map.mp hy
    have := h k hk
    exact gv_small (by omega) (by decide) (by decide)) (by rw [List.length_map]; exact hl) hC
theorem RuOk.gv {mny kinds : Int} {u : Ru} (h : RuOk mny kinds u) (hk : kinds ≤ 10) (hm : mny ≤ 100) : Gv 7 4 671 (ruD u) := by
  refine gv_each (m := 4) (n := 3) (c := 165) (fun y hy => ?_) (Nat.le_refl _) (by decide)
  have := h.st
  simp only [List.mem_cons, List.not_mem_nil, or_false] at hy
  rcases hy with rfl | rfl | rfl | rfl
  · exact gv_small (by omega) (by decide) (by decide)
  · exact gv_small (by omega) (by decide) (by decide)
  · exact cnds_gv h.c hk h.cl (by decide)
  · exact (ints_gv (fun k hk => ⟨(h.k k hk).1, Int.le_of_lt (h.k k hk).2⟩) (by decide) (by omega) h.kl (C := 165) (by decide)).more (Nat.le_refl _) (by decide) (Nat.le_refl _)
theorem PrOk.gv {q : Prt} (h : PrOk q) : Gv 7 6 21559 (prD q) := by
  refine gv_each (m := 4) (n := 5) (c := 5387) (fun y hy => ?_) (Nat.le_refl _) (by decide)
  have hm := h.m
  have hk := h.k
  simp only [List.mem_cons, List.not_mem_nil, or_false] at hy
  rcases hy with rfl | rfl | rfl | rfl
  · exact gv_small (by omega) (by decide) (by decide)
  · exact gv_small (by omega) (by decide) (by decide)
  · exact (ints_gv (fun k hk => ⟨(h.s k hk).1, Int.le_of_lt (h.s k hk).2⟩) (by decide) (by omega) h.sl (C := 5387) (by decide)).more (Nat.le_refl _) (by decide) (Nat.le_refl _)
  · refine gv_each (m := 8) (n := 4) (c := 671) (fun y hy => ?_) (by rw [List.length_map]; exact h.rl) (by decide)
    obtain ⟨u, hu, rfl⟩ := List.mem_map.mp hy
    exact (h.r u hu).gv (by omega) (by omega)
/-! ### the rules that an order allows -/
def rdy (o : List Cnd) (us : List Ru) : List Int := (us.zipIdx.filter fun p => p.1.cs.all fun c => decide (c ∈ o)).map fun p => (p.2 : Int)
theorem rdy_succ {o : List Cnd} {us : List Ru} {i : Nat} {u : Ru} (h : us[i]? = some u) : rdy o (us.take (i + 1)) = rdy o (us.take i) ++ (if (u.cs.all fun c => decide (c ∈ o)) = true then [(i : Int)] else []) := by
  have hi : i < us.length := (List.getElem?_eq_some_iff.mp h).1
  unfold rdy
  rw [List.take_add_one, h, List.zipIdx_append, List.filter_append, List.map_append, List.length_take, Nat.min_eq_left (Nat.le_of_lt hi), Nat.zero_add]
  congr 1
  show List.map _ (List.filter _ [(u, i)]) = _
  rw [List.filter_cons]
  cases u.cs.all fun c => decide (c ∈ o) <;> rfl
theorem rdy_len (o : List Cnd) (us : List Ru) : (rdy o us).length ≤ us.length := by
  unfold rdy
  rw [List.length_map]
  exact Nat.le_trans (List.length_filter_le _ _) (by rw [List.length_zipIdx]; exact Nat.le_refl _)
theorem rdy_mem {o : List Cnd} {us : List Ru} {x : Int} (h : x ∈ rdy o us) : 0 ≤ x ∧ x < us.length := by
  obtain ⟨p, hp, rfl⟩ := List.mem_map.mp h
  have h1 := (List.mem_filter.mp hp).1
  obtain ⟨u, i⟩ := p
  have := List.mem_zipIdx h1
  show (0 : Int) ≤ i ∧ (i : Int) < _
  omega
theorem all_in (cs o : List Cnd) : ((cs.map cndD).all fun d => (o.map cndD).any fun z => PyData.eqv z d) = cs.all fun c => decide (c ∈ o) := by
  induction cs with
  | nil => rfl
  | cons c cs ih => rw [List.map_cons, List.all_cons, ih, any_cnd, List.all_cons]
theorem all_nin (cs o : List Cnd) : ((cs.map cndD).all fun d => !!((o.map cndD).any fun z => PyData.eqv z d)) = cs.all fun c => decide (c ∈ o) := by
  rw [← all_in]
  simp
theorem enum_at {xs : List PyData} {i : Nat} {d : PyData} (h : (enumD xs)[i]? = some d) : ∃ x, xs[i]? = some x ∧ d = .tuple [.int (i : Nat), x] := by
  unfold enumD at h
  rw [List.getElem?_mapIdx] at h
  obtain ⟨x, hx, rfl⟩ := Option.map_eq_some_iff.mp h
  exact ⟨x, hx, rfl⟩
theorem enum_len (xs : List PyData) : (enumD xs).length = xs.length := List.length_mapIdx
theorem ienum_t {f : PEn → Out Val} {r r1 : PEn} {xs : List PyData} (h : f r = .ok (.v (.tuple xs)) r1) : iEnumD f r = .ok (enumD xs) r1 := by
  unfold iEnumD
  rw [h]
  rfl
theorem iseq_n {f : PEn → Out Val} {r r1 : PEn} {xs : List PyData} (h : f r = .ok (.n xs) r1) : iSeq f r = .ok xs r1 := by
  unfold iSeq
  rw [h]
  rfl
end PD

/-! PDCrD: denotations of defs that laws share (printed by mkshare.py). -/
namespace PD
open PySem PySem.Spec PyProof.Rows L2
def gPBoundValue_0 : PEn → Out Fl :=
  sUnp (gTp 3 (gsC (gNm 2) (gsC (gNm 3) (gsC (gNm 4) (gsN))))) (eVar 0)
def gPBoundValue_1 : PEn → Out Fl :=
  sUnp (gTp 3 (gsC (gNm 5) (gsC (gNm 6) (gsC (gNm 7) (gsN))))) (eVar 1)
def gPBoundValue_2 : PEn → Out Fl :=
  sRet (eOp2 gAdd (eOp2 gAdd (eOp2 gMul (eVar 2) (eVar 5)) (eOp2 gMul (eVar 3) (eVar 6))) (eVar 4))
def gPBoundValue : PEn → Out Fl := (sSeq gPBoundValue_0 (sSeq gPBoundValue_1 gPBoundValue_2))
def MPBoundValue : List Arg → FO := den gPBoundValue 2 8
def gPFirstCrowd_0 : PEn → Out Fl :=
  sRet (eTup (aCons (eVar 1) (aCons (eOp2 gMul (eTup (aCons (eC (.int 0)) (aNil))) (eOp2 gIx (eVar 0) (eC (.int 1)))) (aNil))))
def gPFirstCrowd : PEn → Out Fl := gPFirstCrowd_0
def MPFirstCrowd : List Arg → FO := den gPFirstCrowd 2 2
def gPIsFirst_0 : PEn → Out Fl :=
  sUnp (gTp 3 (gsC (gNm 4) (gsC (gNm 5) (gsC (gNm 6) (gsN))))) (eVar 1)
def gPIsFirst_b1 : PEn → Out Fl :=
  sIf (tAndD (tBoo (eOp2 gNe (eVar 8) (eC (.int 0)))) (tOrD (tBoo (eOp2 gNotIn (eVar 7) (eOp2 gIx (eVar 0) (eC (.int 2))))) (tBoo (eOp2 gIn (eVar 7) (eVar 2))))) (sRet (eC (.bool false))) (sSkip)
abbrev gPIsFirst_t1 : PyData → Option (List (Nat × PyData)) := gTp 2 (gsC (gNm 7) (gsC (gNm 8) (gsN)))
def gPIsFirst_1 : PEn → Out Fl :=
  sFor (iEnumD (eVar 3)) gPIsFirst_t1 gPIsFirst_b1
def gPIsFirst_2 : PEn → Out Fl :=
  sRet (eAndD (eOp2 gLe (eVar 6) (eVar 4)) (eOp2 gEq (eOp1 gSum (eVar 3)) (eOp2 gSub (eVar 4) (eVar 6))))
def gPIsFirst : PEn → Out Fl := (sSeq gPIsFirst_0 (sSeq gPIsFirst_1 gPIsFirst_2))
def MPIsFirst : List Arg → FO := den gPIsFirst 4 9
def gPHears_0 : PEn → Out Fl :=
  sUnp (gTp 2 (gsC (gNm 3) (gsC (gNm 4) (gsN)))) (eVar 2)
def gPHears_1 : PEn → Out Fl :=
  sRet (eOp2 gGe (eOp2 gIx (eOp2 gIx (eVar 1) (eC (.int 1))) (eVar 3)) (eCall MPBoundValue [false, false] (aCons (eVar 4) (aCons (eVar 0) (aNil)))))
def gPHears : PEn → Out Fl := (sSeq gPHears_0 gPHears_1)
def MPHears : List Arg → FO := den gPHears 3 5
def gPCanHear_0 : PEn → Out Fl :=
  sUnp (gTp 2 (gsC (gNm 3) (gsC (gNm 4) (gsN)))) (eVar 2)
def gPCanHear_1 : PEn → Out Fl :=
  sRet (eOp2 gGe (eOp2 gAdd (eOp2 gIx (eOp2 gIx (eVar 1) (eC (.int 1))) (eVar 3)) (eOp2 gIx (eVar 0) (eC (.int 2)))) (eCall MPBoundValue [false, false] (aCons (eVar 4) (aCons (eVar 0) (aNil)))))
def gPCanHear : PEn → Out Fl := (sSeq gPCanHear_0 gPCanHear_1)
def MPCanHear : List Arg → FO := den gPCanHear 3 5
def gPCanTake_0 : PEn → Out Fl :=
  sSet 3 (eLst (aNil))
def gPCanTake_b1 : PEn → Out Fl :=
  sIf (tAndD (tBoo (eOp2 gGt (eOp2 gIx (eOp2 gIx (eVar 2) (eC (.int 0))) (eVar 5)) (eC (.int 0)))) (tTru (eOp1 gAll (eComp (iSeq (eVar 7)) [9] (gNm 9) (tYesD) (eCall MPCanHear [false, false, false] (aCons (eVar 1) (aCons (eVar 2) (aCons (eVar 9) (aNil))))))))) (sExpr (eApp 3 (eVar 4))) (sSkip)
abbrev gPCanTake_t1 : PyData → Option (List (Nat × PyData)) := gTp 2 (gsC (gNm 4) (gsC (gTp 4 (gsC (gNm 5) (gsC (gNm 6) (gsC (gNm 7) (gsC (gNm 8) (gsN)))))) (gsN)))
def gPCanTake_1 : PEn → Out Fl :=
  sFor (iEnumD (eOp2 gIx (eVar 0) (eC (.int 3)))) gPCanTake_t1 gPCanTake_b1
def gPCanTake_2 : PEn → Out Fl :=
  sRet (eOp1 gTuple (eVar 3))
def gPCanTake : PEn → Out Fl := (sSeq gPCanTake_0 (sSeq gPCanTake_1 gPCanTake_2))
def MPCanTake : List Arg → FO := den gPCanTake 3 10
def gPUrged_0 : PEn → Out Fl :=
  sSet 3 (eLst (aNil))
def gPUrged_b1 : PEn → Out Fl :=
  sIf (tAndD (tBoo (eOp2 gGt (eOp2 gIx (eOp2 gIx (eVar 2) (eC (.int 0))) (eVar 5)) (eC (.int 0)))) (tTru (eOp1 gAll (eComp (iSeq (eVar 7)) [9] (gNm 9) (tYesD) (eCall MPHears [false, false, false] (aCons (eVar 1) (aCons (eVar 2) (aCons (eVar 9) (aNil))))))))) (sExpr (eApp 3 (eVar 4))) (sSkip)
abbrev gPUrged_t1 : PyData → Option (List (Nat × PyData)) := gTp 2 (gsC (gNm 4) (gsC (gTp 4 (gsC (gNm 5) (gsC (gNm 6) (gsC (gNm 7) (gsC (gNm 8) (gsN)))))) (gsN)))
def gPUrged_1 : PEn → Out Fl :=
  sFor (iEnumD (eOp2 gIx (eVar 0) (eC (.int 3)))) gPUrged_t1 gPUrged_b1
def gPUrged_2 : PEn → Out Fl :=
  sRet (eOp1 gTuple (eVar 3))
def gPUrged : PEn → Out Fl := (sSeq gPUrged_0 (sSeq gPUrged_1 gPUrged_2))
def MPUrged : List Arg → FO := den gPUrged 3 10
def gPIsEnd_0 : PEn → Out Fl :=
  sRet (eOp2 gEq (eCall MPUrged [false, false, false] (aCons (eVar 0) (aCons (eVar 1) (aCons (eVar 2) (aNil))))) (eTup (aNil)))
def gPIsEnd : PEn → Out Fl := gPIsEnd_0
def MPIsEnd : List Arg → FO := den gPIsEnd 3 3
def gLValue_0 : PEn → Out Fl :=
  sRet (eOp2 gAdd (eOp2 gAdd (eOp2 gMul (eOp2 gIx (eVar 0) (eC (.int 0))) (eOp2 gIx (eVar 1) (eC (.int 0)))) (eOp2 gMul (eOp2 gIx (eVar 0) (eC (.int 1))) (eOp2 gIx (eVar 1) (eC (.int 1))))) (eOp2 gIx (eVar 0) (eC (.int 2))))
def gLValue : PEn → Out Fl := gLValue_0
def MLValue : List Arg → FO := den gLValue 2 2
def gLNumbers_0 : PEn → Out Fl :=
  sSet 2 (eCall MDraw [true, false] (aCons (eVar 0) (aCons (eOp2 gAdd (eVar 1) (eC (.int 1))) (aNil))))
def gLNumbers_1 : PEn → Out Fl :=
  sRet (eTup (aCons (eVar 2) (aCons (eCall MDraw [true, false] (aCons (eVar 0) (aCons (eC (.int 4)) (aNil)))) (aCons (eCall MOne [true, false] (aCons (eVar 0) (aCons (eLst (aCons (eC (.int 0)) (aCons (eOp2 gMin2 (eC (.int 1)) (eVar 2)) (aCons (eCall MDraw [true, false] (aCons (eVar 0) (aCons (eOp2 gAdd (eVar 2) (eC (.int 1))) (aNil)))) (aNil))))) (aNil)))) (aNil)))))
def gLNumbers : PEn → Out Fl := (sSeq gLNumbers_0 gLNumbers_1)
def MLNumbers : List Arg → FO := den gLNumbers 2 3
def gLFirsts_0 : PEn → Out Fl :=
  sSet 3 (eOp2 gMul (eLst (aCons (eC (.int 0)) (aNil))) (eOp2 gIx (eVar 1) (eC (.int 0))))
def gLFirsts_b1 : PEn → Out Fl :=
  sSeq (sSet 5 (eCall MOne [true, false] (aCons (eVar 0) (aCons (eOp1 gList (eOp2 gIx (eVar 1) (eC (.int 2)))) (aNil))))) (sStore 3 (eVar 5) (eOp2 gAdd (eOp2 gIx (eVar 3) (eVar 5)) (eC (.int 1))))
abbrev gLFirsts_t1 : PyData → Option (List (Nat × PyData)) := gNm 4
def gLFirsts_1 : PEn → Out Fl :=
  sFor (iRange1 (eOp2 gMin2 (eC (.int 60)) (eOp2 gSub (eOp2 gIx (eVar 2) (eC (.int 0))) (eOp2 gIx (eVar 2) (eC (.int 2)))))) gLFirsts_t1 gLFirsts_b1
def gLFirsts_2 : PEn → Out Fl :=
  sSet 6 (eOp2 gIx (eOp2 gIx (eVar 1) (eC (.int 2))) (eC (.int 0)))
def gLFirsts_3 : PEn → Out Fl :=
  sStore 3 (eVar 6) (eOp2 gSub (eOp2 gSub (eOp2 gAdd (eOp2 gIx (eVar 3) (eVar 6)) (eOp2 gIx (eVar 2) (eC (.int 0)))) (eOp2 gIx (eVar 2) (eC (.int 2)))) (eOp1 gSum (eVar 3)))
def gLFirsts_4 : PEn → Out Fl :=
  sRet (eOp1 gTuple (eVar 3))
def gLFirsts : PEn → Out Fl := (sSeq gLFirsts_0 (sSeq gLFirsts_1 (sSeq gLFirsts_2 (sSeq gLFirsts_3 gLFirsts_4))))
def MLFirsts : List Arg → FO := den gLFirsts 3 7
def gLIsHeard_0 : PEn → Out Fl :=
  sRet (eOp2 gGe (eOp2 gAdd (eOp2 gIx (eOp2 gIx (eVar 1) (eC (.int 1))) (eOp2 gIx (eVar 2) (eC (.int 0)))) (eVar 3)) (eCall MLValue [false, false] (aCons (eOp2 gIx (eVar 2) (eC (.int 1))) (aCons (eVar 0) (aNil)))))
def gLIsHeard : PEn → Out Fl := gLIsHeard_0
def MLIsHeard : List Arg → FO := den gLIsHeard 4 4
def gLTakers_0 : PEn → Out Fl :=
  sSet 4 (eLst (aNil))
def gLTakers_b1 : PEn → Out Fl :=
  sSeq (sSet 7 (eComp (iSeq (eOp2 gIx (eVar 6) (eC (.int 2)))) [8] (gNm 8) (tNotD (tTru (eCall MLIsHeard [false, false, false, false] (aCons (eVar 1) (aCons (eVar 2) (aCons (eVar 8) (aCons (eVar 3) (aNil)))))))) (eC (.int 1)))) (sIf (tAndD (tBoo (eOp2 gGt (eOp2 gIx (eOp2 gIx (eVar 2) (eC (.int 0))) (eOp2 gIx (eVar 6) (eC (.int 0)))) (eC (.int 0)))) (tBoo (eOp2 gEq (eVar 7) (eLst (aNil))))) (sExpr (eApp 4 (eVar 5))) (sSkip))
abbrev gLTakers_t1 : PyData → Option (List (Nat × PyData)) := gTp 2 (gsC (gNm 5) (gsC (gNm 6) (gsN)))
def gLTakers_1 : PEn → Out Fl :=
  sFor (iEnumD (eOp2 gIx (eVar 0) (eC (.int 3)))) gLTakers_t1 gLTakers_b1
def gLTakers_2 : PEn → Out Fl :=
  sRet (eVar 4)
def gLTakers : PEn → Out Fl := (sSeq gLTakers_0 (sSeq gLTakers_1 gLTakers_2))
def MLTakers : List Arg → FO := den gLTakers 4 9
def gLBehind_0 : PEn → Out Fl :=
  sPar [3, 4] (aCons (eOp1 gList (eOp2 gIx (eVar 0) (eC (.int 0)))) (aCons (eOp1 gList (eOp2 gIx (eVar 0) (eC (.int 1)))) (aNil)))
def gLBehind_1 : PEn → Out Fl :=
  sStore 3 (eOp2 gIx (eVar 1) (eC (.int 0))) (eOp2 gSub (eOp2 gIx (eVar 3) (eOp2 gIx (eVar 1) (eC (.int 0)))) (eVar 2))
def gLBehind_2 : PEn → Out Fl :=
  sStore 3 (eOp2 gIx (eVar 1) (eC (.int 1))) (eOp2 gAdd (eOp2 gIx (eVar 3) (eOp2 gIx (eVar 1) (eC (.int 1)))) (eVar 2))
def gLBehind_b3 : PEn → Out Fl :=
  sStore 4 (eVar 5) (eOp2 gAdd (eOp2 gIx (eVar 4) (eVar 5)) (eVar 2))
abbrev gLBehind_t3 : PyData → Option (List (Nat × PyData)) := gNm 5
def gLBehind_3 : PEn → Out Fl :=
  sFor (iSeq (eOp2 gIx (eVar 1) (eC (.int 3)))) gLBehind_t3 gLBehind_b3
def gLBehind_4 : PEn → Out Fl :=
  sRet (eTup (aCons (eOp1 gTuple (eVar 3)) (aCons (eOp1 gTuple (eVar 4)) (aNil))))
def gLBehind : PEn → Out Fl := (sSeq gLBehind_0 (sSeq gLBehind_1 (sSeq gLBehind_2 (sSeq gLBehind_3 gLBehind_4))))
def MLBehind : List Arg → FO := den gLBehind 3 6
def gLRun_0 : PEn → Out Fl :=
  sSet 5 (eLst (aNil))
def gLRun_b1 : PEn → Out Fl :=
  sSeq (sSet 7 (eCall MLTakers [false, false, false, false] (aCons (eVar 1) (aCons (eVar 2) (aCons (eVar 3) (aCons (eOp2 gIx (eVar 2) (eC (.int 2))) (aNil))))))) (sIf (tBoo (eOp2 gNe (eVar 7) (eLst (aNil)))) (sSeq (sSet 8 (eCall MOne [true, false] (aCons (eVar 0) (aCons (eVar 7) (aNil))))) (sSeq (sSet 9 (eOp2 gIx (eOp2 gIx (eVar 3) (eC (.int 0))) (eOp2 gIx (eOp2 gIx (eOp2 gIx (eVar 1) (eC (.int 3))) (eVar 8)) (eC (.int 0))))) (sSeq (sSet 10 (eCall MOne [true, false] (aCons (eVar 0) (aCons (eLst (aCons (eC (.int 1)) (aCons (eVar 9) (aCons (eOp2 gAdd (eC (.int 1)) (eCall MDraw [true, false] (aCons (eVar 0) (aCons (eVar 9) (aNil))))) (aNil))))) (aNil))))) (sSeq (sExpr (eApp 5 (eTup (aCons (eVar 8) (aCons (eVar 10) (aNil)))))) (sSet 3 (eCall MLBehind [false, false, false] (aCons (eVar 3) (aCons (eOp2 gIx (eOp2 gIx (eVar 1) (eC (.int 3))) (eVar 8)) (aCons (eVar 10) (aNil)))))))))) (sSkip))
abbrev gLRun_t1 : PyData → Option (List (Nat × PyData)) := gNm 6
def gLRun_1 : PEn → Out Fl :=
  sFor (iRange1 (eCall MDraw [true, false] (aCons (eVar 0) (aCons (eOp2 gAdd (eVar 4) (eC (.int 1))) (aNil))))) gLRun_t1 gLRun_b1
def gLRun_2 : PEn → Out Fl :=
  sRet (eTup (aCons (eOp1 gTuple (eVar 5)) (aCons (eVar 3) (aNil))))
def gLRun : PEn → Out Fl := (sSeq gLRun_0 (sSeq gLRun_1 gLRun_2))
def MLRun : List Arg → FO := den gLRun 5 11
def gLAt_0 : PEn → Out Fl :=
  sRet (eOp2 gAdd (eOp2 gAdd (eSl (eVar 0) (oNo) (oYes (eVar 1))) (eTup (aCons (eVar 2) (aNil)))) (eSl (eVar 0) (oYes (eOp2 gAdd (eVar 1) (eC (.int 1)))) (oNo)))
def gLAt : PEn → Out Fl := gLAt_0
def MLAt : List Arg → FO := den gLAt 3 3
end PD

/-! PDCrA: crowds, what is heard in them, who can be taken. -/
namespace PD
open PySem PySem.Spec PyProof.Rows L2
theorem call_d4v {M : List Arg → FO} {f f' f'' f3 : PEn → Out Val} {d d' d'' d3 w : PyData} {r : PEn} (hf : f r = .ok (.v d) r) (hf' : f' r = .ok (.v d') r) (hf'' : f'' r = .ok (.v d'') r) (hf3 : f3 r = .ok (.v d3) r) (hM : M [.d d, .d d', .d d'', .d d3] = .ok (.v w) [.d d, .d d', .d d'', .d d3]) :
    eCall M [false, false, false, false] (aCons f (aCons f' (aCons f'' (aCons f3 aNil)))) r = .ok (.v w) r := by
  unfold eCall
  rw [aC hf (aC hf' (aC hf'' (aC hf3 aN)))]
  show callD M [false, false, false, false] [.v d, .v d', .v d'', .v d3] r = _
  simp only [callD, prep, prep1, Val.fz, places, apart, if_true, argsOf, argOf, hM, okB, backs, upB_none, Rs.val]
theorem call_d4n {M : List Arg → FO} {f f' f'' f3 : PEn → Out Val} {d d' d'' d3 : PyData} {ws : List PyData} {r : PEn} (hf : f r = .ok (.v d) r) (hf' : f' r = .ok (.v d') r) (hf'' : f'' r = .ok (.v d'') r) (hf3 : f3 r = .ok (.v d3) r) (hM : M [.d d, .d d', .d d'', .d d3] = .ok (.n ws) [.d d, .d d', .d d'', .d d3]) :
    eCall M [false, false, false, false] (aCons f (aCons f' (aCons f'' (aCons f3 aNil)))) r = .ok (.n ws) r := by
  unfold eCall
  rw [aC hf (aC hf' (aC hf'' (aC hf3 aN)))]
  show callD M [false, false, false, false] [.v d, .v d', .v d'', .v d3] r = _
  simp only [callD, prep, prep1, Val.fz, places, apart, if_true, argsOf, argOf, hM, okB, backs, upB_none, Rs.val]
structure Crw where
  cts : List Int
  sd : List Int
def crD (c : Crw) : PyData := .tuple [.tuple (c.cts.map .int), .tuple (c.sd.map .int)]
structure CrOk (q : Prt) (M : Int) (k : Crw) : Prop where
  cl : (k.cts.length : Int) = q.many
  sl : (k.sd.length : Int) = q.kinds
  c : ∀ x ∈ k.cts, 0 ≤ x ∧ x ≤ M
  s : ∀ x ∈ k.sd, 0 ≤ x ∧ x ≤ M
abbrev I3 := Int × Int × Int
def val (b m : I3) : Int := b.1 * m.1 + b.2.1 * m.2.1 + b.2.2
def atL (xs : List Int) (i : Int) : Int := xs.getD i.toNat 0
theorem atL_some {xs : List Int} {i : Int} (h : 0 ≤ i ∧ i < xs.length) : xs[i.toNat]? = some (atL xs i) := by
  have : i.toNat < xs.length := by omega
  unfold atL
  rw [List.getD_eq_getElem?_getD, List.getElem?_eq_getElem this]
  rfl
theorem atL_mem {xs : List Int} {i : Int} (h : 0 ≤ i ∧ i < xs.length) : atL xs i ∈ xs := List.mem_of_getElem? (atL_some h)
theorem ixI {xs : List Int} {i : Int} (h : 0 ≤ i ∧ i < xs.length) : gIx (.tuple (xs.map .int)) (.int i) = some (.v (.int (atL xs i))) := by
  obtain ⟨n, rfl⟩ := Int.eq_ofNat_of_zero_le h.1
  exact ix_nat (by rw [List.getElem?_map, show n = ((n : Nat) : Int).toNat from rfl, atL_some h]; rfl)
theorem ixIl {xs : List Int} {i : Int} (h : 0 ≤ i ∧ i < xs.length) : gIx (.list (xs.map .int)) (.int i) = some (.v (.int (atL xs i))) := by
  obtain ⟨n, rfl⟩ := Int.eq_ofNat_of_zero_le h.1
  exact ixl_nat (by rw [List.getElem?_map, show n = ((n : Nat) : Int).toNat from rfl, atL_some h]; rfl)
theorem Bnd.l {b m : I3} (h : Bnd b) : gMul (.int b.1) (.int m.1) = some (.v (.int (b.1 * m.1))) := gMul_l ⟨by have := h.1.1; omega, by have := h.1.2; omega⟩
theorem Bnd.r {b m : I3} (h : Bnd b) : gMul (.int b.2.1) (.int m.2.1) = some (.v (.int (b.2.1 * m.2.1))) := gMul_l ⟨by have := h.2.1.1; omega, by have := h.2.1.2; omega⟩
theorem bound_value_ok {b m : I3} (hb : Bnd b) : MPBoundValue [.d (bndD b), .d (bndD m)] = .ok (.v (.int (val b m))) [.d (bndD b), .d (bndD m)] := by
  have h1 := hb.l (m := m)
  have h2 := hb.r (m := m)
  have s0 : gPBoundValue_0 [.d (bndD b), .d (bndD m), .u, .u, .u, .u, .u, .u] = .ok .next [.d (bndD b), .d (bndD m), .d (.int b.1), .d (.int b.2.1), .d (.int b.2.2), .u, .u, .u] := by
    unfold gPBoundValue_0
    get_elem_tactic_extensible
  have s1 : gPBoundValue_1 [.d (bndD b), .d (bndD m), .d (.int b.1), .d (.int b.2.1), .d (.int b.2.2), .u, .u, .u] = .ok .next [.d (bndD b), .d (bndD m), .d (.int b.1), .d (.int b.2.1), .d (.int b.2.2), .d (.int m.1), .d (.int m.2.1), .d (.int m.2.2)] := by
    unfold gPBoundValue_1
    get_elem_tactic_extensible
  refine den_ret rfl (v := .v (.int (val b m))) (r := [.d (bndD b), .d (bndD m), .d (.int b.1), .d (.int b.2.1), .d (.int b.2.2), .d (.int m.1), .d (.int m.2.1), .d (.int m.2.2)]) ?_ rfl rfl
  show gPBoundValue [.d (bndD b), .d (bndD m), .u, .u, .u, .u, .u, .u] = _
  unfold gPBoundValue gPBoundValue_2
  refine (seqN s0).trans ((seqN s1).trans (ret_ ?_))
  show _ = Out.ok (Val.v (.int (b.1 * m.1 + b.2.1 * m.2.1 + b.2.2))) _
  get_elem_tactic_extensible
theorem value_ok {b m : I3} (hb : Bnd b) : MLValue [.d (bndD b), .d (bndD m)] = .ok (.v (.int (val b m))) [.d (bndD b), .d (bndD m)] := by
  have h1 := hb.l (m := m)
  have h2 := hb.r (m := m)
  refine den_ret rfl (v := .v (.int (val b m))) (r := [.d (bndD b), .d (bndD m)]) ?_ rfl rfl
  show gLValue [.d (bndD b), .d (bndD m)] = _
  unfold gLValue gLValue_0
  refine ret_ ?_
  show _ = Out.ok (Val.v (.int (b.1 * m.1 + b.2.1 * m.2.1 + b.2.2))) _
  get_elem_tactic_extensible
/-! ### what is heard -/
def heard (m : I3) (k : Crw) (aid : Int) (c : Cnd) : Bool := decide (val c.2 m ≤ atL k.sd c.1 + aid)
theorem is_heard_ok {m : I3} {k : Crw} {c : Cnd} {aid kinds : Int} (hs : (k.sd.length : Int) = kinds) (hc : CndP kinds c) : MLIsHeard [.d (bndD m), .d (crD k), .d (cndD c), .d (.int aid)] = .ok (.v (.bool (heard m k aid c))) [.d (bndD m), .d (crD k), .d (cndD c), .d (.int aid)] := by
  have h1 := value_ok (m := m) (b := c.2) hc.2
  have h2 := ixI (xs := k.sd) (i := c.1) ⟨hc.1.1, by have := hc.1.2; omega⟩
  refine den_ret rfl (v := .v (.bool (heard m k aid c))) (r := [.d (bndD m), .d (crD k), .d (cndD c), .d (.int aid)]) ?_ rfl rfl
  show gLIsHeard [.d (bndD m), .d (crD k), .d (cndD c), .d (.int aid)] = _
  unfold gLIsHeard gLIsHeard_0
  refine ret_ ?_
  show _ = Out.ok (Val.v (.bool (decide (val c.2 m ≤ atL k.sd c.1 + aid)))) _
  get_elem_tactic_extensible
theorem hears_ok {m : I3} {k : Crw} {c : Cnd} {kinds : Int} (hs : (k.sd.length : Int) = kinds) (hc : CndP kinds c) : MPHears [.d (bndD m), .d (crD k), .d (cndD c)] = .ok (.v (.bool (heard m k 0 c))) [.d (bndD m), .d (crD k), .d (cndD c)] := by
  have h1 := bound_value_ok (m := m) (b := c.2) hc.2
  have h2 := ixI (xs := k.sd) (i := c.1) ⟨hc.1.1, by have := hc.1.2; omega⟩
  have s0 : gPHears_0 [.d (bndD m), .d (crD k), .d (cndD c), .u, .u] = .ok .next [.d (bndD m), .d (crD k), .d (cndD c), .d (.int c.1), .d (bndD c.2)] := by
    unfold gPHears_0
    get_elem_tactic_extensible
  refine den_ret rfl (v := .v (.bool (heard m k 0 c))) (r := [.d (bndD m), .d (crD k), .d (cndD c), .d (.int c.1), .d (bndD c.2)]) ?_ rfl rfl
  show gPHears [.d (bndD m), .d (crD k), .d (cndD c), .u, .u] = _
  unfold gPHears gPHears_1 heard
  rw [Int.add_zero]
  refine (seqN s0).trans (ret_ ?_)
  get_elem_tactic_extensible
theorem can_hear_ok {m : I3} {k : Crw} {c : Cnd} {kinds : Int} (hs : (k.sd.length : Int) = kinds) (hc : CndP kinds c) : MPCanHear [.d (bndD m), .d (crD k), .d (cndD c)] = .ok (.v (.bool (heard m k m.2.2 c))) [.d (bndD m), .d (crD k), .d (cndD c)] := by
  have h1 := bound_value_ok (m := m) (b := c.2) hc.2
  have h2 := ixI (xs := k.sd) (i := c.1) ⟨hc.1.1, by have := hc.1.2; omega⟩
  have s0 : gPCanHear_0 [.d (bndD m), .d (crD k), .d (cndD c), .u, .u] = .ok .next [.d (bndD m), .d (crD k), .d (cndD c), .d (.int c.1), .d (bndD c.2)] := by
    unfold gPCanHear_0
    get_elem_tactic_extensible
  refine den_ret rfl (v := .v (.bool (heard m k m.2.2 c))) (r := [.d (bndD m), .d (crD k), .d (cndD c), .d (.int c.1), .d (bndD c.2)]) ?_ rfl rfl
  show gPCanHear [.d (bndD m), .d (crD k), .d (cndD c), .u, .u] = _
  unfold gPCanHear gPCanHear_1 heard
  refine (seqN s0).trans (ret_ ?_)
  get_elem_tactic_extensible
/-! ### rules picked by a test -/
def sel (P : Ru → Bool) (us : List Ru) : List Int := (us.zipIdx.filter fun p => P p.1).map fun p => (p.2 : Int)
theorem sel_succ {P : Ru → Bool} {us : List Ru} {i : Nat} {u : Ru} (h : us[i]? = some u) : sel P (us.take (i + 1)) = sel P (us.take i) ++ (if P u = true then [(i : Int)] else []) := by
  have hi : i < us.length := (List.getElem?_eq_some_iff.mp h).1
  unfold sel
  rw [List.take_add_one, h, List.zipIdx_append, List.filter_append, List.map_append, List.length_take, Nat.min_eq_left (Nat.le_of_lt hi), Nat.zero_add]
  congr 1
  show List.map _ (List.filter _ [(u, i)]) = _
  rw [List.filter_cons]
  cases P u <;> rfl
theorem sel_len (P : Ru → Bool) (us : List Ru) : (sel P us).length ≤ us.length := by
  unfold sel
  rw [List.length_map]
  exact Nat.le_trans (List.length_filter_le _ _) (by rw [List.length_zipIdx]; exact Nat.le_refl _)
theorem sel_mem {P : Ru → Bool} {us : List Ru} {x : Int} (h : x ∈ sel P us) : ∃ (i : Nat) (u : Ru), x = i ∧ us[i]? = some u ∧ P u = true := by
  obtain ⟨p, hp, rfl⟩ := List.mem_map.mp h
  have h1 := List.mem_filter.mp hp
  obtain ⟨u, i⟩ := p
  have := List.mem_zipIdx h1.1
  refine ⟨i, u, rfl, ?_, h1.2⟩
  have hi : i < us.length := by omega
  rw [List.getElem?_eq_getElem hi]
  simpa using this.2.2.symm
def tak (q : Prt) (m : I3) (k : Crw) (aid : Int) : List Int := sel (fun u => decide (0 < atL k.cts u.s) && u.cs.all (heard m k aid)) q.ru
theorem gAll_cnds (cs : List Cnd) (f : Cnd → Bool) (w : PyData → PyData) (hw : ∀ c ∈ cs, w (cndD c) = .bool (f c)) : gAll (.list ((cs.map cndD).map w)) = some (.v (.bool (cs.all f))) := by
  have h : (cs.map cndD).map w = cs.map fun c => PyData.bool (f c) := by
    rw [List.map_map]
    exact List.map_congr_left hw
  rw [h]
  exact gAll_map f cs
theorem gEq_onesC (cs : List Cnd) (f : Cnd → Bool) (q : PyData → Bool) (hq : ∀ c ∈ cs, q (cndD c) = !f c) : gEq (.list (((cs.map cndD).filter q).map fun _ => .int 1)) (.list []) = some (.v (.bool (cs.all f))) := by
  rw [gEq_ones]
  congr 3
  rw [List.all_map]
  have : ∀ l : List Cnd, (∀ c ∈ l, q (cndD c) = !f c) → l.all ((fun x => !q x) ∘ cndD) = l.all f := fun l => by
    induction l with
    | nil => intro _; rfl
    | cons c l ih =>
      intro h
      rw [List.all_cons, List.all_cons, ih fun x hx => h x (List.mem_cons_of_mem _ hx)]
      show (!q (cndD c) && _) = _
      rw [h c List.mem_cons_self, Bool.not_not]
  exact this cs hq
/-- w of a condition as data -/
def liftC (f : Cnd → Bool) (d : PyData) : Bool := match cnd? d with | some c => f c | none => false
theorem cnd?_D (c : Cnd) : cnd? (cndD c) = some c := rfl
theorem liftC_D (f : Cnd → Bool) (c : Cnd) : liftC f (cndD c) = f c := rfl
/-- and, the second a test that does not move the environment -/
theorem ta_ {t u : PEn → Out Bool} {a b : Bool} {r : PEn} (h : t r = .ok a r) (h2 : u r = .ok b r) : tAndD t u r = .ok (a && b) r := by
  cases a with
  | true => rw [taT h, h2]; rfl
  | false => rw [taF h]; rfl
end PD

/-! PDCrB: who can be taken. -/
namespace PD
open PySem PySem.Spec PyProof.Rows L2
theorem frees2 {r : PEn} {i j : Nat} {z w : Sl} {d e : PyData} (h1 : Loc z) (e1 : r[i]? = some z) (h2 : Loc w) (e2 : r[j]? = some w) : (free r i && (free r j && true)) = true := by
  rw [h1.free e1, h2.free e2]
  rfl
/-! ### the law's: _law_takers -/
theorem takers_ok {q : Prt} (hq : PrOk q) {m : I3} {k : Crw} {M : Int} (hk : CrOk q M k) {aid : Int} : MLTakers [.d (prD q), .d (bndD m), .d (crD k), .d (.int aid)] = .ok (.n ((tak q m k aid).map .int)) [.d (prD q), .d (bndD m), .d (crD k), .d (.int aid)] := by
  have s0 : gLTakers_0 [.d (prD q), .d (bndD m), .d (crD k), .d (.int aid), .u, .u, .u, .u, .u] = .ok .next [.d (prD q), .d (bndD m), .d (crD k), .d (.int aid), .l false [], .u, .u, .u, .u] := by
    unfold gLTakers_0
    get_elem_tactic_extensible
  have loop := for_inv (g := gLTakers_t1) (body := gLTakers_b1) (fun i r => ∃ z5 z6 z7, Loc z5 ∧ Loc z6 ∧ Loc z7 ∧ r = [.d (prD q), .d (bndD m), .d (crD k), .d (.int aid), .l false ((sel (fun u => decide (0 < atL k.cts u.s) && u.cs.all (heard m k aid)) (q.ru.take i)).map .int), z5, z6, z7, .u]) (enumD (q.ru.map ruD)) 0
    [.d (prD q), .d (bndD m), .d (crD k), .d (.int aid), .l false [], .u, .u, .u, .u] ⟨.u, .u, .u, .u, .u, .u, rfl⟩ ?_
  · obtain ⟨r', el, z5, z6, z7, _, _, _, rfl⟩ := loop
    rw [enum_len, List.length_map, Nat.zero_add, List.take_length] at el
    have s1 : gLTakers_1 [.d (prD q), .d (bndD m), .d (crD k), .d (.int aid), .l false [], .u, .u, .u, .u] = .ok .next [.d (prD q), .d (bndD m), .d (crD k), .d (.int aid), .l false ((tak q m k aid).map .int), z5, z6, z7, .u] := by
      unfold gLTakers_1 sFor
      rw [ienum_t (xs := q.ru.map ruD) (ev2v (evV rfl) evC rfl rfl ix3)]
      exact el
    refine den_ret rfl (v := .b 4) (r := [.d (prD q), .d (bndD m), .d (crD k), .d (.int aid), .l false ((tak q m k aid).map .int), z5, z6, z7, .u]) ?_ rfl rfl
    show gLTakers [.d (prD q), .d (bndD m), .d (crD k), .d (.int aid), .u, .u, .u, .u, .u] = _
    unfold gLTakers gLTakers_2
    exact (seqN s0).trans ((seqN s1).trans (ret_ (evL rfl)))
  · rintro i d r hi ⟨z5, z6, z7, h5, h6, h7, rfl⟩
    obtain ⟨x, hx, rfl⟩ := enum_at hi
    rw [List.getElem?_map] at hx
    obtain ⟨u, hu, rfl⟩ := Option.map_eq_some_iff.mp hx
    have hum := List.mem_of_getElem? hu
    have hil : i < q.ru.length := (List.getElem?_eq_some_iff.mp hu).1
    have hr := hq.r u hum
    rw [Nat.zero_add]
    have hs := sel_succ (P := fun u => decide (0 < atL k.cts u.s) && u.cs.all (heard m k aid)) hu
    have hl := sel_len (fun u => decide (0 < atL k.cts u.s) && u.cs.all (heard m k aid)) (q.ru.take i)
    rw [List.length_take] at hl
    generalize sel (fun u => decide (0 < atL k.cts u.s) && u.cs.all (heard m k aid)) (q.ru.take i) = F at hs hl ⊢
    have c := comp_fm (own := [8]) (g := gNm 8) (t := tNotD (tTru (eCall MLIsHeard [false, false, false, false] (aCons (eVar 1) (aCons (eVar 2) (aCons (eVar 8) (aCons (eVar 3) (aNil)))))))) (f := eC (.int 1)) (w := fun _ => .int 1) (q := fun d => !liftC (heard m k aid) d) (s := iSeq (eOp2 gIx (eVar 6) (eC (.int 2)))) (items := u.cs.map cndD)
      (r := [.d (prD q), .d (bndD m), .d (crD k), .d (.int aid), .l false (F.map .int), .d (.int (i : Nat)), .d (ruD u), z7, .u])
      (r0 := [.d (prD q), .d (bndD m), .d (crD k), .d (.int aid), .l false (F.map .int), .d (.int (i : Nat)), .d (ruD u), z7, .u])
      (iseq_t (ev2v (evV rfl) evC rfl rfl ix2)) (few1 (by have := hr.cl; rw [List.length_map]; omega)) rfl rfl (fun d hd => by
        obtain ⟨c, hc, rfl⟩ := List.mem_map.mp hd
        have h1 := is_heard_ok (m := m) (aid := aid) hk.sl (hr.c c hc)
        refine ⟨[(8, cndD c)], [.d (prD q), .d (bndD m), .d (crD k), .d (.int aid), .l false (F.map .int), .d (.int (i : Nat)), .d (ruD u), z7, .d (cndD c)], rfl, rfl, rfl, ?_, evC, rfl⟩
        exact tn_ (tt_ (call_d4v (evV rfl) (evV rfl) (evV rfl) (evV rfl) h1) rfl truth_bool))
    have e1 : sSet 7 (eComp (iSeq (eOp2 gIx (eVar 6) (eC (.int 2)))) [8] (gNm 8) (tNotD (tTru (eCall MLIsHeard [false, false, false, false] (aCons (eVar 1) (aCons (eVar 2) (aCons (eVar 8) (aCons (eVar 3) (aNil)))))))) (eC (.int 1))) [.d (prD q), .d (bndD m), .d (crD k), .d (.int aid), .l false (F.map .int), .d (.int (i : Nat)), .d (ruD u), z7, .u]
        = .ok .next [.d (prD q), .d (bndD m), .d (crD k), .d (.int aid), .l false (F.map .int), .d (.int (i : Nat)), .d (ruD u), .l false (((u.cs.map cndD).filter fun d => !liftC (heard m k aid) d).map fun _ => .int 1), .u] := set_nE c (h7.free rfl) rfl
    have t1 : tBoo (eOp2 gEq (eVar 7) (eLst (aNil))) [.d (prD q), .d (bndD m), .d (crD k), .d (.int aid), .l false (F.map .int), .d (.int (i : Nat)), .d (ruD u), .l false (((u.cs.map cndD).filter fun d => !liftC (heard m k aid) d).map fun _ => .int 1), .u]
        = .ok (u.cs.all (heard m k aid)) [.d (prD q), .d (bndD m), .d (crD k), .d (.int aid), .l false (F.map .int), .d (.int (i : Nat)), .d (ruD u), .l false (((u.cs.map cndD).filter fun d => !liftC (heard m k aid) d).map fun _ => .int 1), .u] :=
      tb_ (ev2v (evL rfl) lst_nil rfl rfl (gEq_onesC _ _ _ fun _ _ => rfl))
    have hix := ixI (xs := k.cts) (i := u.s) ⟨hr.st.1, by have := hk.cl; have := hr.st; omega⟩
    have t0 : tBoo (eOp2 gGt (eOp2 gIx (eOp2 gIx (eVar 2) (eC (.int 0))) (eOp2 gIx (eVar 6) (eC (.int 0)))) (eC (.int 0))) [.d (prD q), .d (bndD m), .d (crD k), .d (.int aid), .l false (F.map .int), .d (.int (i : Nat)), .d (ruD u), .l false (((u.cs.map cndD).filter fun d => !liftC (heard m k aid) d).map fun _ => .int 1), .u]
        = .ok (decide (0 < atL k.cts u.s)) [.d (prD q), .d (bndD m), .d (crD k), .d (.int aid), .l false (F.map .int), .d (.int (i : Nat)), .d (ruD u), .l false (((u.cs.map cndD).filter fun d => !liftC (heard m k aid) d).map fun _ => .int 1), .u] :=
      tb_ (ev2v (ev2v (ev2v (evV rfl) evC rfl rfl (ix0 _ _)) (ev2v (evV rfl) evC rfl rfl (ix0 _ _)) rfl rfl hix) evC rfl rfl gGt_int)
    have t := ta_ t0 t1
    have fr : frees [(5, PyData.int (i : Nat)), (6, ruD u)] [.d (prD q), .d (bndD m), .d (crD k), .d (.int aid), .l false (F.map .int), z5, z6, z7, .u] = true := frees2 (d := .none) (e := .none) h5 rfl h6 rfl
    cases ha : (decide (0 < atL k.cts u.s) && u.cs.all (heard m k aid)) with
    | true =>
      rw [ha] at t
      rw [hs, if_pos ha, List.map_append]
      refine ⟨[(5, .int (i : Nat)), (6, ruD u)], _, rfl, fr, .inl ?_, _, _, _, .d (d := .int (i : Nat)), .d (d := ruD u), .l (xs := ((u.cs.map cndD).filter fun d => !liftC (heard m k aid) d).map fun _ => .int 1), rfl⟩
      show gLTakers_b1 [.d (prD q), .d (bndD m), .d (crD k), .d (.int aid), .l false (F.map .int), .d (.int (i : Nat)), .d (ruD u), z7, .u] = _
      unfold gLTakers_b1
      exact (seqN e1).trans ((ifT t).trans (app_E rfl (evV rfl) rfl (Nat.lt_of_lt_of_le (show _ < 10 by rw [List.length_map]; have := hq.rl; omega) (by decide)) rfl))
    | false =>
      rw [ha] at t
      rw [hs, if_neg (by rw [ha]; decide), List.append_nil]
      refine ⟨[(5, .int (i : Nat)), (6, ruD u)], _, rfl, fr, .inl ?_, _, _, _, .d (d := .int (i : Nat)), .d (d := ruD u), .l (xs := ((u.cs.map cndD).filter fun d => !liftC (heard m k aid) d).map fun _ => .int 1), rfl⟩
      show gLTakers_b1 [.d (prD q), .d (bndD m), .d (crD k), .d (.int aid), .l false (F.map .int), .d (.int (i : Nat)), .d (ruD u), z7, .u] = _
      unfold gLTakers_b1
      exact (seqN e1).trans ((ifF t).trans rfl)
/-! ### the program's: can_take, urged -/
def gTk (M : List Arg → FO) : PEn → Out Fl := sIf (tAndD (tBoo (eOp2 gGt (eOp2 gIx (eOp2 gIx (eVar 2) (eC (.int 0))) (eVar 5)) (eC (.int 0)))) (tTru (eOp1 gAll (eComp (iSeq (eVar 7)) [9] (gNm 9) (tYesD) (eCall M [false, false, false] (aCons (eVar 1) (aCons (eVar 2) (aCons (eVar 9) (aNil))))))))) (sExpr (eApp 3 (eVar 4))) (sSkip)
theorem tk_ok {M : List Arg → FO} {g : PEn → Out Fl} (hg : g = sSeq gPCanTake_0 (sSeq (sFor (iEnumD (eOp2 gIx (eVar 0) (eC (.int 3)))) gPCanTake_t1 (gTk M)) gPCanTake_2)) {q : Prt} (hq : PrOk q) {m : I3} {k : Crw} {B : Int} (hk : CrOk q B k) {aid : Int}
    (hM : ∀ c, CndP q.kinds c → M [.d (bndD m), .d (crD k), .d (cndD c)] = .ok (.v (.bool (heard m k aid c))) [.d (bndD m), .d (crD k), .d (cndD c)]) :
    den g 3 10 [.d (prD q), .d (bndD m), .d (crD k)] = .ok (.v (.tuple ((tak q m k aid).map .int))) [.d (prD q), .d (bndD m), .d (crD k)] := by
  have s0 : gPCanTake_0 [.d (prD q), .d (bndD m), .d (crD k), .u, .u, .u, .u, .u, .u, .u] = .ok .next [.d (prD q), .d (bndD m), .d (crD k), .l false [], .u, .u, .u, .u, .u, .u] := by
    unfold gPCanTake_0
    get_elem_tactic_extensible
  have loop := for_inv (g := gPCanTake_t1) (body := gTk M) (fun i r => ∃ z4 z5 z6 z7 z8, Loc z4 ∧ Loc z5 ∧ Loc z6 ∧ Loc z7 ∧ Loc z8 ∧ r = [.d (prD q), .d (bndD m), .d (crD k), .l false ((sel (fun u => decide (0 < atL k.cts u.s) && u.cs.all (heard m k aid)) (q.ru.take i)).map .int), z4, z5, z6, z7, z8, .u]) (enumD (q.ru.map ruD)) 0
    [.d (prD q), .d (bndD m), .d (crD k), .l false [], .u, .u, .u, .u, .u, .u] ⟨.u, .u, .u, .u, .u, .u, .u, .u, .u, .u, rfl⟩ ?_
  · obtain ⟨r', el, z4, z5, z6, z7, z8, _, _, _, _, _, rfl⟩ := loop
    rw [enum_len, List.length_map, Nat.zero_add, List.take_length] at el
    have s1 : sFor (iEnumD (eOp2 gIx (eVar 0) (eC (.int 3)))) gPCanTake_t1 (gTk M) [.d (prD q), .d (bndD m), .d (crD k), .l false [], .u, .u, .u, .u, .u, .u] = .ok .next [.d (prD q), .d (bndD m), .d (crD k), .l false ((tak q m k aid).map .int), z4, z5, z6, z7, z8, .u] := by
      unfold sFor
      rw [ienum_t (xs := q.ru.map ruD) (ev2v (evV rfl) evC rfl rfl ix3)]
      exact el
    refine den_ret rfl (v := .v (.tuple ((tak q m k aid).map .int))) (r := [.d (prD q), .d (bndD m), .d (crD k), .l false ((tak q m k aid).map .int), z4, z5, z6, z7, z8, .u]) ?_ rfl rfl
    show g [.d (prD q), .d (bndD m), .d (crD k), .u, .u, .u, .u, .u, .u, .u] = _
    rw [hg]
    unfold gPCanTake_2
    exact (seqN s0).trans ((seqN s1).trans (ret_ (by get_elem_tactic_extensible)))
  · rintro i d r hi ⟨z4, z5, z6, z7, z8, h4, h5, h6, h7, h8, rfl⟩
    obtain ⟨x, hx, rfl⟩ := enum_at hi
    rw [List.getElem?_map] at hx
    obtain ⟨u, hu, rfl⟩ := Option.map_eq_some_iff.mp hx
    have hum := List.mem_of_getElem? hu
    have hil : i < q.ru.length := (List.getElem?_eq_some_iff.mp hu).1
    have hr := hq.r u hum
    rw [Nat.zero_add]
    have hs := sel_succ (P := fun u => decide (0 < atL k.cts u.s) && u.cs.all (heard m k aid)) hu
    have hl := sel_len (fun u => decide (0 < atL k.cts u.s) && u.cs.all (heard m k aid)) (q.ru.take i)
    rw [List.length_take] at hl
    generalize sel (fun u => decide (0 < atL k.cts u.s) && u.cs.all (heard m k aid)) (q.ru.take i) = F at hs hl ⊢
    have c := comp_map (own := [9]) (g := gNm 9) (f := eCall M [false, false, false] (aCons (eVar 1) (aCons (eVar 2) (aCons (eVar 9) (aNil))))) (w := fun d => .bool (liftC (heard m k aid) d)) (s := iSeq (eVar 7)) (items := u.cs.map cndD)
      (r := [.d (prD q), .d (bndD m), .d (crD k), .l false (F.map .int), .d (.int (i : Nat)), .d (.int u.s), .d (.int u.t), .d (.tuple (u.cs.map cndD)), .d (.tuple (u.ks.map .int)), .u])
      (r0 := [.d (prD q), .d (bndD m), .d (crD k), .l false (F.map .int), .d (.int (i : Nat)), .d (.int u.s), .d (.int u.t), .d (.tuple (u.cs.map cndD)), .d (.tuple (u.ks.map .int)), .u])
      (iseq_t (evV rfl)) (few1 (by have := hr.cl; rw [List.length_map]; omega)) rfl rfl (fun d hd => by
        obtain ⟨c, hc, rfl⟩ := List.mem_map.mp hd
        have h1 := hM c (hr.c c hc)
        refine ⟨[(9, cndD c)], [.d (prD q), .d (bndD m), .d (crD k), .l false (F.map .int), .d (.int (i : Nat)), .d (.int u.s), .d (.int u.t), .d (.tuple (u.cs.map cndD)), .d (.tuple (u.ks.map .int)), .d (cndD c)], rfl, rfl, rfl, ?_, rfl⟩
        exact call_d3v (evV rfl) (evV rfl) (evV rfl) h1)
    have t1 := tt_ (ev1v c rfl (gAll_cnds u.cs (heard m k aid) (fun d => .bool (liftC (heard m k aid) d)) fun _ _ => rfl)) rfl truth_bool
    have hix := ixI (xs := k.cts) (i := u.s) ⟨hr.st.1, by have := hk.cl; have := hr.st; omega⟩
    have t0 : tBoo (eOp2 gGt (eOp2 gIx (eOp2 gIx (eVar 2) (eC (.int 0))) (eVar 5)) (eC (.int 0))) [.d (prD q), .d (bndD m), .d (crD k), .l false (F.map .int), .d (.int (i : Nat)), .d (.int u.s), .d (.int u.t), .d (.tuple (u.cs.map cndD)), .d (.tuple (u.ks.map .int)), .u]
        = .ok (decide (0 < atL k.cts u.s)) [.d (prD q), .d (bndD m), .d (crD k), .l false (F.map .int), .d (.int (i : Nat)), .d (.int u.s), .d (.int u.t), .d (.tuple (u.cs.map cndD)), .d (.tuple (u.ks.map .int)), .u] :=
      tb_ (ev2v (ev2v (ev2v (evV rfl) evC rfl rfl (ix0 _ _)) (evV rfl) rfl rfl hix) evC rfl rfl gGt_int)
    have t := ta_ t0 t1
    have fr : frees [(4, PyData.int (i : Nat)), (5, .int u.s), (6, .int u.t), (7, .tuple (u.cs.map cndD)), (8, .tuple (u.ks.map .int))] [.d (prD q), .d (bndD m), .d (crD k), .l false (F.map .int), z4, z5, z6, z7, z8, .u] = true := by
      rcases h4 with rfl | ⟨d4, rfl⟩ | ⟨d4, rfl⟩ <;> rcases h5 with rfl | ⟨d5, rfl⟩ | ⟨d5, rfl⟩ <;> rcases h6 with rfl | ⟨d6, rfl⟩ | ⟨d6, rfl⟩ <;> rcases h7 with rfl | ⟨d7, rfl⟩ | ⟨d7, rfl⟩ <;> rcases h8 with rfl | ⟨d8, rfl⟩ | ⟨d8, rfl⟩ <;> rfl
    cases ha : (decide (0 < atL k.cts u.s) && u.cs.all (heard m k aid)) with
    | true =>
      rw [ha] at t
      rw [hs, if_pos ha, List.map_append]
      refine ⟨[(4, .int (i : Nat)), (5, .int u.s), (6, .int u.t), (7, .tuple (u.cs.map cndD)), (8, .tuple (u.ks.map .int))], _, rfl, fr, .inl ?_, _, _, _, _, _, .d (d := .int (i : Nat)), .d (d := .int u.s), .d (d := .int u.t), .d (d := .tuple (u.cs.map cndD)), .d (d := .tuple (u.ks.map .int)), rfl⟩
      show gTk M [.d (prD q), .d (bndD m), .d (crD k), .l false (F.map .int), .d (.int (i : Nat)), .d (.int u.s), .d (.int u.t), .d (.tuple (u.cs.map cndD)), .d (.tuple (u.ks.map .int)), .u] = _
      unfold gTk
      exact (ifT t).trans (app_E rfl (evV rfl) rfl (Nat.lt_of_lt_of_le (show _ < 10 by rw [List.length_map]; have := hq.rl; omega) (by decide)) rfl)
    | false =>
      rw [ha] at t
      rw [hs, if_neg (by rw [ha]; decide), List.append_nil]
      refine ⟨[(4, .int (i : Nat)), (5, .int u.s), (6, .int u.t), (7, .tuple (u.cs.map cndD)), (8, .tuple (u.ks.map .int))], _, rfl, fr, .inl ?_, _, _, _, _, _, .d (d := .int (i : Nat)), .d (d := .int u.s), .d (d := .int u.t), .d (d := .tuple (u.cs.map cndD)), .d (d := .tuple (u.ks.map .int)), rfl⟩
      show gTk M [.d (prD q), .d (bndD m), .d (crD k), .l false (F.map .int), .d (.int (i : Nat)), .d (.int u.s), .d (.int u.t), .d (.tuple (u.cs.map cndD)), .d (.tuple (u.ks.map .int)), .u] = _
      unfold gTk
      exact (ifF t).trans rfl
theorem can_take_ok {q : Prt} (hq : PrOk q) {m : I3} {k : Crw} {B : Int} (hk : CrOk q B k) : MPCanTake [.d (prD q), .d (bndD m), .d (crD k)] = .ok (.v (.tuple ((tak q m k m.2.2).map .int))) [.d (prD q), .d (bndD m), .d (crD k)] :=
  tk_ok (M := MPCanHear) rfl hq hk fun c hc => can_hear_ok hk.sl hc
theorem urged_ok {q : Prt} (hq : PrOk q) {m : I3} {k : Crw} {B : Int} (hk : CrOk q B k) : MPUrged [.d (prD q), .d (bndD m), .d (crD k)] = .ok (.v (.tuple ((tak q m k 0).map .int))) [.d (prD q), .d (bndD m), .d (crD k)] :=
  tk_ok (M := MPHears) rfl hq hk fun c hc => hears_ok hk.sl hc
theorem is_end_ok {q : Prt} (hq : PrOk q) {m : I3} {k : Crw} {B : Int} (hk : CrOk q B k) : MPIsEnd [.d (prD q), .d (bndD m), .d (crD k)] = .ok (.v (.bool (tak q m k 0).isEmpty)) [.d (prD q), .d (bndD m), .d (crD k)] := by
  have h := urged_ok hq hk (m := m)
  have g : gEq (.tuple ((tak q m k 0).map .int)) (.tuple []) = some (.v (.bool (tak q m k 0).isEmpty)) := by
    rw [gEq_tup0', List.isEmpty_map]
  refine den_ret rfl (v := .v (.bool (tak q m k 0).isEmpty)) (r := [.d (prD q), .d (bndD m), .d (crD k)]) ?_ rfl rfl
  show gPIsEnd [.d (prD q), .d (bndD m), .d (crD k)] = _
  unfold gPIsEnd gPIsEnd_0
  refine ret_ ?_
  exact ev2v (call_d3v (evV rfl) (evV rfl) (evV rfl) h) (tup_ aN rfl (by decide)) rfl rfl g
end PD

/-! PDCrC: crowds behind rules; drawn numbers, first crowds and runs. -/
namespace PD
open PySem PySem.Spec PyProof.Rows L2
theorem store_ {i : Nat} {fi f : PEn → Out Val} {q : Bool} {xs : List PyData} {k : Int} {w : PyData} {r r' : PEn} (hf : f r = .ok (.v w) r) (hi : fi r = .ok (.v (.int k)) r) (h : r[i]? = some (.l q xs)) (hk : 0 ≤ k ∧ k < xs.length) (he : r.set i (.l q (xs.set k.toNat w)) = r') : sStore i fi f r = .ok .next r' := by
  subst he
  have e : ixN xs.length k = some k.toNat := by
    unfold ixN
    rw [if_pos hk.1, if_pos hk.2]
  unfold sStore
  simp only [hf, Out.bind, Val.fz, h, hi, e]
def subL (xs : List Int) (i n : Int) : List Int := xs.set i.toNat (atL xs i - n)
def addL (xs : List Int) (i n : Int) : List Int := xs.set i.toNat (atL xs i + n)
theorem subL_len (xs : List Int) (i n : Int) : (subL xs i n).length = xs.length := List.length_set
theorem addL_len (xs : List Int) (i n : Int) : (addL xs i n).length = xs.length := List.length_set
theorem addL_D (xs : List Int) (i n : Int) : (xs.map PyData.int).set i.toNat (.int (atL xs i + n)) = (addL xs i n).map .int := by
  unfold addL
  rw [List.map_set]
theorem subL_D (xs : List Int) (i n : Int) : (xs.map PyData.int).set i.toNat (.int (atL xs i - n)) = (subL xs i n).map .int := by
  unfold subL
  rw [List.map_set]
theorem addL_b {xs : List Int} {i n B : Int} (hi : 0 ≤ i ∧ i < xs.length) (h : ∀ x ∈ xs, 0 ≤ x ∧ x ≤ B) (hn : 0 ≤ n) : ∀ x ∈ addL xs i n, 0 ≤ x ∧ x ≤ B + n := fun x hx => by
  rcases List.mem_or_eq_of_mem_set hx with hx | rfl
  · have := h x hx; omega
  · have := h _ (atL_mem hi); omega
theorem subL_b {xs : List Int} {i n B : Int} (hi : 0 ≤ i ∧ i < xs.length) (h : ∀ x ∈ xs, 0 ≤ x ∧ x ≤ B) (hn : 0 ≤ n) (hn2 : n ≤ atL xs i) : ∀ x ∈ subL xs i n, 0 ≤ x ∧ x ≤ B := fun x hx => by
  rcases List.mem_or_eq_of_mem_set hx with hx | rfl
  · have := h x hx; omega
  · have := h _ (atL_mem hi); omega
theorem sum_set : ∀ (xs : List Int) (j : Nat) (v : Int), j < xs.length → (xs.set j v).sum = xs.sum - xs.getD j 0 + v
  | [], _, _, h => by simp at h
  | x :: xs, 0, v, _ => by
    show (v :: xs).sum = _
    rw [List.sum_cons, List.sum_cons]
    show _ = x + xs.sum - x + v
    omega
  | x :: xs, j + 1, v, h => by
    show (x :: xs.set j v).sum = _
    rw [List.sum_cons, List.sum_cons, sum_set xs j v (by simpa using h)]
    show _ = x + xs.sum - xs.getD j 0 + v
    omega
theorem addL_sum {xs : List Int} {i n : Int} (hi : 0 ≤ i ∧ i < xs.length) : (addL xs i n).sum = xs.sum + n := by
  unfold addL atL
  rw [sum_set _ _ _ (by omega)]
  omega
theorem subL_sum {xs : List Int} {i n : Int} (hi : 0 ≤ i ∧ i < xs.length) : (subL xs i n).sum = xs.sum - n := by
  unfold subL atL
  rw [sum_set _ _ _ (by omega)]
  omega
theorem sum_nonneg : ∀ {xs : List Int}, (∀ x ∈ xs, 0 ≤ x) → 0 ≤ xs.sum
  | [], _ => Int.le_refl _
  | x :: xs, h => by
    have h1 := h x List.mem_cons_self
    have h2 := sum_nonneg fun y hy => h y (List.mem_cons_of_mem _ hy)
    rw [List.sum_cons]
    omega
theorem le_sum : ∀ {xs : List Int}, (∀ x ∈ xs, 0 ≤ x) → ∀ x ∈ xs, x ≤ xs.sum
  | y :: ys, h, x, hx => by
    have h1 := h y List.mem_cons_self
    have hy : ∀ z ∈ ys, 0 ≤ z := fun z hz => h z (List.mem_cons_of_mem _ hz)
    have h2 := sum_nonneg hy
    rw [List.sum_cons]
    rcases List.mem_cons.mp hx with rfl | hx
    · omega
    · have := le_sum hy x hx; omega
/-! ### behind a rule -/
def sent (sd : List Int) (ks : List Int) (n : Int) : List Int := ks.foldl (fun l x => addL l x n) sd
theorem sent_len : ∀ (ks sd : List Int) (n : Int), (sent sd ks n).length = sd.length
  | [], _, _ => rfl
  | k :: ks, sd, n => by
    show (sent (addL sd k n) ks n).length = _
    rw [sent_len ks, addL_len]
theorem sent_b : ∀ {ks sd : List Int} {n B : Int}, (∀ k ∈ ks, 0 ≤ k ∧ k < sd.length) → (∀ x ∈ sd, 0 ≤ x ∧ x ≤ B) → 0 ≤ n → ∀ x ∈ sent sd ks n, 0 ≤ x ∧ x ≤ B + ks.length * n
  | [], sd, n, B, _, h, _, x, hx => by
    have := h x hx
    show 0 ≤ x ∧ x ≤ B + (0 : Nat) * n
    omega
  | k :: ks, sd, n, B, hk, h, hn, x, hx => by
    have h1 := addL_b (hk k List.mem_cons_self) h hn
    have h2 := sent_b (ks := ks) (sd := addL sd k n) (fun k hk' => by rw [addL_len]; exact hk k (List.mem_cons_of_mem _ hk')) h1 hn x hx
    have e : ((k :: ks).length : Int) * n = ks.length * n + n := by
      rw [List.length_cons]
      push_cast
      rw [Int.add_mul, Int.one_mul]
    rw [e]
    omega
def bhd (k : Crw) (u : Ru) (n : Int) : Crw := ⟨addL (subL k.cts u.s n) u.t n, sent k.sd u.ks n⟩
theorem CrOk.more {q : Prt} {B B' : Int} {k : Crw} (h : CrOk q B k) (hB : B ≤ B') : CrOk q B' k :=
  ⟨h.cl, h.sl, fun x hx => ⟨(h.c x hx).1, Int.le_trans (h.c x hx).2 hB⟩, fun x hx => ⟨(h.s x hx).1, Int.le_trans (h.s x hx).2 hB⟩⟩
theorem CrOk.bhd {q : Prt} {B : Int} {k : Crw} (h : CrOk q B k) {u : Ru} (hu : RuOk q.many q.kinds u) {n : Int} (hn : 0 ≤ n) (hn2 : n ≤ atL k.cts u.s) : CrOk q (3 * B) (bhd k u n) := by
  have hs : 0 ≤ u.s ∧ u.s < k.cts.length := ⟨hu.st.1, by have := hu.st; have := h.cl; omega⟩
  have hB := (h.c _ (atL_mem hs)).2
  have h1 := subL_b hs h.c hn hn2
  have h2 := addL_b (i := u.t) (n := n) ⟨by have := hu.st; omega, by rw [subL_len]; have := hu.st; have := h.cl; omega⟩ h1 hn
  have h3 := sent_b (ks := u.ks) (sd := k.sd) (n := n) (fun k hk => ⟨(hu.k k hk).1, by have := (hu.k k hk).2; have := h.sl; omega⟩) h.s hn
  refine ⟨?_, ?_, fun x hx => ?_, fun x hx => ?_⟩
  · show ((addL (subL k.cts u.s n) u.t n).length : Int) = _
    rw [addL_len, subL_len]
    exact h.cl
  · show ((sent k.sd u.ks n).length : Int) = _
    rw [sent_len]
    exact h.sl
  · have := h2 x hx; omega
  · have h4 := h3 x hx
    have h5 : (u.ks.length : Int) * n ≤ 2 * n := Int.mul_le_mul_of_nonneg_right (by have := hu.kl; omega) hn
    omega
theorem par_nn {fs : PEn → Out (List Val)} {i j : Nat} {r r1 r2 : PEn} {xs ys : List PyData} (h : fs r = .ok [.n xs, .n ys] r1) (hi : free r1 i = true) (hj : free (r1.set i (.l false xs)) j = true) (he : (r1.set i (.l false xs)).set j (.l false ys) = r2) : sPar [i, j] fs r = .ok .next r2 := by
  subst he
  unfold sPar
  rw [h]
  show asgs [i, j] [.n xs, .n ys] r1 = _
  unfold asgs
  show Out.bind (asg i (.n xs) r1) _ = _
  have e1 : asg i (.n xs) r1 = .ok .next (r1.set i (.l false xs)) := if_pos hi
  rw [e1]
  show asgs [j] [.n ys] (r1.set i (.l false xs)) = _
  unfold asgs
  show Out.bind (asg j (.n ys) (r1.set i (.l false xs))) _ = _
  have e2 : asg j (.n ys) (r1.set i (.l false xs)) = .ok .next ((r1.set i (.l false xs)).set j (.l false ys)) := if_pos hj
  rw [e2]
  rfl
theorem gList_tup {xs : List PyData} : gList (.tuple xs) = some (.n xs) := rfl
theorem behind_ok {q : Prt} {B : Int} {k : Crw} (h : CrOk q B k) {u : Ru} (hu : RuOk q.many q.kinds u) (n : Int) : MLBehind [.d (crD k), .d (ruD u), .d (.int n)] = .ok (.v (crD (bhd k u n))) [.d (crD k), .d (ruD u), .d (.int n)] := by
  have hs : 0 ≤ u.s ∧ u.s < k.cts.length := ⟨hu.st.1, by have := hu.st; have := h.cl; omega⟩
  have ht : 0 ≤ u.t ∧ u.t < (subL k.cts u.s n).length := ⟨by have := hu.st; omega, by rw [subL_len]; have := hu.st; have := h.cl; omega⟩
  have s0 : gLBehind_0 [.d (crD k), .d (ruD u), .d (.int n), .u, .u, .u] = .ok .next [.d (crD k), .d (ruD u), .d (.int n), .l false (k.cts.map .int), .l false (k.sd.map .int), .u] := by
    unfold gLBehind_0
    exact par_nn (aC (ev1n (ev2v (evV rfl) evC rfl rfl (ix0 _ _)) rfl gList_tup) (aC (ev1n (ev2v (evV rfl) evC rfl rfl ix1) rfl gList_tup) aN)) rfl rfl rfl
  have s1 : gLBehind_1 [.d (crD k), .d (ruD u), .d (.int n), .l false (k.cts.map .int), .l false (k.sd.map .int), .u] = .ok .next [.d (crD k), .d (ruD u), .d (.int n), .l false ((subL k.cts u.s n).map .int), .l false (k.sd.map .int), .u] := by
    unfold gLBehind_1
    have i0 : eOp2 gIx (eVar 1) (eC (.int 0)) [.d (crD k), .d (ruD u), .d (.int n), .l false (k.cts.map .int), .l false (k.sd.map .int), .u] = .ok (.v (.int u.s)) [.d (crD k), .d (ruD u), .d (.int n), .l false (k.cts.map .int), .l false (k.sd.map .int), .u] := ev2v (evV rfl) evC rfl rfl (ix0 _ _)
    refine store_ (ev2v (ev2v (evL rfl) i0 rfl rfl (ixIl hs)) (evV rfl) rfl rfl gSub_int) i0 rfl ⟨hs.1, by rw [List.length_map]; exact hs.2⟩ ?_
    rw [subL_D]
    rfl
  have s2 : gLBehind_2 [.d (crD k), .d (ruD u), .d (.int n), .l false ((subL k.cts u.s n).map .int), .l false (k.sd.map .int), .u] = .ok .next [.d (crD k), .d (ruD u), .d (.int n), .l false ((addL (subL k.cts u.s n) u.t n).map .int), .l false (k.sd.map .int), .u] := by
    unfold gLBehind_2
    have i0 : eOp2 gIx (eVar 1) (eC (.int 1)) [.d (crD k), .d (ruD u), .d (.int n), .l false ((subL k.cts u.s n).map .int), .l false (k.sd.map .int), .u] = .ok (.v (.int u.t)) [.d (crD k), .d (ruD u), .d (.int n), .l false ((subL k.cts u.s n).map .int), .l false (k.sd.map .int), .u] := ev2v (evV rfl) evC rfl rfl ix1
    refine store_ (ev2v (ev2v (evL rfl) i0 rfl rfl (ixIl ht)) (evV rfl) rfl rfl gAdd_int) i0 rfl ⟨ht.1, by rw [List.length_map]; exact ht.2⟩ ?_
    rw [addL_D]
    rfl
  have loop : ∀ (ks : List Int) (sd : List Int) (z : Sl), Loc z → (∀ x ∈ ks, 0 ≤ x ∧ x < sd.length) → ∃ z', forD gLBehind_t3 gLBehind_b3 (ks.map .int) [.d (crD k), .d (ruD u), .d (.int n), .l false ((addL (subL k.cts u.s n) u.t n).map .int), .l false (sd.map .int), z]
      = .ok .next [.d (crD k), .d (ruD u), .d (.int n), .l false ((addL (subL k.cts u.s n) u.t n).map .int), .l false ((sent sd ks n).map .int), z'] := fun ks => by
    induction ks with
    | nil => exact fun sd z _ _ => ⟨z, rfl⟩
    | cons x ks ih =>
      intro sd z hz hx
      have hx0 := hx x List.mem_cons_self
      obtain ⟨z', e⟩ := ih (addL sd x n) (.d (.int x)) .d fun y hy => by rw [addL_len]; exact hx y (List.mem_cons_of_mem _ hy)
      refine ⟨z', ?_⟩
      have b : gLBehind_b3 [.d (crD k), .d (ruD u), .d (.int n), .l false ((addL (subL k.cts u.s n) u.t n).map .int), .l false (sd.map .int), .d (.int x)] = .ok .next [.d (crD k), .d (ruD u), .d (.int n), .l false ((addL (subL k.cts u.s n) u.t n).map .int), .l false ((addL sd x n).map .int), .d (.int x)] := by
        unfold gLBehind_b3
        refine store_ (ev2v (ev2v (evL rfl) (evV rfl) rfl rfl (ixIl hx0)) (evV rfl) rfl rfl gAdd_int) (evV rfl) rfl ⟨hx0.1, by rw [List.length_map]; exact hx0.2⟩ ?_
        rw [addL_D]
        rfl
      have f : frees [(5, PyData.int x)] [.d (crD k), .d (ruD u), .d (.int n), .l false ((addL (subL k.cts u.s n) u.t n).map .int), .l false (sd.map .int), z] = true := hz.frees rfl
      have es : setE [(5, PyData.int x)] [.d (crD k), .d (ruD u), .d (.int n), .l false ((addL (subL k.cts u.s n) u.t n).map .int), .l false (sd.map .int), z] = [.d (crD k), .d (ruD u), .d (.int n), .l false ((addL (subL k.cts u.s n) u.t n).map .int), .l false (sd.map .int), .d (.int x)] := rfl
      have eg : gLBehind_t3 (PyData.int x) = some [(5, PyData.int x)] := rfl
      rw [List.map_cons]
      unfold forD
      simp only [eg, f, if_true, es, b, e]
      rfl
  obtain ⟨z, el⟩ := loop u.ks k.sd .u .u fun x hx => ⟨(hu.k x hx).1, by have := (hu.k x hx).2; have := h.sl; omega⟩
  have s3 : gLBehind_3 [.d (crD k), .d (ruD u), .d (.int n), .l false ((addL (subL k.cts u.s n) u.t n).map .int), .l false (k.sd.map .int), .u] = .ok .next [.d (crD k), .d (ruD u), .d (.int n), .l false ((addL (subL k.cts u.s n) u.t n).map .int), .l false ((sent k.sd u.ks n).map .int), z] := by
    unfold gLBehind_3 sFor
    rw [iseq_t (xs := u.ks.map .int) (ev2v (evV rfl) evC rfl rfl ix3)]
    exact el
  refine den_ret rfl (v := .v (crD (bhd k u n))) (r := [.d (crD k), .d (ruD u), .d (.int n), .l false ((addL (subL k.cts u.s n) u.t n).map .int), .l false ((sent k.sd u.ks n).map .int), z]) ?_ rfl rfl
  show gLBehind [.d (crD k), .d (ruD u), .d (.int n), .u, .u, .u] = _
  unfold gLBehind gLBehind_4
  refine (seqN s0).trans ((seqN s1).trans ((seqN s2).trans ((seqN s3).trans (ret_ ?_))))
  exact tup_ (aC (ev1v (evL rfl) rfl gTuple_lst) (aC (ev1v (evL rfl) rfl gTuple_lst) aN)) rfl (show 2 ≤ few by decide)
/-! ### numbers and first crowds -/
theorem numbers_ok {p : List PyData} (hp : PenL p) {most : Int} (hm : 0 ≤ most) (hl : most < 2 ^ 200) : ∃ (m : I3) (p' : List PyData), PenL p' ∧ (0 ≤ m.1 ∧ m.1 ≤ most) ∧ (0 ≤ m.2.1 ∧ m.2.1 ≤ 3) ∧ (0 ≤ m.2.2 ∧ m.2.2 ≤ m.1) ∧ MLNumbers [.l p, .d (.int most)] = .ok (.v (bndD m)) [.l p', .d (.int most)] := by
  have lg : ∀ k : Int, 0 ≤ k → k ≤ 2 ^ 201 → k.natAbs.log2 < 9000 := fun k h1 h2 => by
    have := log_le (k := k) (n := 202) (by omega) (by decide)
    omega
  obtain ⟨n, p1, hp1, e1, n0, n1⟩ := draw_ok hp (b := most + 1) (by omega) (lg _ (by omega) (by omega))
  obtain ⟨t, p2, hp2, e2, t0, t1⟩ := draw_ok hp1 (b := 4) (by decide) (by decide)
  obtain ⟨x, p3, hp3, e3, x0, x1⟩ := draw_ok hp2 (b := n + 1) (by omega) (lg _ (by omega) (by omega))
  have gm : gMin2 (.int 1) (.int n) = some (.v (.int (if n < 1 then n else 1))) := rfl
  obtain ⟨f, p4, hp4, hf, e4⟩ := one_int hp3 (ns := [0, if n < 1 then n else 1, x]) (by simp) (by simp)
  have hf : 0 ≤ f ∧ f ≤ n := by
    simp only [List.mem_cons, List.not_mem_nil, or_false] at hf
    rcases hf with rfl | rfl | rfl
    · omega
    · split <;> omega
    · omega
  have e4 : MOne [.l p3, .d (.list [.int 0, .int (if n < 1 then n else 1), .int x])] = .ok (.v (.int f)) [.l p4, .d (.list [.int 0, .int (if n < 1 then n else 1), .int x])] := e4
  refine ⟨(n, t, f), p4, hp4, ⟨n0, by show n ≤ most; omega⟩, ⟨t0, by show t ≤ 3; omega⟩, hf, ?_⟩
  have s0 : gLNumbers_0 [.l true p, .d (.int most), .u] = .ok .next [.l true p1, .d (.int most), .d (.int n)] := by
    unfold gLNumbers_0
    get_elem_tactic_extensible
  refine den_ret rfl (v := .v (bndD (n, t, f))) (r := [.l true p4, .d (.int most), .d (.int n)]) ?_ rfl rfl
  show gLNumbers [.l true p, .d (.int most), .u] = _
  unfold gLNumbers gLNumbers_1
  refine (seqN s0).trans (ret_ ?_)
  show _ = Out.ok (Val.v (.tuple [.int n, .int t, .int f])) _
  get_elem_tactic_extensible
theorem gMul_zeros {n : Int} (h : 0 ≤ n ∧ n ≤ 1000) : gMul (.list [.int 0]) (.int n) = some (.n ((List.replicate n.toNat (0 : Int)).map .int)) := by
  have e : (List.replicate n.toNat [PyData.int 0]).flatten = (List.replicate n.toNat (0 : Int)).map .int := by
    rw [List.map_replicate]
    induction n.toNat with
    | zero => rfl
    | succ k ih => rw [List.replicate_succ, List.flatten_cons, ih, List.replicate_succ]; rfl
  rw [← e]
  exact if_pos ⟨h.1, h.2, by decide⟩
theorem gMul_zerosT {n : Int} (h : 0 ≤ n ∧ n ≤ 1000) : gMul (.tuple [.int 0]) (.int n) = some (.v (.tuple ((List.replicate n.toNat (0 : Int)).map .int))) := by
  have e : (List.replicate n.toNat [PyData.int 0]).flatten = (List.replicate n.toNat (0 : Int)).map .int := by
    rw [List.map_replicate]
    induction n.toNat with
    | zero => rfl
    | succ k ih => rw [List.replicate_succ, List.flatten_cons, ih, List.replicate_succ]; rfl
  rw [← e]
  exact if_pos ⟨by simp, h.1, h.2, by decide⟩
theorem sum_zeros (n : Nat) : (List.replicate n (0 : Int)).sum = 0 := by
  induction n with
  | zero => rfl
  | succ n ih => rw [List.replicate_succ, List.sum_cons, ih]; rfl
theorem firsts_ok {p : List PyData} (hp : PenL p) {q : Prt} (hq : PrOk q) {m : I3} (hm : 0 ≤ m.2.2 ∧ m.2.2 ≤ m.1) : ∃ (cts : List Int) (p' : List PyData), PenL p' ∧ (cts.length : Int) = q.many ∧ (∀ x ∈ cts, 0 ≤ x ∧ x ≤ m.1 - m.2.2) ∧ cts.sum = m.1 - m.2.2 ∧
    MLFirsts [.l p, .d (prD q), .d (bndD m)] = .ok (.v (.tuple (cts.map .int))) [.l p', .d (prD q), .d (bndD m)] := by
  have hmm := hq.m
  have g0 := gMul_zeros (n := q.many) (by omega)
  have s0 : gLFirsts_0 [.l true p, .d (prD q), .d (bndD m), .u, .u, .u, .u] = .ok .next [.l true p, .d (prD q), .d (bndD m), .l false ((List.replicate q.many.toNat (0 : Int)).map .int), .u, .u, .u] := by
    unfold gLFirsts_0
    exact set_nE (ev2n (lst_ (aC evC aN) rfl (show 1 ≤ few by decide)) (ev2v (evV rfl) evC rfl rfl (ix0 _ _)) rfl rfl g0) rfl rfl
  have gmn : gMin2 (.int 60) (.int (m.1 - m.2.2)) = some (.v (.int (if m.1 - m.2.2 < 60 then m.1 - m.2.2 else 60))) := rfl
  generalize hL : (if m.1 - m.2.2 < 60 then m.1 - m.2.2 else 60) = L at gmn
  have hL2 : 0 ≤ L ∧ L ≤ 60 ∧ L ≤ m.1 - m.2.2 := by
    rw [← hL]
    split <;> omega
  have cnt : iRange1 (eOp2 gMin2 (eC (.int 60)) (eOp2 gSub (eOp2 gIx (eVar 2) (eC (.int 0))) (eOp2 gIx (eVar 2) (eC (.int 2))))) [.l true p, .d (prD q), .d (bndD m), .l false ((List.replicate q.many.toNat (0 : Int)).map .int), .u, .u, .u]
      = .ok (rangeD 0 L.toNat) [.l true p, .d (prD q), .d (bndD m), .l false ((List.replicate q.many.toNat (0 : Int)).map .int), .u, .u, .u] := rng_ (by get_elem_tactic_extensible) hL2.1 (by omega)
  have loop := for_inv (g := gLFirsts_t1) (body := gLFirsts_b1) (fun i r => ∃ (p : List PyData) (cts : List Int) (z4 z5 : Sl), PenL p ∧ (cts.length : Int) = q.many ∧ (∀ x ∈ cts, 0 ≤ x) ∧ cts.sum = i ∧ Loc z4 ∧ Loc z5 ∧ r = [.l true p, .d (prD q), .d (bndD m), .l false (cts.map .int), z4, z5, .u]) (rangeD 0 L.toNat) 0
    [.l true p, .d (prD q), .d (bndD m), .l false ((List.replicate q.many.toNat (0 : Int)).map .int), .u, .u, .u] ⟨p, _, .u, .u, hp, by rw [List.length_replicate]; omega, fun x hx => by rw [List.eq_of_mem_replicate hx]; exact Int.le_refl _, sum_zeros _, .u, .u, rfl⟩ ?_
  · obtain ⟨r', el, p2, cts, z4, z5, hp2, hcl, hc, hsum, _, _, rfl⟩ := loop
    rw [rangeD_len, Nat.zero_add] at hsum
    have hsum : cts.sum = L := by omega
    have s1 : gLFirsts_1 [.l true p, .d (prD q), .d (bndD m), .l false ((List.replicate q.many.toNat (0 : Int)).map .int), .u, .u, .u] = .ok .next [.l true p2, .d (prD q), .d (bndD m), .l false (cts.map .int), z4, z5, .u] := by
      unfold gLFirsts_1 sFor
      rw [cnt]
      exact el
    have h0 : 0 ≤ (0 : Int) ∧ (0 : Int) < q.st.length := ⟨Int.le_refl _, by have := List.length_pos_iff.mpr hq.s0; omega⟩
    have hf := hq.s _ (atL_mem h0)
    have i1 := ixI h0
    generalize atL q.st 0 = fst at hf i1
    have hfi : 0 ≤ fst ∧ fst < cts.length := ⟨hf.1, by omega⟩
    have s2 : gLFirsts_2 [.l true p2, .d (prD q), .d (bndD m), .l false (cts.map .int), z4, z5, .u] = .ok .next [.l true p2, .d (prD q), .d (bndD m), .l false (cts.map .int), z4, z5, .d (.int fst)] := by
      unfold gLFirsts_2
      exact set_vE (ev2v (ev2v (evV rfl) evC rfl rfl ix2) evC rfl rfl i1) rfl rfl
    have hv : 0 ≤ atL cts fst := hc _ (atL_mem hfi)
    have s3 : gLFirsts_3 [.l true p2, .d (prD q), .d (bndD m), .l false (cts.map .int), z4, z5, .d (.int fst)] = .ok .next [.l true p2, .d (prD q), .d (bndD m), .l false ((addL cts fst (m.1 - m.2.2 - L)).map .int), z4, z5, .d (.int fst)] := by
      unfold gLFirsts_3
      refine store_ (w := .int (atL cts fst + m.1 - m.2.2 - cts.sum)) ?_ (evV rfl) rfl ⟨hfi.1, by rw [List.length_map]; exact hfi.2⟩ ?_
      · exact ev2v (ev2v (ev2v (ev2v (evL rfl) (evV rfl) rfl rfl (ixIl hfi)) (ev2v (evV rfl) evC rfl rfl (ix0 _ _)) rfl rfl gAdd_int) (ev2v (evV rfl) evC rfl rfl ix2) rfl rfl gSub_int) (ev1v (evL rfl) rfl (gSum_ints _)) rfl rfl gSub_int
      · rw [hsum, ← addL_D, show atL cts fst + (m.1 - m.2.2 - L) = atL cts fst + m.1 - m.2.2 - L by omega]
        rfl
    have nn : ∀ x ∈ addL cts fst (m.1 - m.2.2 - L), 0 ≤ x := fun x hx => by
      rcases List.mem_or_eq_of_mem_set hx with hx | rfl
      · exact hc x hx
      · omega
    have ss : (addL cts fst (m.1 - m.2.2 - L)).sum = m.1 - m.2.2 := by
      rw [addL_sum hfi, hsum]
      omega
    refine ⟨addL cts fst (m.1 - m.2.2 - L), p2, hp2, by rw [addL_len]; exact hcl, fun x hx => ⟨nn x hx, by have := le_sum nn x hx; omega⟩, ss, ?_⟩
    refine den_ret rfl (v := .v (.tuple ((addL cts fst (m.1 - m.2.2 - L)).map .int))) (r := [.l true p2, .d (prD q), .d (bndD m), .l false ((addL cts fst (m.1 - m.2.2 - L)).map .int), z4, z5, .d (.int fst)]) ?_ rfl rfl
    show gLFirsts [.l true p, .d (prD q), .d (bndD m), .u, .u, .u, .u] = _
    unfold gLFirsts gLFirsts_4
    exact (seqN s0).trans ((seqN s1).trans ((seqN s2).trans ((seqN s3).trans (ret_ (by get_elem_tactic_extensible)))))
  · rintro i d r hi ⟨p, cts, z4, z5, hp, hcl, hc, hsum, h4, h5, rfl⟩
    obtain ⟨st, p2, hp2, hst, e2⟩ := one_int hp (ns := q.st) hq.s0 (by have := hq.sl; omega)
    have hs := hq.s st hst
    have hi2 : 0 ≤ st ∧ st < cts.length := ⟨hs.1, by omega⟩
    refine ⟨[(4, d)], [.l true p2, .d (prD q), .d (bndD m), .l false ((addL cts st 1).map .int), .d d, .d (.int st), .u], rfl, h4.frees rfl, .inl ?_, p2, addL cts st 1, .d d, .d (.int st), hp2, by rw [addL_len]; exact hcl, fun x hx => ?_, by rw [addL_sum hi2]; omega, .d, .d, rfl⟩
    · show gLFirsts_b1 [.l true p, .d (prD q), .d (bndD m), .l false (cts.map .int), .d d, z5, .u] = _
      unfold gLFirsts_b1
      have a1 : sSet 5 (eCall MOne [true, false] (aCons (eVar 0) (aCons (eOp1 gList (eOp2 gIx (eVar 1) (eC (.int 2)))) (aNil)))) [.l true p, .d (prD q), .d (bndD m), .l false (cts.map .int), .d d, z5, .u] = .ok .next [.l true p2, .d (prD q), .d (bndD m), .l false (cts.map .int), .d d, .d (.int st), .u] :=
        set_vE (callQE (q := true) rfl (ev1n (ev2v (evV rfl) evC rfl rfl ix2) rfl gList_tup) rfl rfl e2 rfl) (h5.free rfl) rfl
      refine (seqN a1).trans (store_ (w := .int (atL cts st + 1)) (ev2v (ev2v (evL rfl) (evV rfl) rfl rfl (ixIl hi2)) evC rfl rfl gAdd_int) (evV rfl) rfl ⟨hi2.1, by rw [List.length_map]; exact hi2.2⟩ ?_)
      rw [addL_D]
      rfl
    · rcases List.mem_or_eq_of_mem_set hx with hx | rfl
      · exact hc x hx
      · have := hc _ (atL_mem hi2); omega
end PD

/-! PDCrE: drawn runs. -/
namespace PD
open PySem PySem.Spec PyProof.Rows L2
inductive RunTo (q : Prt) (m : I3) (k0 : Crw) : List (Int × Int) → Crw → Prop
  | nil : RunTo q m k0 [] k0
  | snoc {r : List (Int × Int)} {k : Crw} {i n : Int} {u : Ru} : RunTo q m k0 r k → 0 ≤ i → q.ru[i.toNat]? = some u → i ∈ tak q m k m.2.2 → 1 ≤ n → n ≤ atL k.cts u.s → RunTo q m k0 (r ++ [(i, n)]) (bhd k u n)
abbrev pairD (x : Int × Int) : PyData := .tuple [.int x.1, .int x.2]
theorem RunTo.ok {q : Prt} (hq : PrOk q) {m : I3} {B : Int} {k0 k : Crw} {r : List (Int × Int)} (h0 : CrOk q B k0) (h : RunTo q m k0 r k) : CrOk q (3 ^ r.length * B) k := by
  induction h with
  | nil => exact h0.more (by show B ≤ 3 ^ 0 * B; omega)
  | snoc h h1 h2 h3 h4 h5 ih =>
    have := ih.bhd (hq.r _ (List.mem_of_getElem? h2)) (by omega) h5
    rw [List.length_append, List.length_singleton, Int.pow_succ, Int.mul_comm _ 3, Int.mul_assoc]
    exact this
theorem ixRu {q : Prt} {i : Int} {u : Ru} (h0 : 0 ≤ i) (h : q.ru[i.toNat]? = some u) : gIx (.tuple (q.ru.map ruD)) (.int i) = some (.v (ruD u)) := by
  obtain ⟨n, rfl⟩ := Int.eq_ofNat_of_zero_le h0
  exact ix_nat (by rw [List.getElem?_map, show n = ((n : Nat) : Int).toNat from rfl, h]; rfl)
theorem gNe_nilI (ns : List Int) : gNe (.list (ns.map .int)) (.list []) = some (.v (.bool (!ns.isEmpty))) := by
  rw [gNe_sh rfl (shaped_ints _) rfl, eqv_nil]
theorem tak_mem {q : Prt} {m : I3} {k : Crw} {aid i : Int} (h : i ∈ tak q m k aid) : ∃ u, 0 ≤ i ∧ q.ru[i.toNat]? = some u ∧ 0 < atL k.cts u.s := by
  obtain ⟨j, u, rfl, h1, h2⟩ := sel_mem h
  rw [Bool.and_eq_true, decide_eq_true_eq] at h2
  exact ⟨u, by omega, h1, h2.1⟩
theorem lg_big {k : Int} (h : 0 ≤ k) (h2 : k ≤ 2 ^ 250) : k.natAbs.log2 < 9000 := by
  have := log_le (k := k) (n := 251) (by omega) (by decide)
  omega
abbrev envR (p : List PyData) (q : Prt) (m : I3) (k : Crw) (most : Int) (run : List (Int × Int)) (z6 z7 z8 z9 z10 : Sl) : PEn := [.l true p, .d (prD q), .d (bndD m), .d (crD k), .d (.int most), .l false (run.map pairD), z6, z7, z8, z9, z10]
theorem run_step {p : List PyData} (hp : PenL p) {q : Prt} (hq : PrOk q) {m : I3} {k0 k : Crw} {B most : Int} {run : List (Int × Int)} (hk : CrOk q B k) (hB : B ≤ 2 ^ 250) (hr : RunTo q m k0 run k) (hl : run.length ≤ 20) {z6 z7 z8 z9 z10 : Sl} (h7 : Loc z7) (h8 : Loc z8) (h9 : Loc z9) (h10 : Loc z10) :
    ∃ (p' : List PyData) (k' : Crw) (run' : List (Int × Int)) (z7' z8' z9' z10' : Sl), PenL p' ∧ RunTo q m k0 run' k' ∧ (∃ e, run' = run ++ e ∧ e.length ≤ 1) ∧ CrOk q (3 * B) k' ∧ Loc z7' ∧ Loc z8' ∧ Loc z9' ∧ Loc z10' ∧
    gLRun_b1 (envR p q m k most run z6 z7 z8 z9 z10) = .ok .next (envR p' q m k' most run' z6 z7' z8' z9' z10') := by
  have ht := takers_ok hq hk (m := m) (aid := m.2.2)
  have a0 : sSet 7 (eCall MLTakers [false, false, false, false] (aCons (eVar 1) (aCons (eVar 2) (aCons (eVar 3) (aCons (eOp2 gIx (eVar 2) (eC (.int 2))) (aNil)))))) (envR p q m k most run z6 z7 z8 z9 z10) = .ok .next (envR p q m k most run z6 (.l false ((tak q m k m.2.2).map .int)) z8 z9 z10) :=
    set_nE (call_d4n (evV rfl) (evV rfl) (evV rfl) (ev2v (evV rfl) evC rfl rfl ix2) ht) (h7.free rfl) rfl
  have hB0 : 0 ≤ B := by
    have h1 := hq.m
    have h2 := hk.cl
    have h3 : 0 < k.cts.length := by omega
    have := hk.c _ (List.getElem_mem h3)
    omega
  have hmem : ∀ i, i ∈ tak q m k m.2.2 → ∃ u, 0 ≤ i ∧ q.ru[i.toNat]? = some u ∧ 0 < atL k.cts u.s := fun i h => tak_mem h
  have hlen : (tak q m k m.2.2).length ≤ 8 := Nat.le_trans (sel_len _ _) hq.rl
  generalize hT : tak q m k m.2.2 = T at a0 hmem hlen
  have tt : tBoo (eOp2 gNe (eVar 7) (eLst (aNil))) (envR p q m k most run z6 (.l false (T.map .int)) z8 z9 z10) = .ok (!T.isEmpty) (envR p q m k most run z6 (.l false (T.map .int)) z8 z9 z10) := tb_ (ev2v (evL rfl) lst_nil rfl rfl (gNe_nilI T))
  cases he : T.isEmpty with
  | true =>
    rw [he] at tt
    refine ⟨p, k, run, .l false (T.map .int), z8, z9, z10, hp, hr, ⟨[], by rw [List.append_nil], Nat.zero_le _⟩, hk.more (by omega), .l, h8, h9, h10, ?_⟩
    unfold gLRun_b1
    exact (seqN a0).trans ((ifF tt).trans rfl)
  | false =>
    rw [he] at tt
    obtain ⟨i, p1, hp1, hi, e1⟩ := one_int hp (ns := T) (by rintro rfl; cases he) (by omega)
    obtain ⟨u, hi0, hu, hc0⟩ := hmem i hi
    have hru := hq.r u (List.mem_of_getElem? hu)
    have hs : 0 ≤ u.s ∧ u.s < k.cts.length := ⟨hru.st.1, by have := hru.st; have := hk.cl; omega⟩
    have hcB := (hk.c _ (atL_mem hs)).2
    have s8 : sSet 8 (eCall MOne [true, false] (aCons (eVar 0) (aCons (eVar 7) (aNil)))) (envR p q m k most run z6 (.l false (T.map .int)) z8 z9 z10) = .ok .next (envR p1 q m k most run z6 (.d (.list (T.map .int))) (.d (.int i)) z9 z10) :=
      set_vE (callQE (q := true) (p := p) rfl (evL rfl) rfl rfl e1 rfl) (h8.free rfl) rfl
    have gI := ixI hs
    have gR := ixRu hi0 hu
    have rl : ∀ r : PEn, r[1]? = some (.d (prD q)) → r[8]? = some (.d (.int i)) → eOp2 gIx (eOp2 gIx (eVar 1) (eC (.int 3))) (eVar 8) r = .ok (.v (ruD u)) r := fun r h1 h8 => ev2v (ev2v (evV h1) evC rfl rfl ix3) (evV h8) rfl rfl gR
    have s9 : sSet 9 (eOp2 gIx (eOp2 gIx (eVar 3) (eC (.int 0))) (eOp2 gIx (eOp2 gIx (eOp2 gIx (eVar 1) (eC (.int 3))) (eVar 8)) (eC (.int 0)))) (envR p1 q m k most run z6 (.d (.list (T.map .int))) (.d (.int i)) z9 z10) = .ok .next (envR p1 q m k most run z6 (.d (.list (T.map .int))) (.d (.int i)) (.d (.int (atL k.cts u.s))) z10) :=
      set_vE (ev2v (ev2v (evV rfl) evC rfl rfl (ix0 _ _)) (ev2v (rl _ rfl rfl) evC rfl rfl (ix0 _ _)) rfl rfl gI) (h9.free rfl) rfl
    obtain ⟨x, p2, hp2, e2, x0, x1⟩ := draw_ok hp1 (b := atL k.cts u.s) hc0 (lg_big (by omega) (by omega))
    obtain ⟨n, p3, hp3, hn, e3⟩ := one_int hp2 (ns := [1, atL k.cts u.s, 1 + x]) (by simp) (by simp)
    have hn : 1 ≤ n ∧ n ≤ atL k.cts u.s := by
      simp only [List.mem_cons, List.not_mem_nil, or_false] at hn
      rcases hn with rfl | rfl | rfl <;> omega
    have e3 : MOne [.l p2, .d (.list [.int 1, .int (atL k.cts u.s), .int (1 + x)])] = .ok (.v (.int n)) [.l p3, .d (.list [.int 1, .int (atL k.cts u.s), .int (1 + x)])] := e3
    have s10 : sSet 10 (eCall MOne [true, false] (aCons (eVar 0) (aCons (eLst (aCons (eC (.int 1)) (aCons (eVar 9) (aCons (eOp2 gAdd (eC (.int 1)) (eCall MDraw [true, false] (aCons (eVar 0) (aCons (eVar 9) (aNil))))) (aNil))))) (aNil)))) (envR p1 q m k most run z6 (.d (.list (T.map .int))) (.d (.int i)) (.d (.int (atL k.cts u.s))) z10)
        = .ok .next (envR p3 q m k most run z6 (.d (.list (T.map .int))) (.d (.int i)) (.d (.int (atL k.cts u.s))) (.d (.int n))) := set_vE (by get_elem_tactic_extensible) (h10.free rfl) rfl
    have s5 : sExpr (eApp 5 (eTup (aCons (eVar 8) (aCons (eVar 10) (aNil))))) (envR p3 q m k most run z6 (.d (.list (T.map .int))) (.d (.int i)) (.d (.int (atL k.cts u.s))) (.d (.int n)))
        = .ok .next (envR p3 q m k most (run ++ [(i, n)]) z6 (.d (.list (T.map .int))) (.d (.int i)) (.d (.int (atL k.cts u.s))) (.d (.int n))) := by
      refine app_E rfl (tup_ (aC (evV rfl) (aC (evV rfl) aN)) rfl (show 2 ≤ few by decide)) rfl (Nat.lt_of_lt_of_le (show _ < 30 by rw [List.length_map]; omega) (by decide)) ?_
      show _ = envR p3 q m k most (run ++ [(i, n)]) _ _ _ _ _
      unfold envR
      rw [List.map_append]
      rfl
    have hb := behind_ok hk hru n
    have s3 : sSet 3 (eCall MLBehind [false, false, false] (aCons (eVar 3) (aCons (eOp2 gIx (eOp2 gIx (eVar 1) (eC (.int 3))) (eVar 8)) (aCons (eVar 10) (aNil))))) (envR p3 q m k most (run ++ [(i, n)]) z6 (.d (.list (T.map .int))) (.d (.int i)) (.d (.int (atL k.cts u.s))) (.d (.int n)))
        = .ok .next (envR p3 q m (bhd k u n) most (run ++ [(i, n)]) z6 (.d (.list (T.map .int))) (.d (.int i)) (.d (.int (atL k.cts u.s))) (.d (.int n))) :=
      set_vE (call_d3v (evV rfl) (rl _ rfl rfl) (evV rfl) hb) rfl rfl
    refine ⟨p3, bhd k u n, run ++ [(i, n)], _, _, _, _, hp3, hr.snoc hi0 hu (by rw [hT]; exact hi) hn.1 hn.2, ⟨[(i, n)], rfl, Nat.le_refl _⟩, hk.bhd hru (by omega) hn.2, .d (d := .list (T.map .int)), .d (d := .int i), .d (d := .int (atL k.cts u.s)), .d (d := .int n), ?_⟩
    unfold gLRun_b1
    exact (seqN a0).trans ((ifT tt).trans ((seqN s8).trans ((seqN s9).trans ((seqN s10).trans ((seqN s5).trans s3)))))
theorem pow3 {i : Nat} (h : i ≤ 10) : (3 : Int) ^ i ≤ 59049 := by
  have : ∀ j : Fin 11, (3 : Int) ^ j.val ≤ 59049 := by decide
  exact this ⟨i, by omega⟩
theorem pow3_pos (i : Nat) : (0 : Int) < 3 ^ i := Int.pow_pos (by decide)
theorem run_ok {p : List PyData} (hp : PenL p) {q : Prt} (hq : PrOk q) {m : I3} {k : Crw} {B most : Int} (hk : CrOk q B k) (hB : B ≤ 2 ^ 200) (hm : 0 ≤ most ∧ most ≤ 10) : ∃ (run : List (Int × Int)) (k' : Crw) (p' : List PyData), PenL p' ∧ RunTo q m k run k' ∧ (run.length : Int) ≤ most ∧
    MLRun [.l p, .d (prD q), .d (bndD m), .d (crD k), .d (.int most)] = .ok (.v (.tuple [.tuple (run.map pairD), crD k'])) [.l p', .d (prD q), .d (bndD m), .d (crD k), .d (.int most)] := by
  obtain ⟨n, p1, hp1, e1, n0, n1⟩ := draw_ok hp (b := most + 1) (by omega) (lg7 (by omega))
  have hB0 : 0 ≤ B := by
    have h1 := hq.m
    have h2 := hk.cl
    have h3 : 0 < k.cts.length := by omega
    have := hk.c _ (List.getElem_mem h3)
    omega
  have s0 : gLRun_0 [.l true p, .d (prD q), .d (bndD m), .d (crD k), .d (.int most), .u, .u, .u, .u, .u, .u] = .ok .next (envR p q m k most [] .u .u .u .u .u) := by
    unfold gLRun_0
    get_elem_tactic_extensible
  have cnt : iRange1 (eCall MDraw [true, false] (aCons (eVar 0) (aCons (eOp2 gAdd (eVar 4) (eC (.int 1))) (aNil)))) (envR p q m k most [] .u .u .u .u .u) = .ok (rangeD 0 n.toNat) (envR p1 q m k most [] .u .u .u .u .u) := rng_ (by get_elem_tactic_extensible) n0 (by omega)
  have loop := for_inv (g := gLRun_t1) (body := gLRun_b1) (fun i r => ∃ (p : List PyData) (k' : Crw) (run : List (Int × Int)) (z6 z7 z8 z9 z10 : Sl), PenL p ∧ RunTo q m k run k' ∧ run.length ≤ i ∧ CrOk q (3 ^ i * B) k' ∧ Loc z6 ∧ Loc z7 ∧ Loc z8 ∧ Loc z9 ∧ Loc z10 ∧ r = envR p q m k' most run z6 z7 z8 z9 z10) (rangeD 0 n.toNat) 0
    (envR p1 q m k most [] .u .u .u .u .u) ⟨p1, k, [], .u, .u, .u, .u, .u, hp1, .nil, Nat.le_refl _, hk.more (by show B ≤ 3 ^ 0 * B; omega), .u, .u, .u, .u, .u, rfl⟩ ?_
  · obtain ⟨r', el, p2, k', run, z6, z7, z8, z9, z10, hp2, hr, hl, _, _, _, _, _, _, rfl⟩ := loop
    rw [rangeD_len, Nat.zero_add] at hl
    have s1 : gLRun_1 (envR p q m k most [] .u .u .u .u .u) = .ok .next (envR p2 q m k' most run z6 z7 z8 z9 z10) := by
      unfold gLRun_1 sFor
      rw [cnt]
      exact el
    refine ⟨run, k', p2, hp2, hr, by omega, ?_⟩
    refine den_ret rfl (v := .v (.tuple [.tuple (run.map pairD), crD k'])) (r := envR p2 q m k' most run z6 z7 z8 z9 z10) ?_ rfl rfl
    show gLRun [.l true p, .d (prD q), .d (bndD m), .d (crD k), .d (.int most), .u, .u, .u, .u, .u, .u] = _
    unfold gLRun gLRun_2
    exact (seqN s0).trans ((seqN s1).trans (ret_ (by get_elem_tactic_extensible)))
  · rintro i d r hi ⟨p, k', run, z6, z7, z8, z9, z10, hp, hr, hl, hk', h6, h7, h8, h9, h10, rfl⟩
    have hi2 := (at_rangeD hi).1
    rw [Nat.zero_add] at hl hk' ⊢
    have hb : (3 : Int) ^ i * B ≤ 2 ^ 250 := by
      have h1 := Int.mul_le_mul_of_nonneg_right (pow3 (i := i) (by omega)) hB0
      omega
    obtain ⟨p', k'', run', z7', z8', z9', z10', hp', hr', ⟨e, rfl, he⟩, hk'', h7', h8', h9', h10', st⟩ := run_step hp hq hk' hb hr (by omega) (most := most) (z6 := .d d) h7 h8 h9 h10
    refine ⟨[(6, d)], _, rfl, h6.frees rfl, .inl st, p', k'', run ++ e, .d d, z7', z8', z9', z10', hp', hr', by rw [List.length_append]; omega, ?_, .d, h7', h8', h9', h10', rfl⟩
    rw [Int.pow_succ, Int.mul_comm _ 3, Int.mul_assoc]
    exact hk''
/-! ### a tuple with another thing at a place -/
theorem gSl_drop (xs : List PyData) (n : Nat) : gSl (.tuple xs) (some ((n : Nat) : Int)) none = some (.v (.tuple (xs.drop n))) := by
  show some (Rs.v (.tuple (cutD xs (some ((n : Nat) : Int)) none))) = _
  rw [cut_drop]
theorem gSl_take (xs : List PyData) (n : Nat) : gSl (.tuple xs) none (some ((n : Nat) : Int)) = some (.v (.tuple (xs.take n))) := by
  show some (Rs.v (.tuple (cutD xs none (some ((n : Nat) : Int))))) = _
  rw [cut_take]
theorem at_ok (xs : List PyData) (i : Nat) (x : PyData) (hl : xs.length ≤ 100000) : MLAt [.d (.tuple xs), .d (.int (i : Nat)), .d x] = .ok (.v (.tuple (xs.take i ++ [x] ++ xs.drop (i + 1)))) [.d (.tuple xs), .d (.int (i : Nat)), .d x] := by
  refine den_ret rfl (v := .v (.tuple (xs.take i ++ [x] ++ xs.drop (i + 1)))) (r := [.d (.tuple xs), .d (.int (i : Nat)), .d x]) ?_ rfl rfl
  show gLAt [.d (.tuple xs), .d (.int (i : Nat)), .d x] = _
  unfold gLAt gLAt_0
  have h1 := List.length_take_le i xs
  have h2 : (xs.drop (i + 1)).length ≤ xs.length := by rw [List.length_drop]; omega
  have ht : (xs.take i).length ≤ 100000 := by rw [List.length_take]; omega
  have g1 : gAdd (.tuple (xs.take i)) (.tuple [x]) = some (.v (.tuple (xs.take i ++ [x]))) := gAdd_tup (few1 (by show _ + 1 ≤ _; omega))
  have g2 : gAdd (.tuple (xs.take i ++ [x])) (.tuple (xs.drop (i + 1))) = some (.v (.tuple (xs.take i ++ [x] ++ xs.drop (i + 1)))) := gAdd_tup (few1 (by rw [List.length_append, List.length_singleton]; omega))
  refine ret_ (ev2v (ev2v (sl_ (evV rfl) rfl (oy_ (evV rfl)) (gSl_take _ _)) (tup_ (aC (evV rfl) aN) rfl (show 1 ≤ few by decide)) rfl rfl g1) (sl_ (evV rfl) (oy_ (ev2v (evV rfl) evC rfl rfl gAdd_int)) rfl (gSl_drop xs (i + 1))) rfl rfl g2)
theorem first_crowd_ok {q : Prt} (hq : PrOk q) (cts : List Int) : MPFirstCrowd [.d (prD q), .d (.tuple (cts.map .int))] = .ok (.v (crD ⟨cts, List.replicate q.kinds.toNat 0⟩)) [.d (prD q), .d (.tuple (cts.map .int))] := by
  have g := gMul_zerosT (n := q.kinds) (by have := hq.k; omega)
  refine den_ret rfl (v := .v (crD ⟨cts, List.replicate q.kinds.toNat 0⟩)) (r := [.d (prD q), .d (.tuple (cts.map .int))]) ?_ rfl rfl
  show gPFirstCrowd [.d (prD q), .d (.tuple (cts.map .int))] = _
  unfold gPFirstCrowd gPFirstCrowd_0
  exact ret_ (tup_ (aC (evV rfl) (aC (ev2v (tup_ (aC evC aN) rfl (show 1 ≤ few by decide)) (ev2v (evV rfl) evC rfl rfl ix1) rfl rfl g) aN)) rfl (show 2 ≤ few by decide))
end PD

namespace PD.Lk03
open PySem PySem.Spec PyProof.Rows L2
def top (i : Nat) : Stmt := PySem.Challenge.pw_enoughheard_k03_crowds.main.body.getD i (.Pass ⟨0, 0, 0, 0⟩)
abbrev st_bound_value : Stmt := top 1
abbrev ps_bound_value : List Str := [("bound" : Str), ("numbers" : Str)]
abbrev N_bound_value : List Str := [("bound" : Str), ("numbers" : Str), ("a" : Str), ("b" : Str), ("c" : Str), ("n" : Str), ("t" : Str), ("f" : Str)]
def g_bound_value : PEn → Out Fl :=
  sSeq (sUnp (gTp 3 (gsC (gNm 2) (gsC (gNm 3) (gsC (gNm 4) (gsN))))) (eVar 0)) (sSeq (sUnp (gTp 3 (gsC (gNm 5) (gsC (gNm 6) (gsC (gNm 7) (gsN))))) (eVar 1)) (sRet (eOp2 gAdd (eOp2 gAdd (eOp2 gMul (eVar 2) (eVar 5)) (eOp2 gMul (eVar 3) (eVar 6))) (eVar 4))))
def M_bound_value : List Arg → FO := den g_bound_value 2 8
abbrev st_first_crowd : Stmt := top 3
abbrev ps_first_crowd : List Str := [("protocol" : Str), ("firsts" : Str)]
abbrev N_first_crowd : List Str := [("protocol" : Str), ("firsts" : Str)]
def g_first_crowd : PEn → Out Fl :=
  sRet (eTup (aCons (eVar 1) (aCons (eOp2 gMul (eTup (aCons (eC (.int 0)) (aNil))) (eOp2 gIx (eVar 0) (eC (.int 1)))) (aNil))))
def M_first_crowd : List Arg → FO := den g_first_crowd 2 2
abbrev st_is_first : Stmt := top 4
abbrev ps_is_first : List Str := [("protocol" : Str), ("numbers" : Str), ("empty" : Str), ("firsts" : Str)]
abbrev N_is_first : List Str := [("protocol" : Str), ("numbers" : Str), ("empty" : Str), ("firsts" : Str), ("n" : Str), ("t" : Str), ("f" : Str), ("location" : Str), ("count" : Str)]
def g_is_first : PEn → Out Fl :=
  sSeq (sUnp (gTp 3 (gsC (gNm 4) (gsC (gNm 5) (gsC (gNm 6) (gsN))))) (eVar 1)) (sSeq (sFor (iEnumD (eVar 3)) (gTp 2 (gsC (gNm 7) (gsC (gNm 8) (gsN)))) (sIf (tAndD (tBoo (eOp2 gNe (eVar 8) (eC (.int 0)))) (tOrD (tBoo (eOp2 gNotIn (eVar 7) (eOp2 gIx (eVar 0) (eC (.int 2))))) (tBoo (eOp2 gIn (eVar 7) (eVar 2))))) (sRet (eC (.bool false))) (sSkip))) (sRet (eAndD (eOp2 gLe (eVar 6) (eVar 4)) (eOp2 gEq (eOp1 gSum (eVar 3)) (eOp2 gSub (eVar 4) (eVar 6))))))
def M_is_first : List Arg → FO := den g_is_first 4 9
abbrev st_hears : Stmt := top 5
abbrev ps_hears : List Str := [("numbers" : Str), ("crowd" : Str), ("condition" : Str)]
abbrev N_hears : List Str := [("numbers" : Str), ("crowd" : Str), ("condition" : Str), ("kind" : Str), ("bound" : Str)]
def g_hears : PEn → Out Fl :=
  sSeq (sUnp (gTp 2 (gsC (gNm 3) (gsC (gNm 4) (gsN)))) (eVar 2)) (sRet (eOp2 gGe (eOp2 gIx (eOp2 gIx (eVar 1) (eC (.int 1))) (eVar 3)) (eCall M_bound_value [false, false] (aCons (eVar 4) (aCons (eVar 0) (aNil))))))
def M_hears : List Arg → FO := den g_hears 3 5
abbrev st_can_hear : Stmt := top 6
abbrev ps_can_hear : List Str := [("numbers" : Str), ("crowd" : Str), ("condition" : Str)]
abbrev N_can_hear : List Str := [("numbers" : Str), ("crowd" : Str), ("condition" : Str), ("kind" : Str), ("bound" : Str)]
def g_can_hear : PEn → Out Fl :=
  sSeq (sUnp (gTp 2 (gsC (gNm 3) (gsC (gNm 4) (gsN)))) (eVar 2)) (sRet (eOp2 gGe (eOp2 gAdd (eOp2 gIx (eOp2 gIx (eVar 1) (eC (.int 1))) (eVar 3)) (eOp2 gIx (eVar 0) (eC (.int 2)))) (eCall M_bound_value [false, false] (aCons (eVar 4) (aCons (eVar 0) (aNil))))))
def M_can_hear : List Arg → FO := den g_can_hear 3 5
abbrev st_can_take : Stmt := top 7
abbrev ps_can_take : List Str := [("protocol" : Str), ("numbers" : Str), ("crowd" : Str)]
abbrev N_can_take : List Str := [("protocol" : Str), ("numbers" : Str), ("crowd" : Str), ("found" : Str), ("index" : Str), ("source" : Str), ("target" : Str), ("conditions" : Str), ("sends" : Str), ("condition" : Str)]
def g_can_take : PEn → Out Fl :=
  sSeq (sSet 3 (eLst (aNil))) (sSeq (sFor (iEnumD (eOp2 gIx (eVar 0) (eC (.int 3)))) (gTp 2 (gsC (gNm 4) (gsC (gTp 4 (gsC (gNm 5) (gsC (gNm 6) (gsC (gNm 7) (gsC (gNm 8) (gsN)))))) (gsN)))) (sIf (tAndD (tBoo (eOp2 gGt (eOp2 gIx (eOp2 gIx (eVar 2) (eC (.int 0))) (eVar 5)) (eC (.int 0)))) (tTru (eOp1 gAll (eComp (iSeq (eVar 7)) [9] (gNm 9) (tYesD) (eCall M_can_hear [false, false, false] (aCons (eVar 1) (aCons (eVar 2) (aCons (eVar 9) (aNil))))))))) (sExpr (eApp 3 (eVar 4))) (sSkip))) (sRet (eOp1 gTuple (eVar 3))))
def M_can_take : List Arg → FO := den g_can_take 3 10
abbrev st_urged : Stmt := top 8
abbrev ps_urged : List Str := [("protocol" : Str), ("numbers" : Str), ("crowd" : Str)]
abbrev N_urged : List Str := [("protocol" : Str), ("numbers" : Str), ("crowd" : Str), ("found" : Str), ("index" : Str), ("source" : Str), ("target" : Str), ("conditions" : Str), ("sends" : Str), ("condition" : Str)]
def g_urged : PEn → Out Fl :=
  sSeq (sSet 3 (eLst (aNil))) (sSeq (sFor (iEnumD (eOp2 gIx (eVar 0) (eC (.int 3)))) (gTp 2 (gsC (gNm 4) (gsC (gTp 4 (gsC (gNm 5) (gsC (gNm 6) (gsC (gNm 7) (gsC (gNm 8) (gsN)))))) (gsN)))) (sIf (tAndD (tBoo (eOp2 gGt (eOp2 gIx (eOp2 gIx (eVar 2) (eC (.int 0))) (eVar 5)) (eC (.int 0)))) (tTru (eOp1 gAll (eComp (iSeq (eVar 7)) [9] (gNm 9) (tYesD) (eCall M_hears [false, false, false] (aCons (eVar 1) (aCons (eVar 2) (aCons (eVar 9) (aNil))))))))) (sExpr (eApp 3 (eVar 4))) (sSkip))) (sRet (eOp1 gTuple (eVar 3))))
def M_urged : List Arg → FO := den g_urged 3 10
abbrev st_is_end : Stmt := top 9
abbrev ps_is_end : List Str := [("protocol" : Str), ("numbers" : Str), ("crowd" : Str)]
abbrev N_is_end : List Str := [("protocol" : Str), ("numbers" : Str), ("crowd" : Str)]
def g_is_end : PEn → Out Fl :=
  sRet (eOp2 gEq (eCall M_urged [false, false, false] (aCons (eVar 0) (aCons (eVar 1) (aCons (eVar 2) (aNil))))) (eTup (aNil)))
def M_is_end : List Arg → FO := den g_is_end 3 3
abbrev st__law_pen : Stmt := top 11
abbrev ps__law_pen : List Str := [("script" : Str)]
abbrev N__law_pen : List Str := [("script" : Str)]
def g__law_pen : PEn → Out Fl :=
  sRet (eLst (aCons (eOp1 gList (eSl (eVar 0) (oNo) (oYes (eC (.int 63))))) (aCons (eC (.int 0)) (aCons (eC (.int 0)) (aNil)))))
def M__law_pen : List Arg → FO := den g__law_pen 1 1
abbrev st__law_fresh : Stmt := top 12
abbrev ps__law_fresh : List Str := [("pen" : Str)]
abbrev N__law_fresh : List Str := [("pen" : Str), ("seat" : Str), ("given" : Str), ("cell" : Str), ("prime" : Str), ("state" : Str), ("found" : Str), ("lap" : Str)]
def g__law_fresh : PEn → Out Fl :=
  sSeq (sPar [1, 2] (aCons (eOp2 gIx (eVar 0) (eC (.int 1))) (aCons (eOp2 gIx (eVar 0) (eC (.int 0))) (aNil)))) (sSeq (sStore 0 (eC (.int 1)) (eOp2 gAdd (eVar 1) (eC (.int 1)))) (sSeq (sSet 3 (eIf (tBoo (eOp2 gNe (eVar 2) (eLst (aNil)))) (eOp2 gIx (eVar 2) (eOp2 gMod (eOp1 gInt (eVar 1)) (eOp1 gLen (eVar 2)))) (eC (.int 0)))) (sSeq (sIf (tAndD (tBoo (eOp2 gLt (eVar 1) (eOp1 gLen (eVar 2)))) (tBoo (eOp2 gGe (eVar 3) (eOp2 gPow (eC (.int 10)) (eC (.int 18)))))) (sRet (eOp2 gSub (eVar 3) (eOp2 gPow (eC (.int 10)) (eC (.int 18))))) (sSkip)) (sSeq (sSet 4 (eC (.int 2305843009213693951))) (sSeq (sSet 5 (eOp2 gMod (eOp1 gInt (eOp2 gAdd (eOp2 gAdd (eOp2 gMul (eVar 3) (eC (.int 48271))) (eOp2 gMul (eC (.int 60013)) (eVar 1))) (eC (.int 31)))) (eVar 4))) (sSeq (sSet 6 (eVar 5)) (sSeq (sFor (iRange1 (eC (.int 6))) (gNm 7) (sSeq (sSet 5 (eOp2 gMod (eOp1 gInt (eOp2 gAdd (eOp2 gAdd (eOp2 gMul (eVar 5) (eVar 5)) (eOp2 gMul (eOp2 gMul (eC (.int 70139)) (eOp2 gAdd (eVar 7) (eC (.int 5)))) (eOp2 gAdd (eVar 1) (eC (.int 1))))) (eVar 3))) (eVar 4))) (sSet 6 (eOp2 gAdd (eOp2 gMul (eVar 6) (eVar 4)) (eVar 5))))) (sRet (eVar 6)))))))))
def M__law_fresh : List Arg → FO := den g__law_fresh 1 8
abbrev st__law_draw : Stmt := top 13
abbrev ps__law_draw : List Str := [("pen" : Str), ("bound" : Str)]
abbrev N__law_draw : List Str := [("pen" : Str), ("bound" : Str), ("digit" : Str)]
def g__law_draw : PEn → Out Fl :=
  sSeq (sIf (tBoo (eOp2 gLt (eOp2 gIx (eVar 0) (eC (.int 2))) (eVar 1))) (sStore 0 (eC (.int 2)) (eCall M__law_fresh [true] (aCons (eVar 0) (aNil)))) (sSkip)) (sSeq (sSet 2 (eOp2 gMod (eOp1 gInt (eOp2 gIx (eVar 0) (eC (.int 2)))) (eVar 1))) (sSeq (sStore 0 (eC (.int 2)) (eOp2 gFdiv (eOp1 gInt (eOp2 gIx (eVar 0) (eC (.int 2)))) (eVar 1))) (sRet (eVar 2))))
def M__law_draw : List Arg → FO := den g__law_draw 2 3
abbrev st__law_one_of : Stmt := top 14
abbrev ps__law_one_of : List Str := [("pen" : Str), ("some" : Str)]
abbrev N__law_one_of : List Str := [("pen" : Str), ("some" : Str)]
def g__law_one_of : PEn → Out Fl :=
  sRet (eOp2 gIx (eVar 1) (eCall M__law_draw [true, false] (aCons (eVar 0) (aCons (eOp1 gLen (eVar 1)) (aNil)))))
def M__law_one_of : List Arg → FO := den g__law_one_of 2 2
abbrev st__law_bound : Stmt := top 15
abbrev ps__law_bound : List Str := [("pen" : Str)]
abbrev N__law_bound : List Str := [("pen" : Str)]
def g__law_bound : PEn → Out Fl :=
  sSeq (sIf (tBoo (eOp2 gEq (eCall M__law_draw [true, false] (aCons (eVar 0) (aCons (eC (.int 4)) (aNil)))) (eC (.int 0)))) (sRet (eTup (aCons (eOp2 gSub (eCall M__law_draw [true, false] (aCons (eVar 0) (aCons (eC (.int 7)) (aNil)))) (eC (.int 3))) (aCons (eOp2 gSub (eCall M__law_draw [true, false] (aCons (eVar 0) (aCons (eC (.int 7)) (aNil)))) (eC (.int 3))) (aCons (eCall M__law_draw [true, false] (aCons (eVar 0) (aCons (eC (.int 2)) (aNil)))) (aNil)))))) (sSkip)) (sRet (eCall M__law_one_of [true, false] (aCons (eVar 0) (aCons (eLst (aCons (eTup (aCons (eC (.int 0)) (aCons (eC (.int 1)) (aCons (eC (.int 1)) (aNil))))) (aCons (eTup (aCons (eC (.int 1)) (aCons (eOp1 gNeg (eC (.int 1))) (aCons (eC (.int 0)) (aNil))))) (aCons (eTup (aCons (eC (.int 0)) (aCons (eC (.int 0)) (aCons (eC (.int 1)) (aNil))))) (aCons (eTup (aCons (eC (.int 0)) (aCons (eC (.int 2)) (aCons (eC (.int 1)) (aNil))))) (aCons (eTup (aCons (eC (.int 1)) (aCons (eOp1 gNeg (eC (.int 2))) (aCons (eC (.int 0)) (aNil))))) (aCons (eTup (aCons (eC (.int 0)) (aCons (eC (.int 1)) (aCons (eC (.int 0)) (aNil))))) (aCons (eTup (aCons (eC (.int 1)) (aCons (eC (.int 0)) (aCons (eC (.int 0)) (aNil))))) (aNil))))))))) (aNil)))))
def M__law_bound : List Arg → FO := den g__law_bound 1 1
abbrev st__law_some_conditions : Stmt := top 16
abbrev ps__law_some_conditions : List Str := [("pen" : Str), ("kinds" : Str), ("menu" : Str)]
abbrev N__law_some_conditions : List Str := [("pen" : Str), ("kinds" : Str), ("menu" : Str), ("found" : Str), ("lap" : Str)]
def g__law_some_conditions : PEn → Out Fl :=
  sSeq (sSet 3 (eLst (aNil))) (sSeq (sFor (iRange1 (eCall M__law_one_of [true, false] (aCons (eVar 0) (aCons (eLst (aCons (eC (.int 0)) (aCons (eC (.int 1)) (aCons (eC (.int 1)) (aCons (eC (.int 1)) (aCons (eC (.int 2)) (aNil))))))) (aNil))))) (gNm 4) (sExpr (eApp 3 (eCall M__law_one_of [true, false] (aCons (eVar 0) (aCons (eVar 2) (aNil))))))) (sRet (eIf (tBoo (eOp2 gGt (eVar 1) (eC (.int 0)))) (eOp1 gTuple (eOp1 gSSet (eVar 3))) (eTup (aNil)))))
def M__law_some_conditions : List Arg → FO := den g__law_some_conditions 3 5
abbrev st__law_sent_most : Stmt := top 17
abbrev ps__law_sent_most : List Str := [("many" : Str), ("rules" : Str), ("kind" : Str)]
def M__law_sent_most : List Arg → FO := MSent
abbrev st__law_rule : Stmt := top 18
abbrev ps__law_rule : List Str := [("pen" : Str), ("many" : Str), ("kinds" : Str), ("menu" : Str)]
abbrev N__law_rule : List Str := [("pen" : Str), ("many" : Str), ("kinds" : Str), ("menu" : Str), ("source" : Str), ("target" : Str), ("sends" : Str), ("kind" : Str)]
def g__law_rule : PEn → Out Fl :=
  sSeq (sSet 4 (eCall M__law_draw [true, false] (aCons (eVar 0) (aCons (eOp2 gSub (eVar 1) (eC (.int 1))) (aNil))))) (sSeq (sSet 5 (eOp2 gAdd (eOp2 gAdd (eVar 4) (eC (.int 1))) (eCall M__law_draw [true, false] (aCons (eVar 0) (aCons (eOp2 gSub (eOp2 gSub (eVar 1) (eVar 4)) (eC (.int 1))) (aNil)))))) (sSeq (sSet 6 (eOp1 gTuple (eComp (iRange1 (eVar 2)) [7] (gNm 7) (tBoo (eOp2 gEq (eCall M__law_draw [true, false] (aCons (eVar 0) (aCons (eC (.int 3)) (aNil)))) (eC (.int 0)))) (eVar 7)))) (sRet (eTup (aCons (eVar 4) (aCons (eVar 5) (aCons (eCall M__law_some_conditions [true, false, false] (aCons (eVar 0) (aCons (eVar 2) (aCons (eVar 3) (aNil))))) (aCons (eVar 6) (aNil)))))))))
def M__law_rule : List Arg → FO := den g__law_rule 4 8
abbrev st__law_protocol : Stmt := top 19
abbrev ps__law_protocol : List Str := [("pen" : Str), ("most" : Str), ("size" : Str)]
abbrev N__law_protocol : List Str := [("pen" : Str), ("most" : Str), ("size" : Str), ("many" : Str), ("kinds" : Str), ("menu" : Str), ("lap" : Str), ("starts" : Str), ("location" : Str), ("rules" : Str), ("rule" : Str), ("kind" : Str)]
def g__law_protocol : PEn → Out Fl :=
  sSeq (sUnp (gTp 2 (gsC (gNm 3) (gsC (gNm 4) (gsN)))) (eTup (aCons (eOp2 gAdd (eC (.int 2)) (eCall M__law_draw [true, false] (aCons (eVar 0) (aCons (eOp2 gSub (eVar 1) (eC (.int 1))) (aNil))))) (aCons (eCall M__law_one_of [true, false] (aCons (eVar 0) (aCons (eLst (aCons (eC (.int 0)) (aCons (eC (.int 1)) (aCons (eC (.int 1)) (aCons (eC (.int 1)) (aCons (eC (.int 2)) (aNil))))))) (aNil)))) (aNil))))) (sSeq (sSet 5 (eLst (aNil))) (sSeq (sFor (iRange1 (eOp2 gAdd (eC (.int 1)) (eCall M__law_draw [true, false] (aCons (eVar 0) (aCons (eC (.int 4)) (aNil)))))) (gNm 6) (sExpr (eApp 5 (eTup (aCons (eCall M__law_draw [true, false] (aCons (eVar 0) (aCons (eOp2 gMax2 (eC (.int 1)) (eVar 4)) (aNil)))) (aCons (eCall M__law_bound [true] (aCons (eVar 0) (aNil))) (aNil))))))) (sSeq (sSet 7 (eComp (iRange2 (eC (.int 1)) (eVar 3)) [8] (gNm 8) (tBoo (eOp2 gEq (eCall M__law_draw [true, false] (aCons (eVar 0) (aCons (eC (.int 3)) (aNil)))) (eC (.int 0)))) (eVar 8))) (sSeq (sSet 9 (eTup (aNil))) (sSeq (sFor (iRange1 (eCall M__law_draw [true, false] (aCons (eVar 0) (aCons (eOp2 gAdd (eVar 2) (eC (.int 1))) (aNil))))) (gNm 6) (sSeq (sSet 10 (eCall M__law_rule [true, false, false, false] (aCons (eVar 0) (aCons (eVar 3) (aCons (eVar 4) (aCons (eVar 5) (aNil))))))) (sSeq (sSet 1 (eComp (iRange1 (eVar 4)) [11] (gNm 11) (tYesD) (eCall M__law_sent_most [false, false, false] (aCons (eVar 3) (aCons (eOp2 gAdd (eVar 9) (eTup (aCons (eVar 10) (aNil)))) (aCons (eVar 11) (aNil))))))) (sIf (tBoo (eOp2 gLt (eOp1 gMax1 (eOp2 gAdd (eVar 1) (eLst (aCons (eC (.int 0)) (aNil))))) (eC (.int 2)))) (sSet 9 (eOp2 gAdd (eVar 9) (eTup (aCons (eVar 10) (aNil))))) (sSkip))))) (sSeq (sIf (tOrD (tBoo (eOp2 gEq (eVar 7) (eLst (aNil)))) (tBoo (eOp2 gGt (eCall M__law_draw [true, false] (aCons (eVar 0) (aCons (eC (.int 6)) (aNil)))) (eC (.int 0))))) (sSet 7 (eOp2 gAdd (eLst (aCons (eC (.int 0)) (aNil))) (eVar 7))) (sSkip)) (sRet (eTup (aCons (eVar 3) (aCons (eVar 4) (aCons (eOp1 gTuple (eVar 7)) (aCons (eVar 9) (aNil)))))))))))))
def M__law_protocol : List Arg → FO := den g__law_protocol 3 12
abbrev st__law_broadcast : Stmt := top 20
abbrev ps__law_broadcast : List Str := [("pen" : Str)]
abbrev N__law_broadcast : List Str := [("pen" : Str), ("few" : Str), ("all_of" : Str), ("one" : Str), ("two" : Str), ("rules" : Str)]
def g__law_broadcast : PEn → Out Fl :=
  sSeq (sUnp (gTp 2 (gsC (gNm 1) (gsC (gNm 2) (gsN)))) (eTup (aCons (eTup (aCons (eC (.int 0)) (aCons (eC (.int 1)) (aCons (eC (.int 1)) (aNil))))) (aCons (eTup (aCons (eC (.int 1)) (aCons (eOp1 gNeg (eC (.int 1))) (aCons (eC (.int 0)) (aNil))))) (aNil))))) (sSeq (sIf (tBoo (eOp2 gEq (eCall M__law_draw [true, false] (aCons (eVar 0) (aCons (eC (.int 3)) (aNil)))) (eC (.int 0)))) (sPar [1, 2] (aCons (eCall M__law_bound [true] (aCons (eVar 0) (aNil))) (aCons (eCall M__law_bound [true] (aCons (eVar 0) (aNil))) (aNil)))) (sSkip)) (sSeq (sPar [3, 4] (aCons (eTup (aCons (eTup (aCons (eC (.int 0)) (aCons (eVar 1) (aNil)))) (aNil))) (aCons (eTup (aCons (eTup (aCons (eC (.int 0)) (aCons (eVar 2) (aNil)))) (aNil))) (aNil)))) (sSeq (sSet 5 (eLst (aCons (eTup (aCons (eC (.int 1)) (aCons (eC (.int 2)) (aCons (eTup (aNil)) (aCons (eTup (aCons (eC (.int 0)) (aNil))) (aNil)))))) (aCons (eTup (aCons (eC (.int 0)) (aCons (eC (.int 2)) (aCons (eVar 3) (aCons (eTup (aCons (eC (.int 0)) (aNil))) (aNil)))))) (aCons (eTup (aCons (eC (.int 0)) (aCons (eC (.int 3)) (aCons (eVar 4) (aCons (eTup (aCons (eC (.int 0)) (aNil))) (aNil)))))) (aCons (eTup (aCons (eC (.int 2)) (aCons (eC (.int 3)) (aCons (eVar 4) (aCons (eTup (aNil)) (aNil)))))) (aNil))))))) (sSeq (sIf (tBoo (eOp2 gEq (eCall M__law_draw [true, false] (aCons (eVar 0) (aCons (eC (.int 4)) (aNil)))) (eC (.int 0)))) (sExpr (ePopAt 5 (eCall M__law_draw [true, false] (aCons (eVar 0) (aCons (eOp1 gLen (eVar 5)) (aNil)))))) (sSkip)) (sRet (eTup (aCons (eC (.int 4)) (aCons (eC (.int 1)) (aCons (eTup (aCons (eC (.int 0)) (aCons (eC (.int 1)) (aNil)))) (aCons (eOp1 gTuple (eVar 5)) (aNil)))))))))))
def M__law_broadcast : List Arg → FO := den g__law_broadcast 1 6
abbrev st__law_some_protocol : Stmt := top 21
abbrev ps__law_some_protocol : List Str := [("pen" : Str), ("most" : Str), ("size" : Str)]
abbrev N__law_some_protocol : List Str := [("pen" : Str), ("most" : Str), ("size" : Str)]
def g__law_some_protocol : PEn → Out Fl :=
  sRet (eIf (tBoo (eOp2 gEq (eCall M__law_draw [true, false] (aCons (eVar 0) (aCons (eC (.int 3)) (aNil)))) (eC (.int 0)))) (eCall M__law_broadcast [true] (aCons (eVar 0) (aNil))) (eCall M__law_protocol [true, false, false] (aCons (eVar 0) (aCons (eVar 1) (aCons (eVar 2) (aNil))))))
def M__law_some_protocol : List Arg → FO := den g__law_some_protocol 3 3
abbrev st__law_conditions : Stmt := top 22
abbrev ps__law_conditions : List Str := [("protocol" : Str)]
abbrev N__law_conditions : List Str := [("protocol" : Str), ("found" : Str), ("rule" : Str)]
def g__law_conditions : PEn → Out Fl :=
  sSeq (sSet 1 (eLst (aNil))) (sSeq (sFor (iSeq (eOp2 gIx (eVar 0) (eC (.int 3)))) (gNm 2) (sExpr (eExt 1 (eOp1 gList (eOp2 gIx (eVar 2) (eC (.int 2))))))) (sRet (eOp1 gSSet (eVar 1))))
def M__law_conditions : List Arg → FO := den g__law_conditions 1 3
abbrev st__law_value : Stmt := top 23
abbrev ps__law_value : List Str := [("bound" : Str), ("numbers" : Str)]
abbrev N__law_value : List Str := [("bound" : Str), ("numbers" : Str)]
def g__law_value : PEn → Out Fl :=
  sRet (eOp2 gAdd (eOp2 gAdd (eOp2 gMul (eOp2 gIx (eVar 0) (eC (.int 0))) (eOp2 gIx (eVar 1) (eC (.int 0)))) (eOp2 gMul (eOp2 gIx (eVar 0) (eC (.int 1))) (eOp2 gIx (eVar 1) (eC (.int 1))))) (eOp2 gIx (eVar 0) (eC (.int 2))))
def M__law_value : List Arg → FO := den g__law_value 2 2
abbrev st__law_numbers : Stmt := top 24
abbrev ps__law_numbers : List Str := [("pen" : Str), ("most" : Str)]
abbrev N__law_numbers : List Str := [("pen" : Str), ("most" : Str), ("n" : Str)]
def g__law_numbers : PEn → Out Fl :=
  sSeq (sSet 2 (eCall M__law_draw [true, false] (aCons (eVar 0) (aCons (eOp2 gAdd (eVar 1) (eC (.int 1))) (aNil))))) (sRet (eTup (aCons (eVar 2) (aCons (eCall M__law_draw [true, false] (aCons (eVar 0) (aCons (eC (.int 4)) (aNil)))) (aCons (eCall M__law_one_of [true, false] (aCons (eVar 0) (aCons (eLst (aCons (eC (.int 0)) (aCons (eOp2 gMin2 (eC (.int 1)) (eVar 2)) (aCons (eCall M__law_draw [true, false] (aCons (eVar 0) (aCons (eOp2 gAdd (eVar 2) (eC (.int 1))) (aNil)))) (aNil))))) (aNil)))) (aNil))))))
def M__law_numbers : List Arg → FO := den g__law_numbers 2 3
abbrev st__law_firsts : Stmt := top 25
abbrev ps__law_firsts : List Str := [("pen" : Str), ("protocol" : Str), ("numbers" : Str)]
abbrev N__law_firsts : List Str := [("pen" : Str), ("protocol" : Str), ("numbers" : Str), ("counts" : Str), ("lap" : Str), ("start" : Str), ("first" : Str)]
def g__law_firsts : PEn → Out Fl :=
  sSeq (sSet 3 (eOp2 gMul (eLst (aCons (eC (.int 0)) (aNil))) (eOp2 gIx (eVar 1) (eC (.int 0))))) (sSeq (sFor (iRange1 (eOp2 gMin2 (eC (.int 60)) (eOp2 gSub (eOp2 gIx (eVar 2) (eC (.int 0))) (eOp2 gIx (eVar 2) (eC (.int 2)))))) (gNm 4) (sSeq (sSet 5 (eCall M__law_one_of [true, false] (aCons (eVar 0) (aCons (eOp1 gList (eOp2 gIx (eVar 1) (eC (.int 2)))) (aNil))))) (sStore 3 (eVar 5) (eOp2 gAdd (eOp2 gIx (eVar 3) (eVar 5)) (eC (.int 1)))))) (sSeq (sSet 6 (eOp2 gIx (eOp2 gIx (eVar 1) (eC (.int 2))) (eC (.int 0)))) (sSeq (sStore 3 (eVar 6) (eOp2 gSub (eOp2 gSub (eOp2 gAdd (eOp2 gIx (eVar 3) (eVar 6)) (eOp2 gIx (eVar 2) (eC (.int 0)))) (eOp2 gIx (eVar 2) (eC (.int 2)))) (eOp1 gSum (eVar 3)))) (sRet (eOp1 gTuple (eVar 3))))))
def M__law_firsts : List Arg → FO := den g__law_firsts 3 7
abbrev st__law_is_heard : Stmt := top 26
abbrev ps__law_is_heard : List Str := [("numbers" : Str), ("crowd" : Str), ("condition" : Str), ("aid" : Str)]
abbrev N__law_is_heard : List Str := [("numbers" : Str), ("crowd" : Str), ("condition" : Str), ("aid" : Str)]
def g__law_is_heard : PEn → Out Fl :=
  sRet (eOp2 gGe (eOp2 gAdd (eOp2 gIx (eOp2 gIx (eVar 1) (eC (.int 1))) (eOp2 gIx (eVar 2) (eC (.int 0)))) (eVar 3)) (eCall M__law_value [false, false] (aCons (eOp2 gIx (eVar 2) (eC (.int 1))) (aCons (eVar 0) (aNil)))))
def M__law_is_heard : List Arg → FO := den g__law_is_heard 4 4
abbrev st__law_takers : Stmt := top 27
abbrev ps__law_takers : List Str := [("protocol" : Str), ("numbers" : Str), ("crowd" : Str), ("aid" : Str)]
abbrev N__law_takers : List Str := [("protocol" : Str), ("numbers" : Str), ("crowd" : Str), ("aid" : Str), ("found" : Str), ("index" : Str), ("rule" : Str), ("deaf" : Str), ("condition" : Str)]
def g__law_takers : PEn → Out Fl :=
  sSeq (sSet 4 (eLst (aNil))) (sSeq (sFor (iEnumD (eOp2 gIx (eVar 0) (eC (.int 3)))) (gTp 2 (gsC (gNm 5) (gsC (gNm 6) (gsN)))) (sSeq (sSet 7 (eComp (iSeq (eOp2 gIx (eVar 6) (eC (.int 2)))) [8] (gNm 8) (tNotD (tTru (eCall M__law_is_heard [false, false, false, false] (aCons (eVar 1) (aCons (eVar 2) (aCons (eVar 8) (aCons (eVar 3) (aNil)))))))) (eC (.int 1)))) (sIf (tAndD (tBoo (eOp2 gGt (eOp2 gIx (eOp2 gIx (eVar 2) (eC (.int 0))) (eOp2 gIx (eVar 6) (eC (.int 0)))) (eC (.int 0)))) (tBoo (eOp2 gEq (eVar 7) (eLst (aNil))))) (sExpr (eApp 4 (eVar 5))) (sSkip)))) (sRet (eVar 4)))
def M__law_takers : List Arg → FO := den g__law_takers 4 9
abbrev st__law_behind : Stmt := top 28
abbrev ps__law_behind : List Str := [("crowd" : Str), ("rule" : Str), ("times" : Str)]
abbrev N__law_behind : List Str := [("crowd" : Str), ("rule" : Str), ("times" : Str), ("counts" : Str), ("said" : Str), ("kind" : Str)]
def g__law_behind : PEn → Out Fl :=
  sSeq (sPar [3, 4] (aCons (eOp1 gList (eOp2 gIx (eVar 0) (eC (.int 0)))) (aCons (eOp1 gList (eOp2 gIx (eVar 0) (eC (.int 1)))) (aNil)))) (sSeq (sStore 3 (eOp2 gIx (eVar 1) (eC (.int 0))) (eOp2 gSub (eOp2 gIx (eVar 3) (eOp2 gIx (eVar 1) (eC (.int 0)))) (eVar 2))) (sSeq (sStore 3 (eOp2 gIx (eVar 1) (eC (.int 1))) (eOp2 gAdd (eOp2 gIx (eVar 3) (eOp2 gIx (eVar 1) (eC (.int 1)))) (eVar 2))) (sSeq (sFor (iSeq (eOp2 gIx (eVar 1) (eC (.int 3)))) (gNm 5) (sStore 4 (eVar 5) (eOp2 gAdd (eOp2 gIx (eVar 4) (eVar 5)) (eVar 2)))) (sRet (eTup (aCons (eOp1 gTuple (eVar 3)) (aCons (eOp1 gTuple (eVar 4)) (aNil))))))))
def M__law_behind : List Arg → FO := den g__law_behind 3 6
abbrev st__law_run : Stmt := top 29
abbrev ps__law_run : List Str := [("pen" : Str), ("protocol" : Str), ("numbers" : Str), ("crowd" : Str), ("most" : Str)]
abbrev N__law_run : List Str := [("pen" : Str), ("protocol" : Str), ("numbers" : Str), ("crowd" : Str), ("most" : Str), ("found" : Str), ("lap" : Str), ("some" : Str), ("index" : Str), ("here" : Str), ("times" : Str)]
def g__law_run : PEn → Out Fl :=
  sSeq (sSet 5 (eLst (aNil))) (sSeq (sFor (iRange1 (eCall M__law_draw [true, false] (aCons (eVar 0) (aCons (eOp2 gAdd (eVar 4) (eC (.int 1))) (aNil))))) (gNm 6) (sSeq (sSet 7 (eCall M__law_takers [false, false, false, false] (aCons (eVar 1) (aCons (eVar 2) (aCons (eVar 3) (aCons (eOp2 gIx (eVar 2) (eC (.int 2))) (aNil))))))) (sIf (tBoo (eOp2 gNe (eVar 7) (eLst (aNil)))) (sSeq (sSet 8 (eCall M__law_one_of [true, false] (aCons (eVar 0) (aCons (eVar 7) (aNil))))) (sSeq (sSet 9 (eOp2 gIx (eOp2 gIx (eVar 3) (eC (.int 0))) (eOp2 gIx (eOp2 gIx (eOp2 gIx (eVar 1) (eC (.int 3))) (eVar 8)) (eC (.int 0))))) (sSeq (sSet 10 (eCall M__law_one_of [true, false] (aCons (eVar 0) (aCons (eLst (aCons (eC (.int 1)) (aCons (eVar 9) (aCons (eOp2 gAdd (eC (.int 1)) (eCall M__law_draw [true, false] (aCons (eVar 0) (aCons (eVar 9) (aNil))))) (aNil))))) (aNil))))) (sSeq (sExpr (eApp 5 (eTup (aCons (eVar 8) (aCons (eVar 10) (aNil)))))) (sSet 3 (eCall M__law_behind [false, false, false] (aCons (eVar 3) (aCons (eOp2 gIx (eOp2 gIx (eVar 1) (eC (.int 3))) (eVar 8)) (aCons (eVar 10) (aNil)))))))))) (sSkip)))) (sRet (eTup (aCons (eOp1 gTuple (eVar 5)) (aCons (eVar 3) (aNil))))))
def M__law_run : List Arg → FO := den g__law_run 5 11
abbrev st__law_at : Stmt := top 30
abbrev ps__law_at : List Str := [("rows" : Str), ("place" : Str), ("thing" : Str)]
abbrev N__law_at : List Str := [("rows" : Str), ("place" : Str), ("thing" : Str)]
def g__law_at : PEn → Out Fl :=
  sRet (eOp2 gAdd (eOp2 gAdd (eSl (eVar 0) (oNo) (oYes (eVar 1))) (eTup (aCons (eVar 2) (aNil)))) (eSl (eVar 0) (oYes (eOp2 gAdd (eVar 1) (eC (.int 1)))) (oNo)))
def M__law_at : List Arg → FO := den g__law_at 3 3
abbrev st__law_is_first : Stmt := top 31
abbrev ps__law_is_first : List Str := [("protocol" : Str), ("numbers" : Str), ("empty" : Str), ("counts" : Str)]
abbrev N__law_is_first : List Str := [("protocol" : Str), ("numbers" : Str), ("empty" : Str), ("counts" : Str), ("n" : Str), ("t" : Str), ("f" : Str), ("location" : Str), ("count" : Str)]
def g__law_is_first : PEn → Out Fl :=
  sSeq (sUnp (gTp 3 (gsC (gNm 4) (gsC (gNm 5) (gsC (gNm 6) (gsN))))) (eVar 1)) (sSeq (sFor (iEnumD (eVar 3)) (gTp 2 (gsC (gNm 7) (gsC (gNm 8) (gsN)))) (sIf (tAndD (tBoo (eOp2 gGt (eVar 8) (eC (.int 0)))) (tOrD (tBoo (eOp2 gNotIn (eVar 7) (eOp2 gIx (eVar 0) (eC (.int 2))))) (tBoo (eOp2 gIn (eVar 7) (eVar 2))))) (sRet (eC (.bool false))) (sSkip))) (sRet (eAndD (eOp2 gEq (eOp1 gSum (eVar 3)) (eOp2 gSub (eVar 4) (eVar 6))) (eOp2 gLe (eVar 6) (eVar 4)))))
def M__law_is_first : List Arg → FO := den g__law_is_first 4 9
abbrev st__law_firsts_right : Stmt := top 32
abbrev ps__law_firsts_right : List Str := [("pen" : Str), ("protocol" : Str), ("numbers" : Str)]
abbrev N__law_firsts_right : List Str := [("pen" : Str), ("protocol" : Str), ("numbers" : Str), ("counts" : Str), ("at" : Str), ("some" : Str), ("empty" : Str), ("start" : Str), ("value" : Str), ("others" : Str), ("three" : Str), ("told" : Str)]
def g__law_firsts_right : PEn → Out Fl :=
  sSeq (sSet 3 (eCall M__law_firsts [true, false, false] (aCons (eVar 0) (aCons (eVar 1) (aCons (eVar 2) (aNil)))))) (sSeq (sIf (tBoo (eOp2 gNe (eOp1 gRepr (eCall M_first_crowd [false, false] (aCons (eVar 1) (aCons (eVar 3) (aNil))))) (eOp1 gRepr (eTup (aCons (eVar 3) (aCons (eOp2 gMul (eTup (aCons (eC (.int 0)) (aNil))) (eOp2 gIx (eVar 1) (eC (.int 1)))) (aNil))))))) (sRet (eC (.bool false))) (sSkip)) (sSeq (sSet 4 (eCall M__law_draw [true, false] (aCons (eVar 0) (aCons (eOp1 gLen (eVar 3)) (aNil))))) (sSeq (sSet 5 (eLst (aCons (eVar 3) (aCons (eCall M__law_at [false, false, false] (aCons (eVar 3) (aCons (eVar 4) (aCons (eOp2 gAdd (eOp2 gIx (eVar 3) (eVar 4)) (eC (.int 1))) (aNil))))) (aCons (eOp1 gRev (eVar 3)) (aCons (eCall M__law_at [false, false, false] (aCons (eVar 3) (aCons (eVar 4) (aCons (eC (.int 0)) (aNil))))) (aNil))))))) (sSeq (sSet 6 (eComp (iSeq (eOp2 gIx (eVar 1) (eC (.int 2)))) [7] (gNm 7) (tBoo (eOp2 gEq (eCall M__law_draw [true, false] (aCons (eVar 0) (aCons (eC (.int 3)) (aNil)))) (eC (.int 0)))) (eVar 7))) (sSeq (sSet 6 (eOp1 gTuple (eSl (eVar 6) (oNo) (oYes (eOp2 gSub (eOp1 gLen (eOp2 gIx (eVar 1) (eC (.int 2)))) (eC (.int 1))))))) (sSeq (sFor (iSeq (eVar 5)) (gNm 8) (sFor (iSeq (eTup (aCons (eTup (aNil)) (aCons (eVar 6) (aNil))))) (gNm 9) (sFor (iSeq (eTup (aCons (eVar 2) (aCons (eOp2 gAdd (eSl (eVar 2) (oNo) (oYes (eC (.int 2)))) (eTup (aCons (eOp2 gAdd (eOp2 gIx (eVar 2) (eC (.int 0))) (eC (.int 1))) (aNil)))) (aCons (eOp2 gAdd (eTup (aCons (eOp2 gAdd (eOp2 gIx (eVar 2) (eC (.int 0))) (eC (.int 1))) (aNil))) (eSl (eVar 2) (oYes (eC (.int 1))) (oNo))) (aNil)))))) (gNm 10) (sSeq (sSet 11 (eCall M_is_first [false, false, false, false] (aCons (eVar 1) (aCons (eVar 10) (aCons (eVar 9) (aCons (eVar 8) (aNil))))))) (sIf (tBoo (eOp2 gNe (eOp1 gRepr (eVar 11)) (eOp1 gRepr (eCall M__law_is_first [false, false, false, false] (aCons (eVar 1) (aCons (eVar 10) (aCons (eVar 9) (aCons (eVar 8) (aNil))))))))) (sRet (eC (.bool false))) (sSkip)))))) (sRet (eC (.bool true)))))))))
def M__law_firsts_right : List Arg → FO := den g__law_firsts_right 3 12
abbrev st__law_crowd_right : Stmt := top 33
abbrev ps__law_crowd_right : List Str := [("protocol" : Str), ("numbers" : Str), ("crowd" : Str)]
abbrev N__law_crowd_right : List Str := [("protocol" : Str), ("numbers" : Str), ("crowd" : Str), ("kept" : Str), ("condition" : Str), ("found" : Str), ("due" : Str), ("aid" : Str)]
def g__law_crowd_right : PEn → Out Fl :=
  sSeq (sSet 3 (eOp1 gRepr (eTup (aCons (eVar 0) (aCons (eVar 1) (aCons (eVar 2) (aNil))))))) (sSeq (sFor (iSeq (eCall M__law_conditions [false] (aCons (eVar 0) (aNil)))) (gNm 4) (sSeq (sSet 5 (eLst (aCons (eCall M_can_hear [false, false, false] (aCons (eVar 1) (aCons (eVar 2) (aCons (eVar 4) (aNil))))) (aCons (eCall M_hears [false, false, false] (aCons (eVar 1) (aCons (eVar 2) (aCons (eVar 4) (aNil))))) (aNil))))) (sSeq (sSet 6 (eComp (iSeq (eTup (aCons (eOp2 gIx (eVar 1) (eC (.int 2))) (aCons (eC (.int 0)) (aNil))))) [7] (gNm 7) (tYesD) (eCall M__law_is_heard [false, false, false, false] (aCons (eVar 1) (aCons (eVar 2) (aCons (eVar 4) (aCons (eVar 7) (aNil)))))))) (sIf (tBoo (eOp2 gNe (eOp1 gRepr (eVar 5)) (eOp1 gRepr (eVar 6)))) (sRet (eC (.bool false))) (sSkip))))) (sSeq (sSet 6 (eComp (iSeq (eTup (aCons (eOp2 gIx (eVar 1) (eC (.int 2))) (aCons (eC (.int 0)) (aNil))))) [7] (gNm 7) (tYesD) (eOp1 gTuple (eCall M__law_takers [false, false, false, false] (aCons (eVar 0) (aCons (eVar 1) (aCons (eVar 2) (aCons (eVar 7) (aNil))))))))) (sSeq (sSet 5 (eLst (aCons (eCall M_can_take [false, false, false] (aCons (eVar 0) (aCons (eVar 1) (aCons (eVar 2) (aNil))))) (aCons (eCall M_urged [false, false, false] (aCons (eVar 0) (aCons (eVar 1) (aCons (eVar 2) (aNil))))) (aNil))))) (sSeq (sIf (tOrD (tBoo (eOp2 gNe (eOp1 gRepr (eVar 5)) (eOp1 gRepr (eVar 6)))) (tBoo (eOp2 gNe (eOp1 gRepr (eTup (aCons (eVar 0) (aCons (eVar 1) (aCons (eVar 2) (aNil)))))) (eVar 3)))) (sRet (eC (.bool false))) (sSkip)) (sRet (eOp2 gEq (eOp1 gRepr (eCall M_is_end [false, false, false] (aCons (eVar 0) (aCons (eVar 1) (aCons (eVar 2) (aNil)))))) (eOp1 gRepr (eOp2 gEq (eOp2 gIx (eVar 6) (eC (.int 1))) (eTup (aNil))))))))))
def M__law_crowd_right : List Arg → FO := den g__law_crowd_right 3 8
abbrev st_law : Stmt := top 34
abbrev ps_law : List Str := [("script" : Str)]
abbrev N_law : List Str := [("script" : Str), ("pen" : Str), ("lap" : Str), ("protocol" : Str), ("numbers" : Str), ("counts" : Str), ("crowd" : Str), ("turn" : Str), ("drawn" : Str), ("location" : Str), ("said" : Str), ("kind" : Str)]
def g_law : PEn → Out Fl :=
  sSeq (sSet 1 (eCall M__law_pen [false] (aCons (eVar 0) (aNil)))) (sSeq (sFor (iRange1 (eC (.int 5))) (gNm 2) (sSeq (sPar [3, 4] (aCons (eCall M__law_some_protocol [true, false, false] (aCons (eVar 1) (aCons (eC (.int 5)) (aCons (eC (.int 8)) (aNil))))) (aCons (eCall M__law_numbers [true, false] (aCons (eVar 1) (aCons (eC (.int 12)) (aNil)))) (aNil)))) (sSeq (sIf (tNotD (tTru (eCall M__law_firsts_right [true, false, false] (aCons (eVar 1) (aCons (eVar 3) (aCons (eVar 4) (aNil))))))) (sRet (eC (.bool false))) (sSkip)) (sSeq (sSet 5 (eCall M__law_firsts [true, false, false] (aCons (eVar 1) (aCons (eVar 3) (aCons (eVar 4) (aNil)))))) (sSeq (sSet 6 (eTup (aCons (eVar 5) (aCons (eOp2 gMul (eTup (aCons (eC (.int 0)) (aNil))) (eOp2 gIx (eVar 3) (eC (.int 1)))) (aNil))))) (sSeq (sFor (iRange1 (eC (.int 4))) (gNm 7) (sSeq (sIf (tNotD (tTru (eCall M__law_crowd_right [false, false, false] (aCons (eVar 3) (aCons (eVar 4) (aCons (eVar 6) (aNil))))))) (sRet (eC (.bool false))) (sSkip)) (sSet 6 (eOp2 gIx (eCall M__law_run [true, false, false, false, false] (aCons (eVar 1) (aCons (eVar 3) (aCons (eVar 4) (aCons (eVar 6) (aCons (eC (.int 3)) (aNil))))))) (eC (.int 1)))))) (sSeq (sSet 8 (eOp1 gTuple (eComp (iRange1 (eOp2 gIx (eVar 3) (eC (.int 0)))) [9] (gNm 9) (tYesD) (eCall M__law_draw [true, false] (aCons (eVar 1) (aCons (eC (.int 5)) (aNil))))))) (sSeq (sSet 10 (eOp1 gTuple (eComp (iRange1 (eOp2 gIx (eVar 3) (eC (.int 1)))) [11] (gNm 11) (tYesD) (eCall M__law_draw [true, false] (aCons (eVar 1) (aCons (eC (.int 9)) (aNil))))))) (sIf (tNotD (tTru (eCall M__law_crowd_right [false, false, false] (aCons (eVar 3) (aCons (eVar 4) (aCons (eTup (aCons (eVar 8) (aCons (eVar 10) (aNil)))) (aNil))))))) (sRet (eC (.bool false))) (sSkip)))))))))) (sRet (eC (.bool true))))
def M_law : List Arg → FO := den g_law 1 12
structure Txt (mg : Str → Option Value) : Prop where
  b_all : mg "all" = none
  b_dict : mg "dict" = none
  b_enumerate : mg "enumerate" = none
  b_int : mg "int" = none
  b_len : mg "len" = none
  b_list : mg "list" = none
  b_max : mg "max" = none
  b_min : mg "min" = none
  b_range : mg "range" = none
  b_repr : mg "repr" = none
  b_set : mg "set" = none
  b_sorted : mg "sorted" = none
  b_sum : mg "sum" = none
  b_tuple : mg "tuple" = none
section
variable {P : Program} {w : World} {K : PySem.W.Frag} {mg : Str → Option Value} {base : Heap}
theorem sc_bound_value : FnScope N_bound_value ps_bound_value (defScope st_bound_value) := ⟨rfl, rfl, rfl, by decide +kernel, rfl, by decide +kernel, by decide +kernel⟩
theorem ok_bound_value {f : Addr} {fd : FuncData} (Fn : Fun K "bound_value" "bound_value" st_bound_value f fd) (T : Txt mg) : FnG P w K mg base (L2.CX P w) 1 f fd ps_bound_value (spD K mg M_bound_value) :=
  fn_denM (k := 0) N_bound_value ps_bound_value g_bound_value Fn sc_bound_value rfl rfl _ rfl (by decide) fun cdv A outer s H E hr =>
    ss_cons (s_unp (g_tup rfl (gs_cons (gn 2 sc_bound_value.nd) (gs_cons (gn 3 sc_bound_value.nd) (gs_cons (gn 4 sc_bound_value.nd) (gs_nil))))) (v 0)) (ss_cons (s_unp (g_tup rfl (gs_cons (gn 5 sc_bound_value.nd) (gs_cons (gn 6 sc_bound_value.nd) (gs_cons (gn 7 sc_bound_value.nd) (gs_nil))))) (v 1)) (ss_one (s_ret (j_bin o_add (j_bin o_add (j_bin o_mul (v 2) (v 5)) (j_bin o_mul (v 3) (v 6))) (v 4)))))
theorem sc_first_crowd : FnScope N_first_crowd ps_first_crowd (defScope st_first_crowd) := ⟨rfl, rfl, rfl, by decide +kernel, rfl, by decide +kernel, by decide +kernel⟩
theorem ok_first_crowd {f : Addr} {fd : FuncData} (Fn : Fun K "first_crowd" "first_crowd" st_first_crowd f fd) (T : Txt mg) : FnG P w K mg base (L2.CX P w) 1 f fd ps_first_crowd (spD K mg M_first_crowd) :=
  fn_denM (k := 0) N_first_crowd ps_first_crowd g_first_crowd Fn sc_first_crowd rfl rfl _ rfl (by decide) fun cdv A outer s H E hr =>
    ss_one (s_ret (j_tup (ja_cons (v 1) (ja_cons (j_bin o_mul (j_tup (ja_cons (j_int) (ja_nil))) (j_ix o_ix (v 0) (j_int))) (ja_nil)))))
theorem sc_is_first : FnScope N_is_first ps_is_first (defScope st_is_first) := ⟨rfl, rfl, rfl, by decide +kernel, rfl, by decide +kernel, by decide +kernel⟩
theorem ok_is_first {f : Addr} {fd : FuncData} (Fn : Fun K "is_first" "is_first" st_is_first f fd) (T : Txt mg) : FnG P w K mg base (L2.CX P w) 1 f fd ps_is_first (spD K mg M_is_first) :=
  fn_denM (k := 0) N_is_first ps_is_first g_is_first Fn sc_is_first rfl rfl _ rfl (by decide) fun cdv A outer s H E hr =>
    ss_cons (s_unp (g_tup rfl (gs_cons (gn 4 sc_is_first.nd) (gs_cons (gn 5 sc_is_first.nd) (gs_cons (gn 6 sc_is_first.nd) (gs_nil))))) (v 1)) (ss_cons (s_for ownF rfl (i_enum (by rfl) T.b_enumerate (v 3)) (g_tup rfl (gs_cons (gn 7 sc_is_first.nd) (gs_cons (gn 8 sc_is_first.nd) (gs_nil)))) (ss_one (s_if ((jw_and (jt_cmp (o_ne hr.u64) (v 8) (j_int)) (pw_and1 ((jw_or (jt_cmp (o_notin hr.u65) (v 7) (j_ix o_ix (v 0) (j_int))) (pw_or1 (jt_cmp (o_in hr.u65) (v 7) (v 2)))).pt))).pt) (ss_one (s_ret (j_bool))) (ss_nil)))) (ss_one (s_ret (j_and (j_cmp o_le (v 6) (v 4)) (j_one (j_cmp (o_eq hr.u64) (j_sum ⟨by rfl, T.b_sum⟩ (v 3)) (j_bin o_sub (v 4) (v 6))))))))
theorem sc_hears : FnScope N_hears ps_hears (defScope st_hears) := ⟨rfl, rfl, rfl, by decide +kernel, rfl, by decide +kernel, by decide +kernel⟩
theorem ok_hears {f : Addr} {fd : FuncData} (Fn : Fun K "hears" "hears" st_hears f fd) (T : Txt mg) (c_bound_value : Cal P w K mg base "bound_value" ps_bound_value 1 M_bound_value) : FnG P w K mg base (L2.CX P w) 2 f fd ps_hears (spD K mg M_hears) :=
  fn_denM (k := 1) N_hears ps_hears g_hears Fn sc_hears rfl rfl _ rfl (by decide) fun cdv A outer s H E hr =>
    ss_cons (s_unp (g_tup rfl (gs_cons (gn 3 sc_hears.nd) (gs_cons (gn 4 sc_hears.nd) (gs_nil)))) (v 2)) (ss_one (s_ret (j_cmp o_ge (j_ix o_ix (j_ix o_ix (v 1) (j_int)) (v 3)) (cal [false, false] c_bound_value hr (fun σ => (passAt takesF) σ) (ja_cons (v 4) (ja_cons (v 0) (ja_nil)))))))
theorem sc_can_hear : FnScope N_can_hear ps_can_hear (defScope st_can_hear) := ⟨rfl, rfl, rfl, by decide +kernel, rfl, by decide +kernel, by decide +kernel⟩
theorem ok_can_hear {f : Addr} {fd : FuncData} (Fn : Fun K "can_hear" "can_hear" st_can_hear f fd) (T : Txt mg) (c_bound_value : Cal P w K mg base "bound_value" ps_bound_value 1 M_bound_value) : FnG P w K mg base (L2.CX P w) 2 f fd ps_can_hear (spD K mg M_can_hear) :=
  fn_denM (k := 1) N_can_hear ps_can_hear g_can_hear Fn sc_can_hear rfl rfl _ rfl (by decide) fun cdv A outer s H E hr =>
    ss_cons (s_unp (g_tup rfl (gs_cons (gn 3 sc_can_hear.nd) (gs_cons (gn 4 sc_can_hear.nd) (gs_nil)))) (v 2)) (ss_one (s_ret (j_cmp o_ge (j_bin o_add (j_ix o_ix (j_ix o_ix (v 1) (j_int)) (v 3)) (j_ix o_ix (v 0) (j_int))) (cal [false, false] c_bound_value hr (fun σ => (passAt takesF) σ) (ja_cons (v 4) (ja_cons (v 0) (ja_nil)))))))
theorem sc_can_take : FnScope N_can_take ps_can_take (defScope st_can_take) := ⟨rfl, rfl, rfl, by decide +kernel, rfl, by decide +kernel, by decide +kernel⟩
theorem ok_can_take {f : Addr} {fd : FuncData} (Fn : Fun K "can_take" "can_take" st_can_take f fd) (T : Txt mg) (c_can_hear : Cal P w K mg base "can_hear" ps_can_hear 2 M_can_hear) : FnG P w K mg base (L2.CX P w) 3 f fd ps_can_take (spD K mg M_can_take) :=
  fn_denM (k := 2) N_can_take ps_can_take g_can_take Fn sc_can_take rfl rfl _ rfl (by decide) fun cdv A outer s H E hr =>
    ss_cons (s_set (i := 3) sc_can_take.nd rfl (Or.inl rfl) (j_lst (ja_nil))) (ss_cons (s_for ownF rfl (i_enum (by rfl) T.b_enumerate (j_ix o_ix (v 0) (j_int))) (g_tup rfl (gs_cons (gn 4 sc_can_take.nd) (gs_cons (g_tup rfl (gs_cons (gn 5 sc_can_take.nd) (gs_cons (gn 6 sc_can_take.nd) (gs_cons (gn 7 sc_can_take.nd) (gs_cons (gn 8 sc_can_take.nd) (gs_nil)))))) (gs_nil)))) (ss_one (s_if ((jw_and (jt_cmp o_gt (j_ix o_ix (j_ix o_ix (v 2) (j_int)) (v 5)) (j_int)) (pw_and1 (jt_truth (j_all ⟨by rfl, T.b_all⟩ (j_lc (own := [("condition", 9)]) rfl sc_can_take.nd (i_seq (v 7)) (blk_of (by rfl)) (fun _ _ _ _ _ => gn 9 sc_can_take.nd) (fun _ _ _ _ _ => jts_nil) (fun _ _ _ _ _ => cal [false, false, false] c_can_hear hr (fun σ => passes0 σ) (ja_cons (v 1) (ja_cons (v 2) (ja_cons (v 9) (ja_nil)))))))))).pt) (ss_one (s_expr (pe_mono (pe_bm PySem.F.plainAttrs_list PySem.F.slot_list_append PySem.F.type_list_append mt_append (pv 3) (pa_cons (v 4) pa_nil)) rd_append))) (ss_nil)))) (ss_one (s_ret (j_tuple ⟨by rfl, T.b_tuple⟩ (v 3)))))
theorem sc_urged : FnScope N_urged ps_urged (defScope st_urged) := ⟨rfl, rfl, rfl, by decide +kernel, rfl, by decide +kernel, by decide +kernel⟩
theorem ok_urged {f : Addr} {fd : FuncData} (Fn : Fun K "urged" "urged" st_urged f fd) (T : Txt mg) (c_hears : Cal P w K mg base "hears" ps_hears 2 M_hears) : FnG P w K mg base (L2.CX P w) 3 f fd ps_urged (spD K mg M_urged) :=
  fn_denM (k := 2) N_urged ps_urged g_urged Fn sc_urged rfl rfl _ rfl (by decide) fun cdv A outer s H E hr =>
    ss_cons (s_set (i := 3) sc_urged.nd rfl (Or.inl rfl) (j_lst (ja_nil))) (ss_cons (s_for ownF rfl (i_enum (by rfl) T.b_enumerate (j_ix o_ix (v 0) (j_int))) (g_tup rfl (gs_cons (gn 4 sc_urged.nd) (gs_cons (g_tup rfl (gs_cons (gn 5 sc_urged.nd) (gs_cons (gn 6 sc_urged.nd) (gs_cons (gn 7 sc_urged.nd) (gs_cons (gn 8 sc_urged.nd) (gs_nil)))))) (gs_nil)))) (ss_one (s_if ((jw_and (jt_cmp o_gt (j_ix o_ix (j_ix o_ix (v 2) (j_int)) (v 5)) (j_int)) (pw_and1 (jt_truth (j_all ⟨by rfl, T.b_all⟩ (j_lc (own := [("condition", 9)]) rfl sc_urged.nd (i_seq (v 7)) (blk_of (by rfl)) (fun _ _ _ _ _ => gn 9 sc_urged.nd) (fun _ _ _ _ _ => jts_nil) (fun _ _ _ _ _ => cal [false, false, false] c_hears hr (fun σ => passes0 σ) (ja_cons (v 1) (ja_cons (v 2) (ja_cons (v 9) (ja_nil)))))))))).pt) (ss_one (s_expr (pe_mono (pe_bm PySem.F.plainAttrs_list PySem.F.slot_list_append PySem.F.type_list_append mt_append (pv 3) (pa_cons (v 4) pa_nil)) rd_append))) (ss_nil)))) (ss_one (s_ret (j_tuple ⟨by rfl, T.b_tuple⟩ (v 3)))))
theorem sc_is_end : FnScope N_is_end ps_is_end (defScope st_is_end) := ⟨rfl, rfl, rfl, by decide +kernel, rfl, by decide +kernel, by decide +kernel⟩
theorem ok_is_end {f : Addr} {fd : FuncData} (Fn : Fun K "is_end" "is_end" st_is_end f fd) (T : Txt mg) (c_urged : Cal P w K mg base "urged" ps_urged 3 M_urged) : FnG P w K mg base (L2.CX P w) 4 f fd ps_is_end (spD K mg M_is_end) :=
  fn_denM (k := 3) N_is_end ps_is_end g_is_end Fn sc_is_end rfl rfl _ rfl (by decide) fun cdv A outer s H E hr =>
    ss_one (s_ret (j_cmp (o_eq hr.u64) (cal [false, false, false] c_urged hr (fun σ => (passAt takesF) σ) (ja_cons (v 0) (ja_cons (v 1) (ja_cons (v 2) (ja_nil))))) (j_tup (ja_nil))))
theorem sc__law_pen : FnScope N__law_pen ps__law_pen (defScope st__law_pen) := ⟨rfl, rfl, rfl, by decide +kernel, rfl, by decide +kernel, by decide +kernel⟩
theorem ok__law_pen {f : Addr} {fd : FuncData} (Fn : Fun K "_law_pen" "_law_pen" st__law_pen f fd) (T : Txt mg) : FnG P w K mg base (L2.CX P w) 1 f fd ps__law_pen (spD K mg M__law_pen) :=
  fn_denM (k := 0) N__law_pen ps__law_pen g__law_pen Fn sc__law_pen rfl rfl _ rfl (by decide) fun cdv A outer s H E hr =>
    ss_one (s_ret (j_lst (ja_cons (j_list ⟨by rfl, T.b_list⟩ (j_sl (v 0) (jo_no) (jo_yes (j_int)))) (ja_cons (j_int) (ja_cons (j_int) (ja_nil))))))
theorem sc__law_fresh : FnScope N__law_fresh ps__law_fresh (defScope st__law_fresh) := ⟨rfl, rfl, rfl, by decide +kernel, rfl, by decide +kernel, by decide +kernel⟩
theorem ok__law_fresh {f : Addr} {fd : FuncData} (Fn : Fun K "_law_fresh" "_law_fresh" st__law_fresh f fd) (T : Txt mg) : FnG P w K mg base (L2.CX P w) 1 f fd ps__law_fresh (spD K mg M__law_fresh) :=
  fn_denM (k := 0) N__law_fresh ps__law_fresh g__law_fresh Fn sc__law_fresh rfl rfl _ rfl (by decide) fun cdv A outer s H E hr =>
    ss_cons (s_par (i := 1) (j := 2) rfl sc__law_fresh.nd rfl rfl (by decide) rfl rfl (ja_cons (j_ix o_ix (v 0) (j_int)) (ja_cons (j_ix o_ix (v 0) (j_int)) (ja_nil)))) (ss_cons (ps_mono (ps_asg (j_bin o_add (v 1) (j_int)) (pg_sub (pv 0) (j_int) set_list)) rd_store) (ss_cons (s_set (i := 3) sc__law_fresh.nd rfl (Or.inl rfl) (j_if (jt_cmp (o_ne hr.u64) (v 2) (j_lst (ja_nil))) (j_ix o_ix (v 2) (j_bin o_mod (j_intOf ⟨by rfl, T.b_int⟩ (v 1)) (j_len ⟨by rfl, T.b_len⟩ (v 2)))) (j_int))) (ss_cons (s_if ((jw_and (jt_cmp o_lt (v 1) (j_len ⟨by rfl, T.b_len⟩ (v 2))) (pw_and1 (jt_cmp o_ge (v 3) (j_bin o_pow (j_int) (j_int))))).pt) (ss_one (s_ret (j_bin o_sub (v 3) (j_bin o_pow (j_int) (j_int))))) (ss_nil)) (ss_cons (s_set (i := 4) sc__law_fresh.nd rfl (Or.inl rfl) (j_int)) (ss_cons (s_set (i := 5) sc__law_fresh.nd rfl (Or.inl rfl) (j_bin o_mod (j_intOf ⟨by rfl, T.b_int⟩ (j_bin o_add (j_bin o_add (j_bin o_mul (v 3) (j_int)) (j_bin o_mul (j_int) (v 1))) (j_int))) (v 4))) (ss_cons (s_set (i := 6) sc__law_fresh.nd rfl (Or.inl rfl) (v 5)) (ss_cons (s_for ownF rfl (i_range1 (by rfl) T.b_range (j_int)) (gn 7 sc__law_fresh.nd) (ss_cons (s_set (i := 5) sc__law_fresh.nd rfl (Or.inl rfl) (j_bin o_mod (j_intOf ⟨by rfl, T.b_int⟩ (j_bin o_add (j_bin o_add (j_bin o_mul (v 5) (v 5)) (j_bin o_mul (j_bin o_mul (j_int) (j_bin o_add (v 7) (j_int))) (j_bin o_add (v 1) (j_int)))) (v 3))) (v 4))) (ss_one (s_set (i := 6) sc__law_fresh.nd rfl (Or.inl rfl) (j_bin o_add (j_bin o_mul (v 6) (v 4)) (v 5)))))) (ss_one (s_ret (v 6))))))))))
theorem sc__law_draw : FnScope N__law_draw ps__law_draw (defScope st__law_draw) := ⟨rfl, rfl, rfl, by decide +kernel, rfl, by decide +kernel, by decide +kernel⟩
theorem ok__law_draw {f : Addr} {fd : FuncData} (Fn : Fun K "_law_draw" "_law_draw" st__law_draw f fd) (T : Txt mg) (c__law_fresh : Cal P w K mg base "_law_fresh" ps__law_fresh 1 M__law_fresh) : FnG P w K mg base (L2.CX P w) 2 f fd ps__law_draw (spD K mg M__law_draw) :=
  fn_denM (k := 1) N__law_draw ps__law_draw g__law_draw Fn sc__law_draw rfl rfl _ rfl (by decide) fun cdv A outer s H E hr =>
    ss_cons (s_if (jt_cmp o_lt (j_ix o_ix (v 0) (j_int)) (v 1)) (ss_one (ps_mono (ps_asg (cal [true] c__law_fresh hr (fun σ => (passAt takesF) σ) (ja_cons (v 0) (ja_nil))) (pg_sub (pv 0) (j_int) set_list)) rd_store)) (ss_nil)) (ss_cons (s_set (i := 2) sc__law_draw.nd rfl (Or.inl rfl) (j_bin o_mod (j_intOf ⟨by rfl, T.b_int⟩ (j_ix o_ix (v 0) (j_int))) (v 1))) (ss_cons (ps_mono (ps_asg (j_bin o_fdiv (j_intOf ⟨by rfl, T.b_int⟩ (j_ix o_ix (v 0) (j_int))) (v 1)) (pg_sub (pv 0) (j_int) set_list)) rd_store) (ss_one (s_ret (v 2)))))
theorem sc__law_one_of : FnScope N__law_one_of ps__law_one_of (defScope st__law_one_of) := ⟨rfl, rfl, rfl, by decide +kernel, rfl, by decide +kernel, by decide +kernel⟩
theorem ok__law_one_of {f : Addr} {fd : FuncData} (Fn : Fun K "_law_one_of" "_law_one_of" st__law_one_of f fd) (T : Txt mg) (c__law_draw : Cal P w K mg base "_law_draw" ps__law_draw 2 M__law_draw) : FnG P w K mg base (L2.CX P w) 3 f fd ps__law_one_of (spD K mg M__law_one_of) :=
  fn_denM (k := 2) N__law_one_of ps__law_one_of g__law_one_of Fn sc__law_one_of rfl rfl _ rfl (by decide) fun cdv A outer s H E hr =>
    ss_one (s_ret (j_ix o_ix (v 1) (cal [true, false] c__law_draw hr (fun σ => (passAt takesF) σ) (ja_cons (v 0) (ja_cons (j_len ⟨by rfl, T.b_len⟩ (v 1)) (ja_nil))))))
theorem sc__law_bound : FnScope N__law_bound ps__law_bound (defScope st__law_bound) := ⟨rfl, rfl, rfl, by decide +kernel, rfl, by decide +kernel, by decide +kernel⟩
theorem ok__law_bound {f : Addr} {fd : FuncData} (Fn : Fun K "_law_bound" "_law_bound" st__law_bound f fd) (T : Txt mg) (c__law_draw : Cal P w K mg base "_law_draw" ps__law_draw 2 M__law_draw) (c__law_one_of : Cal P w K mg base "_law_one_of" ps__law_one_of 3 M__law_one_of) : FnG P w K mg base (L2.CX P w) 4 f fd ps__law_bound (spD K mg M__law_bound) :=
  fn_denM (k := 3) N__law_bound ps__law_bound g__law_bound Fn sc__law_bound rfl rfl _ rfl (by decide) fun cdv A outer s H E hr =>
    ss_cons (s_if (jt_cmp (o_eq hr.u64) (cal [true, false] c__law_draw hr (fun σ => (passAt takesF) σ) (ja_cons (v 0) (ja_cons (j_int) (ja_nil)))) (j_int)) (ss_one (s_ret (j_tup (ja_cons (j_bin o_sub (cal [true, false] c__law_draw hr (fun σ => (passAt takesF) σ) (ja_cons (v 0) (ja_cons (j_int) (ja_nil)))) (j_int)) (ja_cons (j_bin o_sub (cal [true, false] c__law_draw hr (fun σ => (passAt takesF) σ) (ja_cons (v 0) (ja_cons (j_int) (ja_nil)))) (j_int)) (ja_cons (cal [true, false] c__law_draw hr (fun σ => (passAt takesF) σ) (ja_cons (v 0) (ja_cons (j_int) (ja_nil)))) (ja_nil))))))) (ss_nil)) (ss_one (s_ret (cal [true, false] c__law_one_of hr (fun σ => (passAt takesF) σ) (ja_cons (v 0) (ja_cons (j_lst (ja_cons (j_tup (ja_cons (j_int) (ja_cons (j_int) (ja_cons (j_int) (ja_nil))))) (ja_cons (j_tup (ja_cons (j_int) (ja_cons (j_un o_neg (j_int)) (ja_cons (j_int) (ja_nil))))) (ja_cons (j_tup (ja_cons (j_int) (ja_cons (j_int) (ja_cons (j_int) (ja_nil))))) (ja_cons (j_tup (ja_cons (j_int) (ja_cons (j_int) (ja_cons (j_int) (ja_nil))))) (ja_cons (j_tup (ja_cons (j_int) (ja_cons (j_un o_neg (j_int)) (ja_cons (j_int) (ja_nil))))) (ja_cons (j_tup (ja_cons (j_int) (ja_cons (j_int) (ja_cons (j_int) (ja_nil))))) (ja_cons (j_tup (ja_cons (j_int) (ja_cons (j_int) (ja_cons (j_int) (ja_nil))))) (ja_nil))))))))) (ja_nil))))))
theorem sc__law_some_conditions : FnScope N__law_some_conditions ps__law_some_conditions (defScope st__law_some_conditions) := ⟨rfl, rfl, rfl, by decide +kernel, rfl, by decide +kernel, by decide +kernel⟩
theorem ok__law_some_conditions {f : Addr} {fd : FuncData} (Fn : Fun K "_law_some_conditions" "_law_some_conditions" st__law_some_conditions f fd) (T : Txt mg) (c__law_one_of : Cal P w K mg base "_law_one_of" ps__law_one_of 3 M__law_one_of) : FnG P w K mg base (L2.CX P w) 4 f fd ps__law_some_conditions (spD K mg M__law_some_conditions) :=
  fn_denM (k := 3) N__law_some_conditions ps__law_some_conditions g__law_some_conditions Fn sc__law_some_conditions rfl rfl _ rfl (by decide) fun cdv A outer s H E hr =>
    ss_cons (s_set (i := 3) sc__law_some_conditions.nd rfl (Or.inl rfl) (j_lst (ja_nil))) (ss_cons (s_for ownF rfl (i_range1 (by rfl) T.b_range (cal [true, false] c__law_one_of hr (fun σ => (passAt takesF) σ) (ja_cons (v 0) (ja_cons (j_lst (ja_cons (j_int) (ja_cons (j_int) (ja_cons (j_int) (ja_cons (j_int) (ja_cons (j_int) (ja_nil))))))) (ja_nil))))) (gn 4 sc__law_some_conditions.nd) (ss_one (s_expr (pe_mono (pe_bm PySem.F.plainAttrs_list PySem.F.slot_list_append PySem.F.type_list_append mt_append (pv 3) (pa_cons (cal [true, false] c__law_one_of hr (fun σ => (passAt takesF) σ) (ja_cons (v 0) (ja_cons (v 2) (ja_nil)))) pa_nil)) rd_append)))) (ss_one (s_ret (j_if (jt_cmp o_gt (v 1) (j_int)) (j_tuple ⟨by rfl, T.b_tuple⟩ (j_sset ⟨by rfl, T.b_sorted⟩ ⟨by rfl, T.b_set⟩ rfl hr.u64 (v 3))) (j_tup (ja_nil))))))
abbrev N__law_sent_most : List Str := ["many", "rules", "kind", "most", "location", "source", "target", "conditions", "sends"]
theorem sc__law_sent_most : FnScope N__law_sent_most ps__law_sent_most (defScope st__law_sent_most) := ⟨rfl, rfl, rfl, by decide +kernel, rfl, by decide +kernel, by decide +kernel⟩
theorem ok__law_sent_most {f : Addr} {fd : FuncData} (Fn : Fun K "_law_sent_most" "_law_sent_most" st__law_sent_most f fd) (T : Txt mg) : FnG P w K mg base (L2.CX P w) 4 f fd ps__law_sent_most (spD K mg M__law_sent_most) := by
  refine .mk_ (k := 3) Fn sc__law_sent_most (fun vs H Q E h => len_sent h) (fun cdv A outer s H vs Q E hr h => ⟨tSent K mg, ?_, pure_sent h⟩)
  have hu : (A.deeper (envOfC "_law_sent_most" (defScope st__law_sent_most) s.heap.objs.size f cdv)).units + 1 < cLine := by have := hr.u64; omega
  exact pss_cons (ps_set (i := 3) sc__law_sent_most.nd rfl (by first | exact Or.inl rfl | exact Or.inr rfl) (pe_callTy (call_dictP rfl) rfl T.b_dict rfl (pa_cons (pe_lc (own := [("location", 4)]) rfl sc__law_sent_most.nd (pi_range1 rfl T.b_range (pa_cons (pv 0) pa_nil)) (blk_of (by rfl)) (fun _ _ _ _ _ => pg_name (i := 4) sc__law_sent_most.nd rfl (by first | exact Or.inl rfl | exact Or.inr rfl)) (fun _ _ _ _ _ => pts_nil) (fun _ _ _ _ _ => pe_tup (pa_cons (pv 4) (pa_cons pe_int pa_nil)))) pa_nil)))
    (pss_cons (ps_for ownF rfl (pi_range1 rfl T.b_range (pa_cons (pv 0) pa_nil)) (pg_name (i := 4) sc__law_sent_most.nd rfl (by first | exact Or.inl rfl | exact Or.inr rfl)) (pss_one (ps_for ownF rfl (pi_tup (pv 1))
      (pg_tup rfl (pgs_cons (pg_name (i := 5) sc__law_sent_most.nd rfl (by first | exact Or.inl rfl | exact Or.inr rfl)) (pgs_cons (pg_name (i := 6) sc__law_sent_most.nd rfl (by first | exact Or.inl rfl | exact Or.inr rfl)) (pgs_cons (pg_name (i := 7) sc__law_sent_most.nd rfl (by first | exact Or.inl rfl | exact Or.inr rfl)) (pgs_cons (pg_name (i := 8) sc__law_sent_most.nd rfl (by first | exact Or.inl rfl | exact Or.inr rfl)) pgs_nil)))))
      (pss_one (ps_if (jt_cmp (W := W0) (o_eq hr.u64) (v 5) (v 4)) (pss_one (ps_dput hu (pv 3) (pv 6) (pe_callB (c_max2 rfl) rfl T.b_max rfl (pa_cons (pe_dget hu (pv 3) (pv 6) (fun _ _ => rfl)) (pa_cons (pe_op op_add (pe_dget hu (pv 3) (pv 5) (fun _ _ => rfl)) (j_intOf (W := W0) ⟨rfl, T.b_int⟩ (j_cmp (o_in hr.u65) (v 2) (v 8)))) pa_nil))) rfl)) pss_nil)))))
    (pss_one (ps_ret (pe_callB (cr_max rfl) rfl T.b_max rfl (pa_cons (pe_lc (own := [("location", 4)]) rfl sc__law_sent_most.nd (pi_range1 rfl T.b_range (pa_cons (pv 0) pa_nil)) (blk_of (by rfl)) (fun _ _ _ _ _ => pg_name (i := 4) sc__law_sent_most.nd rfl (by first | exact Or.inl rfl | exact Or.inr rfl)) (fun _ _ _ _ _ => pts_nil) (fun _ _ _ _ _ => pe_dget hu (pv 3) (pv 4) (fun _ _ => rfl))) pa_nil)))))
theorem sc__law_rule : FnScope N__law_rule ps__law_rule (defScope st__law_rule) := ⟨rfl, rfl, rfl, by decide +kernel, rfl, by decide +kernel, by decide +kernel⟩
theorem ok__law_rule {f : Addr} {fd : FuncData} (Fn : Fun K "_law_rule" "_law_rule" st__law_rule f fd) (T : Txt mg) (c__law_draw : Cal P w K mg base "_law_draw" ps__law_draw 2 M__law_draw) (c__law_some_conditions : Cal P w K mg base "_law_some_conditions" ps__law_some_conditions 4 M__law_some_conditions) : FnG P w K mg base (L2.CX P w) 5 f fd ps__law_rule (spD K mg M__law_rule) :=
  fn_denM (k := 4) N__law_rule ps__law_rule g__law_rule Fn sc__law_rule rfl rfl _ rfl (by decide) fun cdv A outer s H E hr =>
    ss_cons (s_set (i := 4) sc__law_rule.nd rfl (Or.inl rfl) (cal [true, false] c__law_draw hr (fun σ => (passAt takesF) σ) (ja_cons (v 0) (ja_cons (j_bin o_sub (v 1) (j_int)) (ja_nil))))) (ss_cons (s_set (i := 5) sc__law_rule.nd rfl (Or.inl rfl) (j_bin o_add (j_bin o_add (v 4) (j_int)) (cal [true, false] c__law_draw hr (fun σ => (passAt takesF) σ) (ja_cons (v 0) (ja_cons (j_bin o_sub (j_bin o_sub (v 1) (v 4)) (j_int)) (ja_nil)))))) (ss_cons (s_set (i := 6) sc__law_rule.nd rfl (Or.inl rfl) (j_tuple ⟨by rfl, T.b_tuple⟩ (j_lc (own := [("kind", 7)]) rfl sc__law_rule.nd (i_range1 (by rfl) T.b_range (v 2)) (blk_of (by rfl)) (fun _ _ _ _ _ => gn 7 sc__law_rule.nd) (fun _ _ _ _ _ => jts_one (jt_cmp (o_eq hr.u64) (cal [true, false] c__law_draw hr (fun σ => passes0 σ) (ja_cons (v 0) (ja_cons (j_int) (ja_nil)))) (j_int))) (fun _ _ _ _ _ => v 7)))) (ss_one (s_ret (j_tup (ja_cons (v 4) (ja_cons (v 5) (ja_cons (cal [true, false, false] c__law_some_conditions hr (fun σ => (passAt takesF) σ) (ja_cons (v 0) (ja_cons (v 2) (ja_cons (v 3) (ja_nil))))) (ja_cons (v 6) (ja_nil))))))))))
theorem sc__law_protocol : FnScope N__law_protocol ps__law_protocol (defScope st__law_protocol) := ⟨rfl, rfl, rfl, by decide +kernel, rfl, by decide +kernel, by decide +kernel⟩
theorem ok__law_protocol {f : Addr} {fd : FuncData} (Fn : Fun K "_law_protocol" "_law_protocol" st__law_protocol f fd) (T : Txt mg) (c__law_one_of : Cal P w K mg base "_law_one_of" ps__law_one_of 3 M__law_one_of) (c__law_draw : Cal P w K mg base "_law_draw" ps__law_draw 2 M__law_draw) (c__law_bound : Cal P w K mg base "_law_bound" ps__law_bound 4 M__law_bound) (c__law_rule : Cal P w K mg base "_law_rule" ps__law_rule 5 M__law_rule) (c__law_sent_most : Cal P w K mg base "_law_sent_most" ps__law_sent_most 4 M__law_sent_most) : FnG P w K mg base (L2.CX P w) 6 f fd ps__law_protocol (spD K mg M__law_protocol) :=
  fn_denM (k := 5) N__law_protocol ps__law_protocol g__law_protocol Fn sc__law_protocol rfl rfl _ rfl (by decide) fun cdv A outer s H E hr =>
    ss_cons (s_unp (g_tup rfl (gs_cons (gn 3 sc__law_protocol.nd) (gs_cons (gn 4 sc__law_protocol.nd) (gs_nil)))) (j_tup (ja_cons (j_bin o_add (j_int) (cal [true, false] c__law_draw hr (fun σ => (passAt takesF) σ) (ja_cons (v 0) (ja_cons (j_bin o_sub (v 1) (j_int)) (ja_nil))))) (ja_cons (cal [true, false] c__law_one_of hr (fun σ => (passAt takesF) σ) (ja_cons (v 0) (ja_cons (j_lst (ja_cons (j_int) (ja_cons (j_int) (ja_cons (j_int) (ja_cons (j_int) (ja_cons (j_int) (ja_nil))))))) (ja_nil)))) (ja_nil))))) (ss_cons (s_set (i := 5) sc__law_protocol.nd rfl (Or.inl rfl) (j_lst (ja_nil))) (ss_cons (s_for ownF rfl (i_range1 (by rfl) T.b_range (j_bin o_add (j_int) (cal [true, false] c__law_draw hr (fun σ => (passAt takesF) σ) (ja_cons (v 0) (ja_cons (j_int) (ja_nil)))))) (gn 6 sc__law_protocol.nd) (ss_one (s_expr (pe_mono (pe_bm PySem.F.plainAttrs_list PySem.F.slot_list_append PySem.F.type_list_append mt_append (pv 5) (pa_cons (j_tup (ja_cons (cal [true, false] c__law_draw hr (fun σ => (passAt takesF) σ) (ja_cons (v 0) (ja_cons (j_max2 ⟨by rfl, T.b_max⟩ (j_int) (v 4)) (ja_nil)))) (ja_cons (cal [true] c__law_bound hr (fun σ => (passAt takesF) σ) (ja_cons (v 0) (ja_nil))) (ja_nil)))) pa_nil)) rd_append)))) (ss_cons (s_setLc (i := 7) (own := [("location", 8)]) rfl sc__law_protocol.nd rfl rfl rfl (i_range2 (by rfl) T.b_range (j_int) (v 3)) (blk_of (by rfl)) (fun _ _ _ _ _ => gn 8 sc__law_protocol.nd) (fun _ _ _ _ _ => jts_one (jt_cmp (o_eq hr.u64) (cal [true, false] c__law_draw hr (fun σ => passes0 σ) (ja_cons (v 0) (ja_cons (j_int) (ja_nil)))) (j_int))) (fun _ _ _ _ _ => v 8)) (ss_cons (s_set (i := 9) sc__law_protocol.nd rfl (Or.inr rfl) (j_tup (ja_nil))) (ss_cons (s_for ownF rfl (i_range1 (by rfl) T.b_range (cal [true, false] c__law_draw hr (fun σ => (passAt takesF) σ) (ja_cons (v 0) (ja_cons (j_bin o_add (v 2) (j_int)) (ja_nil))))) (gn 6 sc__law_protocol.nd) (ss_cons (s_set (i := 10) sc__law_protocol.nd rfl (Or.inr rfl) (cal [true, false, false, false] c__law_rule hr (fun σ => (passAt takesF) σ) (ja_cons (v 0) (ja_cons (v 3) (ja_cons (v 4) (ja_cons (v 5) (ja_nil))))))) (ss_cons (s_setLc (i := 1) (own := [("kind", 11)]) rfl sc__law_protocol.nd rfl rfl rfl (i_range1 (by rfl) T.b_range (v 4)) (blk_of (by rfl)) (fun _ _ _ _ _ => gn 11 sc__law_protocol.nd) (fun _ _ _ _ _ => jts_nil) (fun _ _ _ _ _ => cal [false, false, false] c__law_sent_most hr (fun σ => passes0 σ) (ja_cons (v 3) (ja_cons (j_bin o_add (v 9) (j_tup (ja_cons (v 10) (ja_nil)))) (ja_cons (v 11) (ja_nil)))))) (ss_one (s_if (jt_cmp o_lt (j_max1 ⟨by rfl, T.b_max⟩ (j_bin o_add (v 1) (j_lst (ja_cons (j_int) (ja_nil))))) (j_int)) (ss_one (s_set (i := 9) sc__law_protocol.nd rfl (Or.inr rfl) (j_bin o_add (v 9) (j_tup (ja_cons (v 10) (ja_nil)))))) (ss_nil)))))) (ss_cons (s_if ((jw_or (jt_cmp (o_eq hr.u64) (v 7) (j_lst (ja_nil))) (pw_or1 (jt_cmp o_gt (cal [true, false] c__law_draw hr (fun σ => (passAt takesF) σ) (ja_cons (v 0) (ja_cons (j_int) (ja_nil)))) (j_int)))).pt) (ss_one (s_set (i := 7) sc__law_protocol.nd rfl (Or.inl rfl) (j_bin o_add (j_lst (ja_cons (j_int) (ja_nil))) (v 7)))) (ss_nil)) (ss_one (s_ret (j_tup (ja_cons (v 3) (ja_cons (v 4) (ja_cons (j_tuple ⟨by rfl, T.b_tuple⟩ (v 7)) (ja_cons (v 9) (ja_nil))))))))))))))
theorem sc__law_broadcast : FnScope N__law_broadcast ps__law_broadcast (defScope st__law_broadcast) := ⟨rfl, rfl, rfl, by decide +kernel, rfl, by decide +kernel, by decide +kernel⟩
theorem ok__law_broadcast {f : Addr} {fd : FuncData} (Fn : Fun K "_law_broadcast" "_law_broadcast" st__law_broadcast f fd) (T : Txt mg) (c__law_draw : Cal P w K mg base "_law_draw" ps__law_draw 2 M__law_draw) (c__law_bound : Cal P w K mg base "_law_bound" ps__law_bound 4 M__law_bound) : FnG P w K mg base (L2.CX P w) 5 f fd ps__law_broadcast (spD K mg M__law_broadcast) :=
  fn_denM (k := 4) N__law_broadcast ps__law_broadcast g__law_broadcast Fn sc__law_broadcast rfl rfl _ rfl (by decide) fun cdv A outer s H E hr =>
    ss_cons (s_unp (g_tup rfl (gs_cons (gn 1 sc__law_broadcast.nd) (gs_cons (gn 2 sc__law_broadcast.nd) (gs_nil)))) (j_tup (ja_cons (j_tup (ja_cons (j_int) (ja_cons (j_int) (ja_cons (j_int) (ja_nil))))) (ja_cons (j_tup (ja_cons (j_int) (ja_cons (j_un o_neg (j_int)) (ja_cons (j_int) (ja_nil))))) (ja_nil))))) (ss_cons (s_if (jt_cmp (o_eq hr.u64) (cal [true, false] c__law_draw hr (fun σ => (passAt takesF) σ) (ja_cons (v 0) (ja_cons (j_int) (ja_nil)))) (j_int)) (ss_one (s_par (i := 1) (j := 2) rfl sc__law_broadcast.nd rfl rfl (by decide) rfl rfl (ja_cons (cal [true] c__law_bound hr (fun σ => (passAt takesF) σ) (ja_cons (v 0) (ja_nil))) (ja_cons (cal [true] c__law_bound hr (fun σ => (passAt takesF) σ) (ja_cons (v 0) (ja_nil))) (ja_nil))))) (ss_nil)) (ss_cons (s_par (i := 3) (j := 4) rfl sc__law_broadcast.nd rfl rfl (by decide) rfl rfl (ja_cons (j_tup (ja_cons (j_tup (ja_cons (j_int) (ja_cons (v 1) (ja_nil)))) (ja_nil))) (ja_cons (j_tup (ja_cons (j_tup (ja_cons (j_int) (ja_cons (v 2) (ja_nil)))) (ja_nil))) (ja_nil)))) (ss_cons (s_set (i := 5) sc__law_broadcast.nd rfl (Or.inl rfl) (j_lst (ja_cons (j_tup (ja_cons (j_int) (ja_cons (j_int) (ja_cons (j_tup (ja_nil)) (ja_cons (j_tup (ja_cons (j_int) (ja_nil))) (ja_nil)))))) (ja_cons (j_tup (ja_cons (j_int) (ja_cons (j_int) (ja_cons (v 3) (ja_cons (j_tup (ja_cons (j_int) (ja_nil))) (ja_nil)))))) (ja_cons (j_tup (ja_cons (j_int) (ja_cons (j_int) (ja_cons (v 4) (ja_cons (j_tup (ja_cons (j_int) (ja_nil))) (ja_nil)))))) (ja_cons (j_tup (ja_cons (j_int) (ja_cons (j_int) (ja_cons (v 4) (ja_cons (j_tup (ja_nil)) (ja_nil)))))) (ja_nil))))))) (ss_cons (s_if (jt_cmp (o_eq hr.u64) (cal [true, false] c__law_draw hr (fun σ => (passAt takesF) σ) (ja_cons (v 0) (ja_cons (j_int) (ja_nil)))) (j_int)) (ss_one (s_expr (pe_mono (pe_bm PySem.F.plainAttrs_list PySem.F.slot_list_pop PySem.F.type_list_pop mt_popAt (pv 5) (pa_cons (cal [true, false] c__law_draw hr (fun σ => (passAt takesF) σ) (ja_cons (v 0) (ja_cons (j_len ⟨by rfl, T.b_len⟩ (v 5)) (ja_nil)))) pa_nil)) rd_popAt))) (ss_nil)) (ss_one (s_ret (j_tup (ja_cons (j_int) (ja_cons (j_int) (ja_cons (j_tup (ja_cons (j_int) (ja_cons (j_int) (ja_nil)))) (ja_cons (j_tuple ⟨by rfl, T.b_tuple⟩ (v 5)) (ja_nil))))))))))))
theorem sc__law_some_protocol : FnScope N__law_some_protocol ps__law_some_protocol (defScope st__law_some_protocol) := ⟨rfl, rfl, rfl, by decide +kernel, rfl, by decide +kernel, by decide +kernel⟩
theorem ok__law_some_protocol {f : Addr} {fd : FuncData} (Fn : Fun K "_law_some_protocol" "_law_some_protocol" st__law_some_protocol f fd) (T : Txt mg) (c__law_draw : Cal P w K mg base "_law_draw" ps__law_draw 2 M__law_draw) (c__law_broadcast : Cal P w K mg base "_law_broadcast" ps__law_broadcast 5 M__law_broadcast) (c__law_protocol : Cal P w K mg base "_law_protocol" ps__law_protocol 6 M__law_protocol) : FnG P w K mg base (L2.CX P w) 7 f fd ps__law_some_protocol (spD K mg M__law_some_protocol) :=
  fn_denM (k := 6) N__law_some_protocol ps__law_some_protocol g__law_some_protocol Fn sc__law_some_protocol rfl rfl _ rfl (by decide) fun cdv A outer s H E hr =>
    ss_one (s_ret (j_if (jt_cmp (o_eq hr.u64) (cal [true, false] c__law_draw hr (fun σ => (passAt takesF) σ) (ja_cons (v 0) (ja_cons (j_int) (ja_nil)))) (j_int)) (cal [true] c__law_broadcast hr (fun σ => (passAt takesF) σ) (ja_cons (v 0) (ja_nil))) (cal [true, false, false] c__law_protocol hr (fun σ => (passAt takesF) σ) (ja_cons (v 0) (ja_cons (v 1) (ja_cons (v 2) (ja_nil)))))))
theorem sc__law_conditions : FnScope N__law_conditions ps__law_conditions (defScope st__law_conditions) := ⟨rfl, rfl, rfl, by decide +kernel, rfl, by decide +kernel, by decide +kernel⟩
theorem ok__law_conditions {f : Addr} {fd : FuncData} (Fn : Fun K "_law_conditions" "_law_conditions" st__law_conditions f fd) (T : Txt mg) : FnG P w K mg base (L2.CX P w) 1 f fd ps__law_conditions (spD K mg M__law_conditions) :=
  fn_denM (k := 0) N__law_conditions ps__law_conditions g__law_conditions Fn sc__law_conditions rfl rfl _ rfl (by decide) fun cdv A outer s H E hr =>
    ss_cons (s_set (i := 1) sc__law_conditions.nd rfl (Or.inl rfl) (j_lst (ja_nil))) (ss_cons (s_for ownF rfl (i_seq (j_ix o_ix (v 0) (j_int))) (gn 2 sc__law_conditions.nd) (ss_one (s_expr (pe_mono (pe_bm PySem.F.plainAttrs_list PySem.F.slot_list_extend PySem.F.type_list_extend mt_extend (pv 1) (pa_cons (j_list ⟨by rfl, T.b_list⟩ (j_ix o_ix (v 2) (j_int))) pa_nil)) rd_extend)))) (ss_one (s_ret (j_sset ⟨by rfl, T.b_sorted⟩ ⟨by rfl, T.b_set⟩ rfl hr.u64 (v 1)))))
theorem sc__law_value : FnScope N__law_value ps__law_value (defScope st__law_value) := ⟨rfl, rfl, rfl, by decide +kernel, rfl, by decide +kernel, by decide +kernel⟩
theorem ok__law_value {f : Addr} {fd : FuncData} (Fn : Fun K "_law_value" "_law_value" st__law_value f fd) (T : Txt mg) : FnG P w K mg base (L2.CX P w) 1 f fd ps__law_value (spD K mg M__law_value) :=
  fn_denM (k := 0) N__law_value ps__law_value g__law_value Fn sc__law_value rfl rfl _ rfl (by decide) fun cdv A outer s H E hr =>
    ss_one (s_ret (j_bin o_add (j_bin o_add (j_bin o_mul (j_ix o_ix (v 0) (j_int)) (j_ix o_ix (v 1) (j_int))) (j_bin o_mul (j_ix o_ix (v 0) (j_int)) (j_ix o_ix (v 1) (j_int)))) (j_ix o_ix (v 0) (j_int))))
theorem sc__law_numbers : FnScope N__law_numbers ps__law_numbers (defScope st__law_numbers) := ⟨rfl, rfl, rfl, by decide +kernel, rfl, by decide +kernel, by decide +kernel⟩
theorem ok__law_numbers {f : Addr} {fd : FuncData} (Fn : Fun K "_law_numbers" "_law_numbers" st__law_numbers f fd) (T : Txt mg) (c__law_draw : Cal P w K mg base "_law_draw" ps__law_draw 2 M__law_draw) (c__law_one_of : Cal P w K mg base "_law_one_of" ps__law_one_of 3 M__law_one_of) : FnG P w K mg base (L2.CX P w) 4 f fd ps__law_numbers (spD K mg M__law_numbers) :=
  fn_denM (k := 3) N__law_numbers ps__law_numbers g__law_numbers Fn sc__law_numbers rfl rfl _ rfl (by decide) fun cdv A outer s H E hr =>
    ss_cons (s_set (i := 2) sc__law_numbers.nd rfl (Or.inl rfl) (cal [true, false] c__law_draw hr (fun σ => (passAt takesF) σ) (ja_cons (v 0) (ja_cons (j_bin o_add (v 1) (j_int)) (ja_nil))))) (ss_one (s_ret (j_tup (ja_cons (v 2) (ja_cons (cal [true, false] c__law_draw hr (fun σ => (passAt takesF) σ) (ja_cons (v 0) (ja_cons (j_int) (ja_nil)))) (ja_cons (cal [true, false] c__law_one_of hr (fun σ => (passAt takesF) σ) (ja_cons (v 0) (ja_cons (j_lst (ja_cons (j_int) (ja_cons (j_min2 ⟨by rfl, T.b_min⟩ (j_int) (v 2)) (ja_cons (cal [true, false] c__law_draw hr (fun σ => (passAt takesF) σ) (ja_cons (v 0) (ja_cons (j_bin o_add (v 2) (j_int)) (ja_nil)))) (ja_nil))))) (ja_nil)))) (ja_nil)))))))
theorem sc__law_firsts : FnScope N__law_firsts ps__law_firsts (defScope st__law_firsts) := ⟨rfl, rfl, rfl, by decide +kernel, rfl, by decide +kernel, by decide +kernel⟩
theorem ok__law_firsts {f : Addr} {fd : FuncData} (Fn : Fun K "_law_firsts" "_law_firsts" st__law_firsts f fd) (T : Txt mg) (c__law_one_of : Cal P w K mg base "_law_one_of" ps__law_one_of 3 M__law_one_of) : FnG P w K mg base (L2.CX P w) 4 f fd ps__law_firsts (spD K mg M__law_firsts) :=
  fn_denM (k := 3) N__law_firsts ps__law_firsts g__law_firsts Fn sc__law_firsts rfl rfl _ rfl (by decide) fun cdv A outer s H E hr =>
    ss_cons (s_set (i := 3) sc__law_firsts.nd rfl (Or.inl rfl) (j_bin o_mul (j_lst (ja_cons (j_int) (ja_nil))) (j_ix o_ix (v 1) (j_int)))) (ss_cons (s_for ownF rfl (i_range1 (by rfl) T.b_range (j_min2 ⟨by rfl, T.b_min⟩ (j_int) (j_bin o_sub (j_ix o_ix (v 2) (j_int)) (j_ix o_ix (v 2) (j_int))))) (gn 4 sc__law_firsts.nd) (ss_cons (s_set (i := 5) sc__law_firsts.nd rfl (Or.inl rfl) (cal [true, false] c__law_one_of hr (fun σ => (passAt takesF) σ) (ja_cons (v 0) (ja_cons (j_list ⟨by rfl, T.b_list⟩ (j_ix o_ix (v 1) (j_int))) (ja_nil))))) (ss_one (ps_mono (ps_asg (j_bin o_add (j_ix o_ix (v 3) (v 5)) (j_int)) (pg_sub (pv 3) (v 5) set_list)) rd_store)))) (ss_cons (s_set (i := 6) sc__law_firsts.nd rfl (Or.inl rfl) (j_ix o_ix (j_ix o_ix (v 1) (j_int)) (j_int))) (ss_cons (ps_mono (ps_asg (j_bin o_sub (j_bin o_sub (j_bin o_add (j_ix o_ix (v 3) (v 6)) (j_ix o_ix (v 2) (j_int))) (j_ix o_ix (v 2) (j_int))) (j_sum ⟨by rfl, T.b_sum⟩ (v 3))) (pg_sub (pv 3) (v 6) set_list)) rd_store) (ss_one (s_ret (j_tuple ⟨by rfl, T.b_tuple⟩ (v 3)))))))
theorem sc__law_is_heard : FnScope N__law_is_heard ps__law_is_heard (defScope st__law_is_heard) := ⟨rfl, rfl, rfl, by decide +kernel, rfl, by decide +kernel, by decide +kernel⟩
theorem ok__law_is_heard {f : Addr} {fd : FuncData} (Fn : Fun K "_law_is_heard" "_law_is_heard" st__law_is_heard f fd) (T : Txt mg) (c__law_value : Cal P w K mg base "_law_value" ps__law_value 1 M__law_value) : FnG P w K mg base (L2.CX P w) 2 f fd ps__law_is_heard (spD K mg M__law_is_heard) :=
  fn_denM (k := 1) N__law_is_heard ps__law_is_heard g__law_is_heard Fn sc__law_is_heard rfl rfl _ rfl (by decide) fun cdv A outer s H E hr =>
    ss_one (s_ret (j_cmp o_ge (j_bin o_add (j_ix o_ix (j_ix o_ix (v 1) (j_int)) (j_ix o_ix (v 2) (j_int))) (v 3)) (cal [false, false] c__law_value hr (fun σ => (passAt takesF) σ) (ja_cons (j_ix o_ix (v 2) (j_int)) (ja_cons (v 0) (ja_nil))))))
theorem sc__law_takers : FnScope N__law_takers ps__law_takers (defScope st__law_takers) := ⟨rfl, rfl, rfl, by decide +kernel, rfl, by decide +kernel, by decide +kernel⟩
theorem ok__law_takers {f : Addr} {fd : FuncData} (Fn : Fun K "_law_takers" "_law_takers" st__law_takers f fd) (T : Txt mg) (c__law_is_heard : Cal P w K mg base "_law_is_heard" ps__law_is_heard 2 M__law_is_heard) : FnG P w K mg base (L2.CX P w) 3 f fd ps__law_takers (spD K mg M__law_takers) :=
  fn_denM (k := 2) N__law_takers ps__law_takers g__law_takers Fn sc__law_takers rfl rfl _ rfl (by decide) fun cdv A outer s H E hr =>
    ss_cons (s_set (i := 4) sc__law_takers.nd rfl (Or.inl rfl) (j_lst (ja_nil))) (ss_cons (s_for ownF rfl (i_enum (by rfl) T.b_enumerate (j_ix o_ix (v 0) (j_int))) (g_tup rfl (gs_cons (gn 5 sc__law_takers.nd) (gs_cons (gn 6 sc__law_takers.nd) (gs_nil)))) (ss_cons (s_setLc (i := 7) (own := [("condition", 8)]) rfl sc__law_takers.nd rfl rfl rfl (i_seq (j_ix o_ix (v 6) (j_int))) (blk_of (by rfl)) (fun _ _ _ _ _ => gn 8 sc__law_takers.nd) (fun _ _ _ _ _ => jts_one (jt_not (jt_truth (cal [false, false, false, false] c__law_is_heard hr (fun σ => passes0 σ) (ja_cons (v 1) (ja_cons (v 2) (ja_cons (v 8) (ja_cons (v 3) (ja_nil))))))))) (fun _ _ _ _ _ => j_int)) (ss_one (s_if ((jw_and (jt_cmp o_gt (j_ix o_ix (j_ix o_ix (v 2) (j_int)) (j_ix o_ix (v 6) (j_int))) (j_int)) (pw_and1 (jt_cmp (o_eq hr.u64) (v 7) (j_lst (ja_nil))))).pt) (ss_one (s_expr (pe_mono (pe_bm PySem.F.plainAttrs_list PySem.F.slot_list_append PySem.F.type_list_append mt_append (pv 4) (pa_cons (v 5) pa_nil)) rd_append))) (ss_nil))))) (ss_one (s_ret (v 4))))
theorem sc__law_behind : FnScope N__law_behind ps__law_behind (defScope st__law_behind) := ⟨rfl, rfl, rfl, by decide +kernel, rfl, by decide +kernel, by decide +kernel⟩
theorem ok__law_behind {f : Addr} {fd : FuncData} (Fn : Fun K "_law_behind" "_law_behind" st__law_behind f fd) (T : Txt mg) : FnG P w K mg base (L2.CX P w) 1 f fd ps__law_behind (spD K mg M__law_behind) :=
  fn_denM (k := 0) N__law_behind ps__law_behind g__law_behind Fn sc__law_behind rfl rfl _ rfl (by decide) fun cdv A outer s H E hr =>
    ss_cons (s_par (i := 3) (j := 4) rfl sc__law_behind.nd rfl rfl (by decide) rfl rfl (ja_cons (j_list ⟨by rfl, T.b_list⟩ (j_ix o_ix (v 0) (j_int))) (ja_cons (j_list ⟨by rfl, T.b_list⟩ (j_ix o_ix (v 0) (j_int))) (ja_nil)))) (ss_cons (ps_mono (ps_asg (j_bin o_sub (j_ix o_ix (v 3) (j_ix o_ix (v 1) (j_int))) (v 2)) (pg_sub (pv 3) (j_ix o_ix (v 1) (j_int)) set_list)) rd_store) (ss_cons (ps_mono (ps_asg (j_bin o_add (j_ix o_ix (v 3) (j_ix o_ix (v 1) (j_int))) (v 2)) (pg_sub (pv 3) (j_ix o_ix (v 1) (j_int)) set_list)) rd_store) (ss_cons (s_for ownF rfl (i_seq (j_ix o_ix (v 1) (j_int))) (gn 5 sc__law_behind.nd) (ss_one (ps_mono (ps_asg (j_bin o_add (j_ix o_ix (v 4) (v 5)) (v 2)) (pg_sub (pv 4) (v 5) set_list)) rd_store))) (ss_one (s_ret (j_tup (ja_cons (j_tuple ⟨by rfl, T.b_tuple⟩ (v 3)) (ja_cons (j_tuple ⟨by rfl, T.b_tuple⟩ (v 4)) (ja_nil)))))))))
theorem sc__law_run : FnScope N__law_run ps__law_run (defScope st__law_run) := ⟨rfl, rfl, rfl, by decide +kernel, rfl, by decide +kernel, by decide +kernel⟩
theorem ok__law_run {f : Addr} {fd : FuncData} (Fn : Fun K "_law_run" "_law_run" st__law_run f fd) (T : Txt mg) (c__law_draw : Cal P w K mg base "_law_draw" ps__law_draw 2 M__law_draw) (c__law_takers : Cal P w K mg base "_law_takers" ps__law_takers 3 M__law_takers) (c__law_one_of : Cal P w K mg base "_law_one_of" ps__law_one_of 3 M__law_one_of) (c__law_behind : Cal P w K mg base "_law_behind" ps__law_behind 1 M__law_behind) : FnG P w K mg base (L2.CX P w) 4 f fd ps__law_run (spD K mg M__law_run) :=
  fn_denM (k := 3) N__law_run ps__law_run g__law_run Fn sc__law_run rfl rfl _ rfl (by decide) fun cdv A outer s H E hr =>
    ss_cons (s_set (i := 5) sc__law_run.nd rfl (Or.inl rfl) (j_lst (ja_nil))) (ss_cons (s_for ownF rfl (i_range1 (by rfl) T.b_range (cal [true, false] c__law_draw hr (fun σ => (passAt takesF) σ) (ja_cons (v 0) (ja_cons (j_bin o_add (v 4) (j_int)) (ja_nil))))) (gn 6 sc__law_run.nd) (ss_cons (s_set (i := 7) sc__law_run.nd rfl (Or.inl rfl) (cal [false, false, false, false] c__law_takers hr (fun σ => (passAt takesF) σ) (ja_cons (v 1) (ja_cons (v 2) (ja_cons (v 3) (ja_cons (j_ix o_ix (v 2) (j_int)) (ja_nil))))))) (ss_one (s_if (jt_cmp (o_ne hr.u64) (v 7) (j_lst (ja_nil))) (ss_cons (s_set (i := 8) sc__law_run.nd rfl (Or.inl rfl) (cal [true, false] c__law_one_of hr (fun σ => (passAt takesF) σ) (ja_cons (v 0) (ja_cons (v 7) (ja_nil))))) (ss_cons (s_set (i := 9) sc__law_run.nd rfl (Or.inl rfl) (j_ix o_ix (j_ix o_ix (v 3) (j_int)) (j_ix o_ix (j_ix o_ix (j_ix o_ix (v 1) (j_int)) (v 8)) (j_int)))) (ss_cons (s_set (i := 10) sc__law_run.nd rfl (Or.inl rfl) (cal [true, false] c__law_one_of hr (fun σ => (passAt takesF) σ) (ja_cons (v 0) (ja_cons (j_lst (ja_cons (j_int) (ja_cons (v 9) (ja_cons (j_bin o_add (j_int) (cal [true, false] c__law_draw hr (fun σ => (passAt takesF) σ) (ja_cons (v 0) (ja_cons (v 9) (ja_nil))))) (ja_nil))))) (ja_nil))))) (ss_cons (s_expr (pe_mono (pe_bm PySem.F.plainAttrs_list PySem.F.slot_list_append PySem.F.type_list_append mt_append (pv 5) (pa_cons (j_tup (ja_cons (v 8) (ja_cons (v 10) (ja_nil)))) pa_nil)) rd_append)) (ss_one (s_set (i := 3) sc__law_run.nd rfl (Or.inl rfl) (cal [false, false, false] c__law_behind hr (fun σ => (passAt takesF) σ) (ja_cons (v 3) (ja_cons (j_ix o_ix (j_ix o_ix (v 1) (j_int)) (v 8)) (ja_cons (v 10) (ja_nil))))))))))) (ss_nil))))) (ss_one (s_ret (j_tup (ja_cons (j_tuple ⟨by rfl, T.b_tuple⟩ (v 5)) (ja_cons (v 3) (ja_nil)))))))
theorem sc__law_at : FnScope N__law_at ps__law_at (defScope st__law_at) := ⟨rfl, rfl, rfl, by decide +kernel, rfl, by decide +kernel, by decide +kernel⟩
theorem ok__law_at {f : Addr} {fd : FuncData} (Fn : Fun K "_law_at" "_law_at" st__law_at f fd) (T : Txt mg) : FnG P w K mg base (L2.CX P w) 1 f fd ps__law_at (spD K mg M__law_at) :=
  fn_denM (k := 0) N__law_at ps__law_at g__law_at Fn sc__law_at rfl rfl _ rfl (by decide) fun cdv A outer s H E hr =>
    ss_one (s_ret (j_bin o_add (j_bin o_add (j_sl (v 0) (jo_no) (jo_yes (v 1))) (j_tup (ja_cons (v 2) (ja_nil)))) (j_sl (v 0) (jo_yes (j_bin o_add (v 1) (j_int))) (jo_no))))
theorem sc__law_is_first : FnScope N__law_is_first ps__law_is_first (defScope st__law_is_first) := ⟨rfl, rfl, rfl, by decide +kernel, rfl, by decide +kernel, by decide +kernel⟩
theorem ok__law_is_first {f : Addr} {fd : FuncData} (Fn : Fun K "_law_is_first" "_law_is_first" st__law_is_first f fd) (T : Txt mg) : FnG P w K mg base (L2.CX P w) 1 f fd ps__law_is_first (spD K mg M__law_is_first) :=
  fn_denM (k := 0) N__law_is_first ps__law_is_first g__law_is_first Fn sc__law_is_first rfl rfl _ rfl (by decide) fun cdv A outer s H E hr =>
    ss_cons (s_unp (g_tup rfl (gs_cons (gn 4 sc__law_is_first.nd) (gs_cons (gn 5 sc__law_is_first.nd) (gs_cons (gn 6 sc__law_is_first.nd) (gs_nil))))) (v 1)) (ss_cons (s_for ownF rfl (i_enum (by rfl) T.b_enumerate (v 3)) (g_tup rfl (gs_cons (gn 7 sc__law_is_first.nd) (gs_cons (gn 8 sc__law_is_first.nd) (gs_nil)))) (ss_one (s_if ((jw_and (jt_cmp o_gt (v 8) (j_int)) (pw_and1 ((jw_or (jt_cmp (o_notin hr.u65) (v 7) (j_ix o_ix (v 0) (j_int))) (pw_or1 (jt_cmp (o_in hr.u65) (v 7) (v 2)))).pt))).pt) (ss_one (s_ret (j_bool))) (ss_nil)))) (ss_one (s_ret (j_and (j_cmp (o_eq hr.u64) (j_sum ⟨by rfl, T.b_sum⟩ (v 3)) (j_bin o_sub (v 4) (v 6))) (j_one (j_cmp o_le (v 6) (v 4)))))))
theorem sc__law_firsts_right : FnScope N__law_firsts_right ps__law_firsts_right (defScope st__law_firsts_right) := ⟨rfl, rfl, rfl, by decide +kernel, rfl, by decide +kernel, by decide +kernel⟩
theorem ok__law_firsts_right {f : Addr} {fd : FuncData} (Fn : Fun K "_law_firsts_right" "_law_firsts_right" st__law_firsts_right f fd) (T : Txt mg) (c__law_firsts : Cal P w K mg base "_law_firsts" ps__law_firsts 4 M__law_firsts) (c_first_crowd : Cal P w K mg base "first_crowd" ps_first_crowd 1 M_first_crowd) (c__law_draw : Cal P w K mg base "_law_draw" ps__law_draw 2 M__law_draw) (c__law_at : Cal P w K mg base "_law_at" ps__law_at 1 M__law_at) (c_is_first : Cal P w K mg base "is_first" ps_is_first 1 M_is_first) (c__law_is_first : Cal P w K mg base "_law_is_first" ps__law_is_first 1 M__law_is_first) : FnG P w K mg base (L2.CX P w) 5 f fd ps__law_firsts_right (spD K mg M__law_firsts_right) :=
  fn_denM (k := 4) N__law_firsts_right ps__law_firsts_right g__law_firsts_right Fn sc__law_firsts_right rfl rfl _ rfl (by decide) fun cdv A outer s H E hr =>
    ss_cons (s_set (i := 3) sc__law_firsts_right.nd rfl (Or.inl rfl) (cal [true, false, false] c__law_firsts hr (fun σ => (passAt takesF) σ) (ja_cons (v 0) (ja_cons (v 1) (ja_cons (v 2) (ja_nil)))))) (ss_cons (s_if (jt_cmp (o_ne hr.u64) (j_repr hr ⟨by rfl, T.b_repr⟩ (cal [false, false] c_first_crowd hr (fun σ => (passAt takesF) σ) (ja_cons (v 1) (ja_cons (v 3) (ja_nil))))) (j_repr hr ⟨by rfl, T.b_repr⟩ (j_tup (ja_cons (v 3) (ja_cons (j_bin o_mul (j_tup (ja_cons (j_int) (ja_nil))) (j_ix o_ix (v 1) (j_int))) (ja_nil)))))) (ss_one (s_ret (j_bool))) (ss_nil)) (ss_cons (s_set (i := 4) sc__law_firsts_right.nd rfl (Or.inl rfl) (cal [true, false] c__law_draw hr (fun σ => (passAt takesF) σ) (ja_cons (v 0) (ja_cons (j_len ⟨by rfl, T.b_len⟩ (v 3)) (ja_nil))))) (ss_cons (s_set (i := 5) sc__law_firsts_right.nd rfl (Or.inl rfl) (j_lst (ja_cons (v 3) (ja_cons (cal [false, false, false] c__law_at hr (fun σ => (passAt takesF) σ) (ja_cons (v 3) (ja_cons (v 4) (ja_cons (j_bin o_add (j_ix o_ix (v 3) (v 4)) (j_int)) (ja_nil))))) (ja_cons (j_rev (v 3)) (ja_cons (cal [false, false, false] c__law_at hr (fun σ => (passAt takesF) σ) (ja_cons (v 3) (ja_cons (v 4) (ja_cons (j_int) (ja_nil))))) (ja_nil))))))) (ss_cons (s_setLc (i := 6) (own := [("start", 7)]) rfl sc__law_firsts_right.nd rfl rfl rfl (i_seq (j_ix o_ix (v 1) (j_int))) (blk_of (by rfl)) (fun _ _ _ _ _ => gn 7 sc__law_firsts_right.nd) (fun _ _ _ _ _ => jts_one (jt_cmp (o_eq hr.u64) (cal [true, false] c__law_draw hr (fun σ => passes0 σ) (ja_cons (v 0) (ja_cons (j_int) (ja_nil)))) (j_int))) (fun _ _ _ _ _ => v 7)) (ss_cons (s_set (i := 6) sc__law_firsts_right.nd rfl (Or.inl rfl) (j_tuple ⟨by rfl, T.b_tuple⟩ (j_sl (v 6) (jo_no) (jo_yes (j_bin o_sub (j_len ⟨by rfl, T.b_len⟩ (j_ix o_ix (v 1) (j_int))) (j_int)))))) (ss_cons (s_for ownF rfl (i_seq (v 5)) (gn 8 sc__law_firsts_right.nd) (ss_one (s_for ownF rfl (i_seq (j_tup (ja_cons (j_tup (ja_nil)) (ja_cons (v 6) (ja_nil))))) (gn 9 sc__law_firsts_right.nd) (ss_one (s_for ownF rfl (i_seq (j_tup (ja_cons (v 2) (ja_cons (j_bin o_add (j_sl (v 2) (jo_no) (jo_yes (j_int))) (j_tup (ja_cons (j_bin o_add (j_ix o_ix (v 2) (j_int)) (j_int)) (ja_nil)))) (ja_cons (j_bin o_add (j_tup (ja_cons (j_bin o_add (j_ix o_ix (v 2) (j_int)) (j_int)) (ja_nil))) (j_sl (v 2) (jo_yes (j_int)) (jo_no))) (ja_nil)))))) (gn 10 sc__law_firsts_right.nd) (ss_cons (s_set (i := 11) sc__law_firsts_right.nd rfl (Or.inl rfl) (cal [false, false, false, false] c_is_first hr (fun σ => (passAt takesF) σ) (ja_cons (v 1) (ja_cons (v 10) (ja_cons (v 9) (ja_cons (v 8) (ja_nil))))))) (ss_one (s_if (jt_cmp (o_ne hr.u64) (j_repr hr ⟨by rfl, T.b_repr⟩ (v 11)) (j_repr hr ⟨by rfl, T.b_repr⟩ (cal [false, false, false, false] c__law_is_first hr (fun σ => (passAt takesF) σ) (ja_cons (v 1) (ja_cons (v 10) (ja_cons (v 9) (ja_cons (v 8) (ja_nil)))))))) (ss_one (s_ret (j_bool))) (ss_nil))))))))) (ss_one (s_ret (j_bool)))))))))
theorem sc__law_crowd_right : FnScope N__law_crowd_right ps__law_crowd_right (defScope st__law_crowd_right) := ⟨rfl, rfl, rfl, by decide +kernel, rfl, by decide +kernel, by decide +kernel⟩
theorem ok__law_crowd_right {f : Addr} {fd : FuncData} (Fn : Fun K "_law_crowd_right" "_law_crowd_right" st__law_crowd_right f fd) (T : Txt mg) (c__law_conditions : Cal P w K mg base "_law_conditions" ps__law_conditions 1 M__law_conditions) (c_hears : Cal P w K mg base "hears" ps_hears 2 M_hears) (c_can_hear : Cal P w K mg base "can_hear" ps_can_hear 2 M_can_hear) (c__law_is_heard : Cal P w K mg base "_law_is_heard" ps__law_is_heard 2 M__law_is_heard) (c__law_takers : Cal P w K mg base "_law_takers" ps__law_takers 3 M__law_takers) (c_urged : Cal P w K mg base "urged" ps_urged 3 M_urged) (c_can_take : Cal P w K mg base "can_take" ps_can_take 3 M_can_take) (c_is_end : Cal P w K mg base "is_end" ps_is_end 4 M_is_end) : FnG P w K mg base (L2.CX P w) 5 f fd ps__law_crowd_right (spD K mg M__law_crowd_right) :=
  fn_denM (k := 4) N__law_crowd_right ps__law_crowd_right g__law_crowd_right Fn sc__law_crowd_right rfl rfl _ rfl (by decide) fun cdv A outer s H E hr =>
    ss_cons (s_set (i := 3) sc__law_crowd_right.nd rfl (Or.inl rfl) (j_repr hr ⟨by rfl, T.b_repr⟩ (j_tup (ja_cons (v 0) (ja_cons (v 1) (ja_cons (v 2) (ja_nil))))))) (ss_cons (s_for ownF rfl (i_seq (cal [false] c__law_conditions hr (fun σ => (passAt takesF) σ) (ja_cons (v 0) (ja_nil)))) (gn 4 sc__law_crowd_right.nd) (ss_cons (s_set (i := 5) sc__law_crowd_right.nd rfl (Or.inl rfl) (j_lst (ja_cons (cal [false, false, false] c_can_hear hr (fun σ => (passAt takesF) σ) (ja_cons (v 1) (ja_cons (v 2) (ja_cons (v 4) (ja_nil))))) (ja_cons (cal [false, false, false] c_hears hr (fun σ => (passAt takesF) σ) (ja_cons (v 1) (ja_cons (v 2) (ja_cons (v 4) (ja_nil))))) (ja_nil))))) (ss_cons (s_setLc (i := 6) (own := [("aid", 7)]) rfl sc__law_crowd_right.nd rfl rfl rfl (i_seq (j_tup (ja_cons (j_ix o_ix (v 1) (j_int)) (ja_cons (j_int) (ja_nil))))) (blk_of (by rfl)) (fun _ _ _ _ _ => gn 7 sc__law_crowd_right.nd) (fun _ _ _ _ _ => jts_nil) (fun _ _ _ _ _ => cal [false, false, false, false] c__law_is_heard hr (fun σ => passes0 σ) (ja_cons (v 1) (ja_cons (v 2) (ja_cons (v 4) (ja_cons (v 7) (ja_nil))))))) (ss_one (s_if (jt_cmp (o_ne hr.u64) (j_repr hr ⟨by rfl, T.b_repr⟩ (v 5)) (j_repr hr ⟨by rfl, T.b_repr⟩ (v 6))) (ss_one (s_ret (j_bool))) (ss_nil)))))) (ss_cons (s_setLc (i := 6) (own := [("aid", 7)]) rfl sc__law_crowd_right.nd rfl rfl rfl (i_seq (j_tup (ja_cons (j_ix o_ix (v 1) (j_int)) (ja_cons (j_int) (ja_nil))))) (blk_of (by rfl)) (fun _ _ _ _ _ => gn 7 sc__law_crowd_right.nd) (fun _ _ _ _ _ => jts_nil) (fun _ _ _ _ _ => j_tuple ⟨by rfl, T.b_tuple⟩ (cal [false, false, false, false] c__law_takers hr (fun σ => passes0 σ) (ja_cons (v 0) (ja_cons (v 1) (ja_cons (v 2) (ja_cons (v 7) (ja_nil)))))))) (ss_cons (s_set (i := 5) sc__law_crowd_right.nd rfl (Or.inl rfl) (j_lst (ja_cons (cal [false, false, false] c_can_take hr (fun σ => (passAt takesF) σ) (ja_cons (v 0) (ja_cons (v 1) (ja_cons (v 2) (ja_nil))))) (ja_cons (cal [false, false, false] c_urged hr (fun σ => (passAt takesF) σ) (ja_cons (v 0) (ja_cons (v 1) (ja_cons (v 2) (ja_nil))))) (ja_nil))))) (ss_cons (s_if ((jw_or (jt_cmp (o_ne hr.u64) (j_repr hr ⟨by rfl, T.b_repr⟩ (v 5)) (j_repr hr ⟨by rfl, T.b_repr⟩ (v 6))) (pw_or1 (jt_cmp (o_ne hr.u64) (j_repr hr ⟨by rfl, T.b_repr⟩ (j_tup (ja_cons (v 0) (ja_cons (v 1) (ja_cons (v 2) (ja_nil)))))) (v 3)))).pt) (ss_one (s_ret (j_bool))) (ss_nil)) (ss_one (s_ret (j_cmp (o_eq hr.u64) (j_repr hr ⟨by rfl, T.b_repr⟩ (cal [false, false, false] c_is_end hr (fun σ => (passAt takesF) σ) (ja_cons (v 0) (ja_cons (v 1) (ja_cons (v 2) (ja_nil)))))) (j_repr hr ⟨by rfl, T.b_repr⟩ (j_cmp (o_eq hr.u64) (j_ix o_ix (v 6) (j_int)) (j_tup (ja_nil)))))))))))
theorem sc_law : FnScope N_law ps_law (defScope st_law) := ⟨rfl, rfl, rfl, by decide +kernel, rfl, by decide +kernel, by decide +kernel⟩
theorem ok_law {f : Addr} {fd : FuncData} (Fn : Fun K "law" "law" st_law f fd) (T : Txt mg) (c__law_pen : Cal P w K mg base "_law_pen" ps__law_pen 1 M__law_pen) (c__law_numbers : Cal P w K mg base "_law_numbers" ps__law_numbers 4 M__law_numbers) (c__law_some_protocol : Cal P w K mg base "_law_some_protocol" ps__law_some_protocol 7 M__law_some_protocol) (c__law_firsts_right : Cal P w K mg base "_law_firsts_right" ps__law_firsts_right 5 M__law_firsts_right) (c__law_firsts : Cal P w K mg base "_law_firsts" ps__law_firsts 4 M__law_firsts) (c__law_crowd_right : Cal P w K mg base "_law_crowd_right" ps__law_crowd_right 5 M__law_crowd_right) (c__law_run : Cal P w K mg base "_law_run" ps__law_run 4 M__law_run) (c__law_draw : Cal P w K mg base "_law_draw" ps__law_draw 2 M__law_draw) : FnG P w K mg base (L2.CX P w) 8 f fd ps_law (spD K mg M_law) :=
  fn_denM (k := 7) N_law ps_law g_law Fn sc_law rfl rfl _ rfl (by decide) fun cdv A outer s H E hr =>
    ss_cons (s_set (i := 1) sc_law.nd rfl (Or.inr rfl) (cal [false] c__law_pen hr (fun σ => (passAt takesF) σ) (ja_cons (v 0) (ja_nil)))) (ss_cons (s_for ownF rfl (i_range1 (by rfl) T.b_range (j_int)) (gn 2 sc_law.nd) (ss_cons (s_par (i := 3) (j := 4) rfl sc_law.nd rfl rfl (by decide) rfl rfl (ja_cons (cal [true, false, false] c__law_some_protocol hr (fun σ => (passAt takesF) σ) (ja_cons (v 1) (ja_cons (j_int) (ja_cons (j_int) (ja_nil))))) (ja_cons (cal [true, false] c__law_numbers hr (fun σ => (passAt takesF) σ) (ja_cons (v 1) (ja_cons (j_int) (ja_nil)))) (ja_nil)))) (ss_cons (s_if (jt_not (jt_truth (cal [true, false, false] c__law_firsts_right hr (fun σ => (passAt takesF) σ) (ja_cons (v 1) (ja_cons (v 3) (ja_cons (v 4) (ja_nil))))))) (ss_one (s_ret (j_bool))) (ss_nil)) (ss_cons (s_set (i := 5) sc_law.nd rfl (Or.inl rfl) (cal [true, false, false] c__law_firsts hr (fun σ => (passAt takesF) σ) (ja_cons (v 1) (ja_cons (v 3) (ja_cons (v 4) (ja_nil)))))) (ss_cons (s_set (i := 6) sc_law.nd rfl (Or.inl rfl) (j_tup (ja_cons (v 5) (ja_cons (j_bin o_mul (j_tup (ja_cons (j_int) (ja_nil))) (j_ix o_ix (v 3) (j_int))) (ja_nil))))) (ss_cons (s_for ownF rfl (i_range1 (by rfl) T.b_range (j_int)) (gn 7 sc_law.nd) (ss_cons (s_if (jt_not (jt_truth (cal [false, false, false] c__law_crowd_right hr (fun σ => (passAt takesF) σ) (ja_cons (v 3) (ja_cons (v 4) (ja_cons (v 6) (ja_nil))))))) (ss_one (s_ret (j_bool))) (ss_nil)) (ss_one (s_set (i := 6) sc_law.nd rfl (Or.inl rfl) (j_ix o_ix (cal [true, false, false, false, false] c__law_run hr (fun σ => (passAt takesF) σ) (ja_cons (v 1) (ja_cons (v 3) (ja_cons (v 4) (ja_cons (v 6) (ja_cons (j_int) (ja_nil))))))) (j_int)))))) (ss_cons (s_set (i := 8) sc_law.nd rfl (Or.inl rfl) (j_tuple ⟨by rfl, T.b_tuple⟩ (j_lc (own := [("location", 9)]) rfl sc_law.nd (i_range1 (by rfl) T.b_range (j_ix o_ix (v 3) (j_int))) (blk_of (by rfl)) (fun _ _ _ _ _ => gn 9 sc_law.nd) (fun _ _ _ _ _ => jts_nil) (fun _ _ _ _ _ => cal [true, false] c__law_draw hr (fun σ => passes0 σ) (ja_cons (v 1) (ja_cons (j_int) (ja_nil))))))) (ss_cons (s_set (i := 10) sc_law.nd rfl (Or.inl rfl) (j_tuple ⟨by rfl, T.b_tuple⟩ (j_lc (own := [("kind", 11)]) rfl sc_law.nd (i_range1 (by rfl) T.b_range (j_ix o_ix (v 3) (j_int))) (blk_of (by rfl)) (fun _ _ _ _ _ => gn 11 sc_law.nd) (fun _ _ _ _ _ => jts_nil) (fun _ _ _ _ _ => cal [true, false] c__law_draw hr (fun σ => passes0 σ) (ja_cons (v 1) (ja_cons (j_int) (ja_nil))))))) (ss_one (s_if (jt_not (jt_truth (cal [false, false, false] c__law_crowd_right hr (fun σ => (passAt takesF) σ) (ja_cons (v 3) (ja_cons (v 4) (ja_cons (j_tup (ja_cons (v 8) (ja_cons (v 10) (ja_nil)))) (ja_nil))))))) (ss_one (s_ret (j_bool))) (ss_nil))))))))))) (ss_one (s_ret (j_bool))))
end
end PD.Lk03

/-! K03D: denotations of defs (printed by mkshare.py; a + before a name: loops in parts, too). -/
namespace PD.Lk03
open PySem PySem.Spec PyProof.Rows L2
def gLIsFirst_0 : PEn → Out Fl :=
  sUnp (gTp 3 (gsC (gNm 4) (gsC (gNm 5) (gsC (gNm 6) (gsN))))) (eVar 1)
def gLIsFirst_b1 : PEn → Out Fl :=
  sIf (tAndD (tBoo (eOp2 gGt (eVar 8) (eC (.int 0)))) (tOrD (tBoo (eOp2 gNotIn (eVar 7) (eOp2 gIx (eVar 0) (eC (.int 2))))) (tBoo (eOp2 gIn (eVar 7) (eVar 2))))) (sRet (eC (.bool false))) (sSkip)
abbrev gLIsFirst_t1 : PyData → Option (List (Nat × PyData)) := gTp 2 (gsC (gNm 7) (gsC (gNm 8) (gsN)))
def gLIsFirst_1 : PEn → Out Fl :=
  sFor (iEnumD (eVar 3)) gLIsFirst_t1 gLIsFirst_b1
def gLIsFirst_2 : PEn → Out Fl :=
  sRet (eAndD (eOp2 gEq (eOp1 gSum (eVar 3)) (eOp2 gSub (eVar 4) (eVar 6))) (eOp2 gLe (eVar 6) (eVar 4)))
def gLIsFirst : PEn → Out Fl := (sSeq gLIsFirst_0 (sSeq gLIsFirst_1 gLIsFirst_2))
def MLIsFirst : List Arg → FO := den gLIsFirst 4 9
def gLFirstsRight_0 : PEn → Out Fl :=
  sSet 3 (eCall MLFirsts [true, false, false] (aCons (eVar 0) (aCons (eVar 1) (aCons (eVar 2) (aNil)))))
def gLFirstsRight_1 : PEn → Out Fl :=
  sIf (tBoo (eOp2 gNe (eOp1 gRepr (eCall MPFirstCrowd [false, false] (aCons (eVar 1) (aCons (eVar 3) (aNil))))) (eOp1 gRepr (eTup (aCons (eVar 3) (aCons (eOp2 gMul (eTup (aCons (eC (.int 0)) (aNil))) (eOp2 gIx (eVar 1) (eC (.int 1)))) (aNil))))))) (sRet (eC (.bool false))) (sSkip)
def gLFirstsRight_2 : PEn → Out Fl :=
  sSet 4 (eCall MDraw [true, false] (aCons (eVar 0) (aCons (eOp1 gLen (eVar 3)) (aNil))))
def gLFirstsRight_3 : PEn → Out Fl :=
  sSet 5 (eLst (aCons (eVar 3) (aCons (eCall MLAt [false, false, false] (aCons (eVar 3) (aCons (eVar 4) (aCons (eOp2 gAdd (eOp2 gIx (eVar 3) (eVar 4)) (eC (.int 1))) (aNil))))) (aCons (eOp1 gRev (eVar 3)) (aCons (eCall MLAt [false, false, false] (aCons (eVar 3) (aCons (eVar 4) (aCons (eC (.int 0)) (aNil))))) (aNil))))))
def gLFirstsRight_4 : PEn → Out Fl :=
  sSet 6 (eComp (iSeq (eOp2 gIx (eVar 1) (eC (.int 2)))) [7] (gNm 7) (tBoo (eOp2 gEq (eCall MDraw [true, false] (aCons (eVar 0) (aCons (eC (.int 3)) (aNil)))) (eC (.int 0)))) (eVar 7))
def gLFirstsRight_5 : PEn → Out Fl :=
  sSet 6 (eOp1 gTuple (eSl (eVar 6) (oNo) (oYes (eOp2 gSub (eOp1 gLen (eOp2 gIx (eVar 1) (eC (.int 2)))) (eC (.int 1))))))
def gLFirstsRight_b6_b0_b0_0 : PEn → Out Fl :=
  sSet 11 (eCall MPIsFirst [false, false, false, false] (aCons (eVar 1) (aCons (eVar 10) (aCons (eVar 9) (aCons (eVar 8) (aNil))))))
def gLFirstsRight_b6_b0_b0_1 : PEn → Out Fl :=
  sIf (tBoo (eOp2 gNe (eOp1 gRepr (eVar 11)) (eOp1 gRepr (eCall MLIsFirst [false, false, false, false] (aCons (eVar 1) (aCons (eVar 10) (aCons (eVar 9) (aCons (eVar 8) (aNil))))))))) (sRet (eC (.bool false))) (sSkip)
def gLFirstsRight_b6_b0_b0 : PEn → Out Fl := (sSeq gLFirstsRight_b6_b0_b0_0 gLFirstsRight_b6_b0_b0_1)
abbrev gLFirstsRight_b6_b0_t0 : PyData → Option (List (Nat × PyData)) := gNm 10
def gLFirstsRight_b6_b0_s0 : PEn → Out (List PyData) :=
  iSeq (eTup (aCons (eVar 2) (aCons (eOp2 gAdd (eSl (eVar 2) (oNo) (oYes (eC (.int 2)))) (eTup (aCons (eOp2 gAdd (eOp2 gIx (eVar 2) (eC (.int 0))) (eC (.int 1))) (aNil)))) (aCons (eOp2 gAdd (eTup (aCons (eOp2 gAdd (eOp2 gIx (eVar 2) (eC (.int 0))) (eC (.int 1))) (aNil))) (eSl (eVar 2) (oYes (eC (.int 1))) (oNo))) (aNil)))))
def gLFirstsRight_b6_b0_0 : PEn → Out Fl :=
  sFor gLFirstsRight_b6_b0_s0 gLFirstsRight_b6_b0_t0 gLFirstsRight_b6_b0_b0
def gLFirstsRight_b6_b0 : PEn → Out Fl := gLFirstsRight_b6_b0_0
abbrev gLFirstsRight_b6_t0 : PyData → Option (List (Nat × PyData)) := gNm 9
def gLFirstsRight_b6_s0 : PEn → Out (List PyData) :=
  iSeq (eTup (aCons (eTup (aNil)) (aCons (eVar 6) (aNil))))
def gLFirstsRight_b6_0 : PEn → Out Fl :=
  sFor gLFirstsRight_b6_s0 gLFirstsRight_b6_t0 gLFirstsRight_b6_b0
def gLFirstsRight_b6 : PEn → Out Fl := gLFirstsRight_b6_0
abbrev gLFirstsRight_t6 : PyData → Option (List (Nat × PyData)) := gNm 8
def gLFirstsRight_s6 : PEn → Out (List PyData) :=
  iSeq (eVar 5)
def gLFirstsRight_6 : PEn → Out Fl :=
  sFor gLFirstsRight_s6 gLFirstsRight_t6 gLFirstsRight_b6
def gLFirstsRight_7 : PEn → Out Fl :=
  sRet (eC (.bool true))
def gLFirstsRight : PEn → Out Fl := (sSeq gLFirstsRight_0 (sSeq gLFirstsRight_1 (sSeq gLFirstsRight_2 (sSeq gLFirstsRight_3 (sSeq gLFirstsRight_4 (sSeq gLFirstsRight_5 (sSeq gLFirstsRight_6 gLFirstsRight_7)))))))
def MLFirstsRight : List Arg → FO := den gLFirstsRight 3 12
def gLCrowdRight_0 : PEn → Out Fl :=
  sSet 3 (eOp1 gRepr (eTup (aCons (eVar 0) (aCons (eVar 1) (aCons (eVar 2) (aNil))))))
def gLCrowdRight_b1_0 : PEn → Out Fl :=
  sSet 5 (eLst (aCons (eCall MPCanHear [false, false, false] (aCons (eVar 1) (aCons (eVar 2) (aCons (eVar 4) (aNil))))) (aCons (eCall MPHears [false, false, false] (aCons (eVar 1) (aCons (eVar 2) (aCons (eVar 4) (aNil))))) (aNil))))
def gLCrowdRight_b1_1 : PEn → Out Fl :=
  sSet 6 (eComp (iSeq (eTup (aCons (eOp2 gIx (eVar 1) (eC (.int 2))) (aCons (eC (.int 0)) (aNil))))) [7] (gNm 7) (tYesD) (eCall MLIsHeard [false, false, false, false] (aCons (eVar 1) (aCons (eVar 2) (aCons (eVar 4) (aCons (eVar 7) (aNil)))))))
def gLCrowdRight_b1_2 : PEn → Out Fl :=
  sIf (tBoo (eOp2 gNe (eOp1 gRepr (eVar 5)) (eOp1 gRepr (eVar 6)))) (sRet (eC (.bool false))) (sSkip)
def gLCrowdRight_b1 : PEn → Out Fl := (sSeq gLCrowdRight_b1_0 (sSeq gLCrowdRight_b1_1 gLCrowdRight_b1_2))
abbrev gLCrowdRight_t1 : PyData → Option (List (Nat × PyData)) := gNm 4
def gLCrowdRight_s1 : PEn → Out (List PyData) :=
  iSeq (eCall MLConds [false] (aCons (eVar 0) (aNil)))
def gLCrowdRight_1 : PEn → Out Fl :=
  sFor gLCrowdRight_s1 gLCrowdRight_t1 gLCrowdRight_b1
def gLCrowdRight_2 : PEn → Out Fl :=
  sSet 6 (eComp (iSeq (eTup (aCons (eOp2 gIx (eVar 1) (eC (.int 2))) (aCons (eC (.int 0)) (aNil))))) [7] (gNm 7) (tYesD) (eOp1 gTuple (eCall MLTakers [false, false, false, false] (aCons (eVar 0) (aCons (eVar 1) (aCons (eVar 2) (aCons (eVar 7) (aNil))))))))
def gLCrowdRight_3 : PEn → Out Fl :=
  sSet 5 (eLst (aCons (eCall MPCanTake [false, false, false] (aCons (eVar 0) (aCons (eVar 1) (aCons (eVar 2) (aNil))))) (aCons (eCall MPUrged [false, false, false] (aCons (eVar 0) (aCons (eVar 1) (aCons (eVar 2) (aNil))))) (aNil))))
def gLCrowdRight_4 : PEn → Out Fl :=
  sIf (tOrD (tBoo (eOp2 gNe (eOp1 gRepr (eVar 5)) (eOp1 gRepr (eVar 6)))) (tBoo (eOp2 gNe (eOp1 gRepr (eTup (aCons (eVar 0) (aCons (eVar 1) (aCons (eVar 2) (aNil)))))) (eVar 3)))) (sRet (eC (.bool false))) (sSkip)
def gLCrowdRight_5 : PEn → Out Fl :=
  sRet (eOp2 gEq (eOp1 gRepr (eCall MPIsEnd [false, false, false] (aCons (eVar 0) (aCons (eVar 1) (aCons (eVar 2) (aNil)))))) (eOp1 gRepr (eOp2 gEq (eOp2 gIx (eVar 6) (eC (.int 1))) (eTup (aNil)))))
def gLCrowdRight : PEn → Out Fl := (sSeq gLCrowdRight_0 (sSeq gLCrowdRight_1 (sSeq gLCrowdRight_2 (sSeq gLCrowdRight_3 (sSeq gLCrowdRight_4 gLCrowdRight_5)))))
def MLCrowdRight : List Arg → FO := den gLCrowdRight 3 8
def gPLaw_0 : PEn → Out Fl :=
  sSet 1 (eCall MPen [false] (aCons (eVar 0) (aNil)))
def gPLaw_b1_0 : PEn → Out Fl :=
  sPar [3, 4] (aCons (eCall MSome [true, false, false] (aCons (eVar 1) (aCons (eC (.int 5)) (aCons (eC (.int 8)) (aNil))))) (aCons (eCall MLNumbers [true, false] (aCons (eVar 1) (aCons (eC (.int 12)) (aNil)))) (aNil)))
def gPLaw_b1_1 : PEn → Out Fl :=
  sIf (tNotD (tTru (eCall MLFirstsRight [true, false, false] (aCons (eVar 1) (aCons (eVar 3) (aCons (eVar 4) (aNil))))))) (sRet (eC (.bool false))) (sSkip)
def gPLaw_b1_2 : PEn → Out Fl :=
  sSet 5 (eCall MLFirsts [true, false, false] (aCons (eVar 1) (aCons (eVar 3) (aCons (eVar 4) (aNil)))))
def gPLaw_b1_3 : PEn → Out Fl :=
  sSet 6 (eTup (aCons (eVar 5) (aCons (eOp2 gMul (eTup (aCons (eC (.int 0)) (aNil))) (eOp2 gIx (eVar 3) (eC (.int 1)))) (aNil))))
def gPLaw_b1_b4_0 : PEn → Out Fl :=
  sIf (tNotD (tTru (eCall MLCrowdRight [false, false, false] (aCons (eVar 3) (aCons (eVar 4) (aCons (eVar 6) (aNil))))))) (sRet (eC (.bool false))) (sSkip)
def gPLaw_b1_b4_1 : PEn → Out Fl :=
  sSet 6 (eOp2 gIx (eCall MLRun [true, false, false, false, false] (aCons (eVar 1) (aCons (eVar 3) (aCons (eVar 4) (aCons (eVar 6) (aCons (eC (.int 3)) (aNil))))))) (eC (.int 1)))
def gPLaw_b1_b4 : PEn → Out Fl := (sSeq gPLaw_b1_b4_0 gPLaw_b1_b4_1)
abbrev gPLaw_b1_t4 : PyData → Option (List (Nat × PyData)) := gNm 7
def gPLaw_b1_s4 : PEn → Out (List PyData) :=
  iRange1 (eC (.int 4))
def gPLaw_b1_4 : PEn → Out Fl :=
  sFor gPLaw_b1_s4 gPLaw_b1_t4 gPLaw_b1_b4
def gPLaw_b1_5 : PEn → Out Fl :=
  sSet 8 (eOp1 gTuple (eComp (iRange1 (eOp2 gIx (eVar 3) (eC (.int 0)))) [9] (gNm 9) (tYesD) (eCall MDraw [true, false] (aCons (eVar 1) (aCons (eC (.int 5)) (aNil))))))
def gPLaw_b1_6 : PEn → Out Fl :=
  sSet 10 (eOp1 gTuple (eComp (iRange1 (eOp2 gIx (eVar 3) (eC (.int 1)))) [11] (gNm 11) (tYesD) (eCall MDraw [true, false] (aCons (eVar 1) (aCons (eC (.int 9)) (aNil))))))
def gPLaw_b1_7 : PEn → Out Fl :=
  sIf (tNotD (tTru (eCall MLCrowdRight [false, false, false] (aCons (eVar 3) (aCons (eVar 4) (aCons (eTup (aCons (eVar 8) (aCons (eVar 10) (aNil)))) (aNil))))))) (sRet (eC (.bool false))) (sSkip)
def gPLaw_b1 : PEn → Out Fl := (sSeq gPLaw_b1_0 (sSeq gPLaw_b1_1 (sSeq gPLaw_b1_2 (sSeq gPLaw_b1_3 (sSeq gPLaw_b1_4 (sSeq gPLaw_b1_5 (sSeq gPLaw_b1_6 gPLaw_b1_7)))))))
abbrev gPLaw_t1 : PyData → Option (List (Nat × PyData)) := gNm 2
def gPLaw_s1 : PEn → Out (List PyData) :=
  iRange1 (eC (.int 5))
def gPLaw_1 : PEn → Out Fl :=
  sFor gPLaw_s1 gPLaw_t1 gPLaw_b1
def gPLaw_2 : PEn → Out Fl :=
  sRet (eC (.bool true))
def gPLaw : PEn → Out Fl := (sSeq gPLaw_0 (sSeq gPLaw_1 gPLaw_2))
def MPLaw : List Arg → FO := den gPLaw 1 12
end PD.Lk03

/-! K03A: first crowds told. -/
namespace PD
open PySem PySem.Spec PyProof.Rows L2
theorem for_all {g : PyData → Option (List (Nat × PyData))} {body : PEn → Out Fl} (I : PEn → Prop) (ds : List PyData) (r : PEn) (h0 : I r) (st : ∀ d ∈ ds, ∀ r, I r → ∃ l r', g d = some l ∧ frees l r = true ∧ body (setE l r) = .ok .next r' ∧ I r') : ∃ r', forD g body ds r = .ok .next r' ∧ I r' := by
  obtain ⟨r', e, h⟩ := for_inv (g := g) (body := body) (fun _ r => I r) ds 0 r h0 fun i d r hi h => by
    obtain ⟨l, r', a, b, c, d'⟩ := st d (List.mem_of_getElem? hi) r h
    exact ⟨l, r', a, b, .inl c, d'⟩
  exact ⟨r', e, h⟩
theorem for_src {s : PEn → Out (List PyData)} {g : PyData → Option (List (Nat × PyData))} {b : PEn → Out Fl} {r r1 : PEn} {ds : List PyData} (hs : s r = .ok ds r1) : sFor s g b r = forD g b ds r1 := by
  unfold sFor
  rw [hs]
  rfl
theorem to_ {t u : PEn → Out Bool} {a b : Bool} {r : PEn} (h : t r = .ok a r) (h2 : u r = .ok b r) : tOrD t u r = .ok (a || b) r := by
  cases a with
  | true => rw [toT h]; rfl
  | false => rw [toF h, h2]; rfl
theorem shaped_intsT (ns : List Int) : SeqAt.shaped (.tuple (ns.map .int)) = true := shaped_tup.mpr fun x hx => by
  obtain ⟨c, _, rfl⟩ := List.mem_map.mp hx
  exact ⟨rfl, Nat.zero_le _⟩
theorem any_int (i : Int) (ns : List Int) : ((ns.map PyData.int).any fun z => PyData.eqv z (.int i)) = decide (i ∈ ns) := by
  induction ns with
  | nil => rfl
  | cons x o ih =>
    rw [List.map_cons, List.any_cons, ih, eqv_int]
    by_cases h : x = i
    · subst h; simp
    · have h2 : ¬ i = x := fun e => h e.symm
      simp [h, h2]
theorem gIn_int (i : Int) (ns : List Int) : gIn (.int i) (.tuple (ns.map .int)) = some (.v (.bool (decide (i ∈ ns)))) := by
  rw [← any_int]
  exact if_pos ⟨rfl, shaped_intsT ns⟩
theorem gNotIn_int (i : Int) (ns : List Int) : gNotIn (.int i) (.tuple (ns.map .int)) = some (.v (.bool (!decide (i ∈ ns)))) := by
  rw [← any_int]
  exact if_pos ⟨rfl, shaped_intsT ns⟩
theorem sln_ {fa : PEn → Out Val} {fl fh : PEn → Out (Option Int)} {x : Val} {xs ws : List PyData} {lo hi : Option Int} {r : PEn} (ha : fa r = .ok x r) (hx : x.rd r = some (.list xs)) (hl : fl r = .ok lo r) (hh : fh r = .ok hi r) (h : cutD xs lo hi = ws) : eSl fa fl fh r = .ok (.n ws) r := by
  subst h
  unfold eSl
  rw [ha]
  show Out.bind (fl r) _ = _
  rw [hl]
  show Out.bind (fh r) _ = _
  rw [hh]
  show op1 (fun d => gSl d lo hi) x r = _
  unfold op1
  rw [hx]
  rfl
end PD
namespace PD.Lk03
open PySem PySem.Spec PyProof.Rows L2
def badF (st emp : List Int) : PyData → Bool
  | .tuple [.int i, .int c] => decide (0 < c) && (!decide (i ∈ st) || decide (i ∈ emp))
  | _ => false
def isF (st emp : List Int) (m : I3) (cts : List Int) : Bool := match (enumD (cts.map .int)).find? (badF st emp) with
  | some _ => false
  | none => decide (m.2.2 ≤ m.1) && decide (cts.sum = m.1 - m.2.2)
theorem enum_mem {xs : List PyData} {d : PyData} (h : d ∈ enumD xs) : ∃ (i : Nat) (x : PyData), x ∈ xs ∧ d = .tuple [.int (i : Nat), x] := by
  obtain ⟨i, hi⟩ := List.mem_iff_getElem?.mp h
  obtain ⟨x, hx, rfl⟩ := enum_at hi
  exact ⟨i, x, List.mem_of_getElem? hx, rfl⟩
theorem is_first_law {q : Prt} {m : I3} {emp cts : List Int} : MLIsFirst [.d (prD q), .d (bndD m), .d (.tuple (emp.map .int)), .d (.tuple (cts.map .int))] = .ok (.v (.bool (isF q.st emp m cts))) [.d (prD q), .d (bndD m), .d (.tuple (emp.map .int)), .d (.tuple (cts.map .int))] := by
  have s0 : gLIsFirst_0 [.d (prD q), .d (bndD m), .d (.tuple (emp.map .int)), .d (.tuple (cts.map .int)), .u, .u, .u, .u, .u] = .ok .next [.d (prD q), .d (bndD m), .d (.tuple (emp.map .int)), .d (.tuple (cts.map .int)), .d (.int m.1), .d (.int m.2.1), .d (.int m.2.2), .u, .u] := by
    unfold gLIsFirst_0
    get_elem_tactic_extensible
  have loop := for_first (g := gLIsFirst_t1) (body := gLIsFirst_b1) (q := badF q.st emp) (v := fun _ => .v (.bool false)) (fun r => ∃ z7 z8, Loc z7 ∧ Loc z8 ∧ r = [.d (prD q), .d (bndD m), .d (.tuple (emp.map .int)), .d (.tuple (cts.map .int)), .d (.int m.1), .d (.int m.2.1), .d (.int m.2.2), z7, z8]) (enumD (cts.map .int))
    [.d (prD q), .d (bndD m), .d (.tuple (emp.map .int)), .d (.tuple (cts.map .int)), .d (.int m.1), .d (.int m.2.1), .d (.int m.2.2), .u, .u] ⟨.u, .u, .u, .u, rfl⟩ ?_
  · obtain ⟨r', el, z7, z8, _, _, rfl⟩ := loop
    have s1 := (for_src (g := gLIsFirst_t1) (b := gLIsFirst_b1) (r := [.d (prD q), .d (bndD m), .d (.tuple (emp.map .int)), .d (.tuple (cts.map .int)), .d (.int m.1), .d (.int m.2.1), .d (.int m.2.2), .u, .u]) (ienum_t (xs := cts.map .int) (f := eVar 3) (evV rfl))).trans el
    refine den_ret rfl (v := .v (.bool (isF q.st emp m cts))) (r := [.d (prD q), .d (bndD m), .d (.tuple (emp.map .int)), .d (.tuple (cts.map .int)), .d (.int m.1), .d (.int m.2.1), .d (.int m.2.2), z7, z8]) ?_ rfl rfl
    show gLIsFirst [.d (prD q), .d (bndD m), .d (.tuple (emp.map .int)), .d (.tuple (cts.map .int)), .u, .u, .u, .u, .u] = _
    unfold gLIsFirst isF
    cases hf : (enumD (cts.map .int)).find? (badF q.st emp) with
    | some d =>
      rw [hf] at s1
      exact (seqN s0).trans (seqR s1)
    | none =>
      rw [hf] at s1
      refine (seqN s0).trans ((seqN s1).trans ?_)
      unfold gLIsFirst_2
      refine ret_ ((eaB (a := decide (cts.sum = m.1 - m.2.2)) (b := decide (m.2.2 ≤ m.1)) ?_ fun _ => ?_).trans (by rw [Bool.and_comm]))
      · exact ev2v (ev1v (evV rfl) rfl (gSum_intsT _)) (ev2v (evV rfl) (evV rfl) rfl rfl gSub_int) rfl rfl (gEq_int _ _)
      · exact ev2v (evV rfl) (evV rfl) rfl rfl gLe_int
  · rintro d r hd ⟨z7, z8, h7, h8, rfl⟩
    obtain ⟨i, x, hx, rfl⟩ := enum_mem hd
    obtain ⟨c, hc, rfl⟩ := List.mem_map.mp hx
    refine ⟨[(7, .int (i : Nat)), (8, .int c)], [.d (prD q), .d (bndD m), .d (.tuple (emp.map .int)), .d (.tuple (cts.map .int)), .d (.int m.1), .d (.int m.2.1), .d (.int m.2.2), .d (.int (i : Nat)), .d (.int c)], rfl, frees2 (d := .none) (e := .none) h7 rfl h8 rfl, ?_, _, _, .d (d := .int (i : Nat)), .d (d := .int c), rfl⟩
    show gLIsFirst_b1 [.d (prD q), .d (bndD m), .d (.tuple (emp.map .int)), .d (.tuple (cts.map .int)), .d (.int m.1), .d (.int m.2.1), .d (.int m.2.2), .d (.int (i : Nat)), .d (.int c)] = _
    have t : tAndD (tBoo (eOp2 gGt (eVar 8) (eC (.int 0)))) (tOrD (tBoo (eOp2 gNotIn (eVar 7) (eOp2 gIx (eVar 0) (eC (.int 2))))) (tBoo (eOp2 gIn (eVar 7) (eVar 2)))) [.d (prD q), .d (bndD m), .d (.tuple (emp.map .int)), .d (.tuple (cts.map .int)), .d (.int m.1), .d (.int m.2.1), .d (.int m.2.2), .d (.int (i : Nat)), .d (.int c)]
        = .ok (badF q.st emp (.tuple [.int (i : Nat), .int c])) [.d (prD q), .d (bndD m), .d (.tuple (emp.map .int)), .d (.tuple (cts.map .int)), .d (.int m.1), .d (.int m.2.1), .d (.int m.2.2), .d (.int (i : Nat)), .d (.int c)] :=
      ta_ (tb_ (ev2v (evV rfl) evC rfl rfl gGt_int)) (to_ (tb_ (ev2v (evV rfl) (ev2v (evV rfl) evC rfl rfl ix2) rfl rfl (gNotIn_int _ _))) (tb_ (ev2v (evV rfl) (evV rfl) rfl rfl (gIn_int _ _))))
    unfold gLIsFirst_b1
    cases hb : badF q.st emp (.tuple [.int (i : Nat), .int c]) with
    | true => rw [hb] at t; exact (ifT t).trans (ret_ evC)
    | false => rw [hb] at t; exact (ifF t).trans rfl
theorem is_first_prog {q : Prt} {m : I3} {emp cts : List Int} (hc0 : ∀ c ∈ cts, 0 ≤ c) : MPIsFirst [.d (prD q), .d (bndD m), .d (.tuple (emp.map .int)), .d (.tuple (cts.map .int))] = .ok (.v (.bool (isF q.st emp m cts))) [.d (prD q), .d (bndD m), .d (.tuple (emp.map .int)), .d (.tuple (cts.map .int))] := by
  have s0 : gPIsFirst_0 [.d (prD q), .d (bndD m), .d (.tuple (emp.map .int)), .d (.tuple (cts.map .int)), .u, .u, .u, .u, .u] = .ok .next [.d (prD q), .d (bndD m), .d (.tuple (emp.map .int)), .d (.tuple (cts.map .int)), .d (.int m.1), .d (.int m.2.1), .d (.int m.2.2), .u, .u] := by
    unfold gPIsFirst_0
    get_elem_tactic_extensible
  have loop := for_first (g := gPIsFirst_t1) (body := gPIsFirst_b1) (q := badF q.st emp) (v := fun _ => .v (.bool false)) (fun r => ∃ z7 z8, Loc z7 ∧ Loc z8 ∧ r = [.d (prD q), .d (bndD m), .d (.tuple (emp.map .int)), .d (.tuple (cts.map .int)), .d (.int m.1), .d (.int m.2.1), .d (.int m.2.2), z7, z8]) (enumD (cts.map .int))
    [.d (prD q), .d (bndD m), .d (.tuple (emp.map .int)), .d (.tuple (cts.map .int)), .d (.int m.1), .d (.int m.2.1), .d (.int m.2.2), .u, .u] ⟨.u, .u, .u, .u, rfl⟩ ?_
  · obtain ⟨r', el, z7, z8, _, _, rfl⟩ := loop
    have s1 := (for_src (g := gPIsFirst_t1) (b := gPIsFirst_b1) (r := [.d (prD q), .d (bndD m), .d (.tuple (emp.map .int)), .d (.tuple (cts.map .int)), .d (.int m.1), .d (.int m.2.1), .d (.int m.2.2), .u, .u]) (ienum_t (xs := cts.map .int) (f := eVar 3) (evV rfl))).trans el
    refine den_ret rfl (v := .v (.bool (isF q.st emp m cts))) (r := [.d (prD q), .d (bndD m), .d (.tuple (emp.map .int)), .d (.tuple (cts.map .int)), .d (.int m.1), .d (.int m.2.1), .d (.int m.2.2), z7, z8]) ?_ rfl rfl
    show gPIsFirst [.d (prD q), .d (bndD m), .d (.tuple (emp.map .int)), .d (.tuple (cts.map .int)), .u, .u, .u, .u, .u] = _
    unfold gPIsFirst isF
    cases hf : (enumD (cts.map .int)).find? (badF q.st emp) with
    | some d =>
      rw [hf] at s1
      exact (seqN s0).trans (seqR s1)
    | none =>
      rw [hf] at s1
      refine (seqN s0).trans ((seqN s1).trans ?_)
      unfold gPIsFirst_2
      refine ret_ (eaB ?_ fun _ => ?_)
      · exact ev2v (evV rfl) (evV rfl) rfl rfl gLe_int
      · exact ev2v (ev1v (evV rfl) rfl (gSum_intsT _)) (ev2v (evV rfl) (evV rfl) rfl rfl gSub_int) rfl rfl (gEq_int _ _)
  · rintro d r hd ⟨z7, z8, h7, h8, rfl⟩
    obtain ⟨i, x, hx, rfl⟩ := enum_mem hd
    obtain ⟨c, hc, rfl⟩ := List.mem_map.mp hx
    have hc1 := hc0 c hc
    refine ⟨[(7, .int (i : Nat)), (8, .int c)], [.d (prD q), .d (bndD m), .d (.tuple (emp.map .int)), .d (.tuple (cts.map .int)), .d (.int m.1), .d (.int m.2.1), .d (.int m.2.2), .d (.int (i : Nat)), .d (.int c)], rfl, frees2 (d := .none) (e := .none) h7 rfl h8 rfl, ?_, _, _, .d (d := .int (i : Nat)), .d (d := .int c), rfl⟩
    show gPIsFirst_b1 [.d (prD q), .d (bndD m), .d (.tuple (emp.map .int)), .d (.tuple (cts.map .int)), .d (.int m.1), .d (.int m.2.1), .d (.int m.2.2), .d (.int (i : Nat)), .d (.int c)] = _
    have ec : (!decide (c = 0)) = decide (0 < c) := by
      by_cases h : c = 0
      · subst h; rfl
      · have : 0 < c := by omega
        simp [h, this]
    have gn : gNe (.int c) (.int 0) = some (.v (.bool (decide (0 < c)))) := by rw [← ec]; exact gNe_int _ _
    have t : tAndD (tBoo (eOp2 gNe (eVar 8) (eC (.int 0)))) (tOrD (tBoo (eOp2 gNotIn (eVar 7) (eOp2 gIx (eVar 0) (eC (.int 2))))) (tBoo (eOp2 gIn (eVar 7) (eVar 2)))) [.d (prD q), .d (bndD m), .d (.tuple (emp.map .int)), .d (.tuple (cts.map .int)), .d (.int m.1), .d (.int m.2.1), .d (.int m.2.2), .d (.int (i : Nat)), .d (.int c)]
        = .ok (badF q.st emp (.tuple [.int (i : Nat), .int c])) [.d (prD q), .d (bndD m), .d (.tuple (emp.map .int)), .d (.tuple (cts.map .int)), .d (.int m.1), .d (.int m.2.1), .d (.int m.2.2), .d (.int (i : Nat)), .d (.int c)] :=
      ta_ (tb_ (ev2v (evV rfl) evC rfl rfl gn)) (to_ (tb_ (ev2v (evV rfl) (ev2v (evV rfl) evC rfl rfl ix2) rfl rfl (gNotIn_int _ _))) (tb_ (ev2v (evV rfl) (evV rfl) rfl rfl (gIn_int _ _))))
    unfold gPIsFirst_b1
    cases hb : badF q.st emp (.tuple [.int (i : Nat), .int c]) with
    | true => rw [hb] at t; exact (ifT t).trans (ret_ evC)
    | false => rw [hb] at t; exact (ifF t).trans rfl
end PD.Lk03

/-! K03B: sizes; all told of a crowd. -/
namespace PD
open PySem PySem.Spec PyProof.Rows L2
theorem gv_bigI {x : Int} {n : Nat} (h : -(2 ^ 251) < x ∧ x < 2 ^ 251) : Gv 251 n 253 (.int x) := gv_int (by have := log_le (k := x) (n := 251) (by omega) (by decide); omega)
theorem intsb_gv {ks : List Int} (h : ∀ k ∈ ks, -(2 ^ 251) < k ∧ k < 2 ^ 251) {m : Nat} (hl : ks.length ≤ m) {C : Nat} (hC : m * 255 + 3 ≤ C) : Gv 251 1 C (.tuple (ks.map .int)) :=
  gv_each (m := m) (n := 0) (c := 253) (fun y hy => by
    obtain ⟨k, hk, rfl⟩ := List.mem_map.mp hy
    exact gv_bigI (h k hk)) (by rw [List.length_map]; exact hl) hC
theorem CrOk.gv {q : Prt} (hq : PrOk q) {B : Int} {k : Crw} (h : CrOk q B k) (hB : B ≤ 2 ^ 250) : Gv 251 2 2600 (crD k) := by
  have hm := hq.m
  have hk := hq.k
  have hl := h.cl
  have hs := h.sl
  refine gv_each (m := 2) (n := 1) (c := 1280) (fun y hy => ?_) (Nat.le_refl _) (by decide)
  simp only [List.mem_cons, List.not_mem_nil, or_false] at hy
  rcases hy with rfl | rfl
  · exact intsb_gv (fun x hx => by have := h.c x hx; omega) (m := 5) (by omega) (by decide)
  · exact intsb_gv (fun x hx => by have := h.s x hx; omega) (m := 5) (by omega) (by decide)
abbrev NumOk (m : I3) : Prop := -(2 ^ 250) < m.1 ∧ m.1 < 2 ^ 250 ∧ -(2 ^ 250) < m.2.1 ∧ m.2.1 < 2 ^ 250 ∧ -(2 ^ 250) < m.2.2 ∧ m.2.2 < 2 ^ 250
theorem NumOk.gv {m : I3} (h : NumOk m) : Gv 251 1 800 (bndD m) := gv_each (m := 3) (n := 0) (c := 253) (fun y hy => by
  simp only [List.mem_cons, List.not_mem_nil, or_false] at hy
  obtain ⟨h1, h2, h3, h4, h5, h6⟩ := h
  rcases hy with rfl | rfl | rfl <;> exact gv_bigI (by omega)) (Nat.le_refl _) (by decide)
/-- (protocol, numbers, crowd) -/
theorem three_gv {q : Prt} (hq : PrOk q) {m : I3} (hm : NumOk m) {B : Int} {k : Crw} (h : CrOk q B k) (hB : B ≤ 2 ^ 250) : Gv 251 7 70000 (.tuple [prD q, bndD m, crD k]) :=
  gv_each (m := 3) (n := 6) (c := 21559) (fun y hy => by
    simp only [List.mem_cons, List.not_mem_nil, or_false] at hy
    rcases hy with rfl | rfl | rfl
    · exact hq.gv.more (by decide) (by decide) (by decide)
    · exact hm.gv.more (by decide) (by decide) (by decide)
    · exact (h.gv hq hB).more (by decide) (by decide) (by decide)) (Nat.le_refl _) (by decide)
theorem gv_bools {bs : List Bool} (h : bs.length ≤ 10) : Gv 251 1 100 (.list (bs.map .bool)) := gv_eachL (m := 10) (n := 0) (c := 7) (fun y hy => by
  obtain ⟨b, _, rfl⟩ := List.mem_map.mp hy
  exact gv_bool (by decide) b) (by rw [List.length_map]; exact h) (by decide)
theorem Gv.repr' {L n c : Nat} {d : PyData} (h : Gv L n c d) (hL : L ≤ 251) (hn : n ≤ 50) (hc : c ≤ 900000) : gRepr d = some (.v (.str d.shown)) := h.repr (by omega) hn (Nat.le_trans hc (by decide))
end PD
namespace PD.Lk03
open PySem PySem.Spec PyProof.Rows L2
abbrev envC (q : Prt) (m : I3) (k : Crw) (z3 z4 z5 z6 : Sl) : PEn := [.d (prD q), .d (bndD m), .d (crD k), z3, z4, z5, z6, .u]
theorem crowd_b1 {q : Prt} (hq : PrOk q) {m : I3} {B : Int} {k : Crw} (hk : CrOk q B k) {z3 z5 z6 : Sl} (h5 : Loc z5) (h6 : Loc z6) {c : Cnd} (hc : CndP q.kinds c) : ∃ z5' z6', Loc z5' ∧ Loc z6' ∧ gLCrowdRight_b1 (envC q m k z3 (.d (cndD c)) z5 z6) = .ok .next (envC q m k z3 (.d (cndD c)) z5' z6') := by
  have h1 := can_hear_ok (m := m) hk.sl hc
  have h2 := hears_ok (m := m) hk.sl hc
  have h3 : ∀ aid, MLIsHeard [.d (bndD m), .d (crD k), .d (cndD c), .d (.int aid)] = _ := fun aid => is_heard_ok (m := m) (aid := aid) hk.sl hc
  have s0 : gLCrowdRight_b1_0 (envC q m k z3 (.d (cndD c)) z5 z6) = .ok .next (envC q m k z3 (.d (cndD c)) (.l false ([heard m k m.2.2 c, heard m k 0 c].map .bool)) z6) := by
    unfold gLCrowdRight_b1_0
    exact set_nE (lst_ (aC (call_d3v (evV rfl) (evV rfl) (evV rfl) h1) (aC (call_d3v (evV rfl) (evV rfl) (evV rfl) h2) aN)) rfl (show 2 ≤ few by decide)) (h5.free rfl) rfl
  have cm := comp_map (own := [7]) (g := gNm 7) (f := eCall MLIsHeard [false, false, false, false] (aCons (eVar 1) (aCons (eVar 2) (aCons (eVar 4) (aCons (eVar 7) (aNil)))))) (w := fun d => match d with | .int i => .bool (heard m k i c) | d => d) (s := iSeq (eTup (aCons (eOp2 gIx (eVar 1) (eC (.int 2))) (aCons (eC (.int 0)) (aNil))))) (items := [.int m.2.2, .int 0])
    (r := envC q m k z3 (.d (cndD c)) (.l false ([heard m k m.2.2 c, heard m k 0 c].map .bool)) z6) (r0 := envC q m k z3 (.d (cndD c)) (.l false ([heard m k m.2.2 c, heard m k 0 c].map .bool)) z6)
    (iseq_t (tup_ (aC (ev2v (evV rfl) evC rfl rfl ix2) (aC evC aN)) rfl (show 2 ≤ few by decide))) (show 2 ≤ many by decide) rfl rfl (fun d hd => by
      obtain ⟨i, rfl⟩ : ∃ i : Int, d = .int i := by
        simp only [List.mem_cons, List.not_mem_nil, or_false] at hd
        rcases hd with rfl | rfl <;> exact ⟨_, rfl⟩
      refine ⟨[(7, .int i)], [.d (prD q), .d (bndD m), .d (crD k), z3, .d (cndD c), .l false ([heard m k m.2.2 c, heard m k 0 c].map .bool), z6, .d (.int i)], rfl, rfl, rfl, call_d4v (evV rfl) (evV rfl) (evV rfl) (evV rfl) (h3 i), rfl⟩)
  have s1 : gLCrowdRight_b1_1 (envC q m k z3 (.d (cndD c)) (.l false ([heard m k m.2.2 c, heard m k 0 c].map .bool)) z6) = .ok .next (envC q m k z3 (.d (cndD c)) (.l false ([heard m k m.2.2 c, heard m k 0 c].map .bool)) (.l false ([heard m k m.2.2 c, heard m k 0 c].map .bool))) := by
    unfold gLCrowdRight_b1_1
    exact set_nE cm (h6.free rfl) rfl
  have rr := (gv_bools (bs := [heard m k m.2.2 c, heard m k 0 c]) (by simp)).repr' (by decide) (by decide) (by decide)
  have t := tb_ (ev2v (ev1v (evL (i := 5) (r := envC q m k z3 (.d (cndD c)) (.l false ([heard m k m.2.2 c, heard m k 0 c].map .bool)) (.l false ([heard m k m.2.2 c, heard m k 0 c].map .bool))) rfl) rfl rr) (ev1v (evL (i := 6) rfl) rfl rr) rfl rfl (gNe_str _))
  refine ⟨.l false ([heard m k m.2.2 c, heard m k 0 c].map .bool), .l false ([heard m k m.2.2 c, heard m k 0 c].map .bool), .l, .l, ?_⟩
  unfold gLCrowdRight_b1 gLCrowdRight_b1_2
  exact (seqN s0).trans ((seqN s1).trans ((ifF t).trans rfl))
theorem crowd_right {q : Prt} (hq : PrOk q) {m : I3} (hm : NumOk m) {B : Int} {k : Crw} (hk : CrOk q B k) (hB : B ≤ 2 ^ 250) : MLCrowdRight [.d (prD q), .d (bndD m), .d (crD k)] = .ok (.v (.bool true)) [.d (prD q), .d (bndD m), .d (crD k)] := by
  have r3 := (three_gv hq hm hk hB).repr' (by decide) (by decide) (by decide)
  have tb : ∀ {z3 z4 z5 z6}, eTup (aCons (eVar 0) (aCons (eVar 1) (aCons (eVar 2) (aNil)))) (envC q m k z3 z4 z5 z6) = .ok (.v (.tuple [prD q, bndD m, crD k])) (envC q m k z3 z4 z5 z6) := tup_ (aC (evV rfl) (aC (evV rfl) (aC (evV rfl) aN))) rfl (show 3 ≤ few by decide)
  generalize hK : PyData.tuple [prD q, bndD m, crD k] = K at r3 tb
  have s0 : gLCrowdRight_0 (envC q m k .u .u .u .u) = .ok .next (envC q m k (.d (.str K.shown)) .u .u .u) := by
    unfold gLCrowdRight_0
    exact set_vE (ev1v tb rfl r3) rfl rfl
  have hc := lconds_ok hq
  have src : gLCrowdRight_s1 (envC q m k (.d (.str K.shown)) .u .u .u) = .ok ((lcs q).map cndD) (envC q m k (.d (.str K.shown)) .u .u .u) := iseq_n (call_d1 (z := .n _) (evV rfl) rfl hc)
  obtain ⟨r', el, z4, z5, z6, h4, h5, h6, rfl⟩ := for_all (g := gLCrowdRight_t1) (body := gLCrowdRight_b1) (fun r => ∃ z4 z5 z6, Loc z4 ∧ Loc z5 ∧ Loc z6 ∧ r = envC q m k (.d (.str K.shown)) z4 z5 z6) ((lcs q).map cndD) (envC q m k (.d (.str K.shown)) .u .u .u) ⟨.u, .u, .u, .u, .u, .u, rfl⟩ (by
    rintro d hd r ⟨z4, z5, z6, h4, h5, h6, rfl⟩
    obtain ⟨c, hcm, rfl⟩ := List.mem_map.mp hd
    obtain ⟨z5', z6', h5', h6', e⟩ := crowd_b1 hq hk (m := m) (z3 := .d (.str K.shown)) h5 h6 (lcs_ok hq c hcm)
    exact ⟨[(4, cndD c)], _, rfl, h4.frees rfl, e, .d (cndD c), z5', z6', .d, h5', h6', rfl⟩)
  have s1 : gLCrowdRight_1 (envC q m k (.d (.str K.shown)) .u .u .u) = .ok .next (envC q m k (.d (.str K.shown)) z4 z5 z6) := (for_src src).trans el
  have ht : ∀ aid, MLTakers [.d (prD q), .d (bndD m), .d (crD k), .d (.int aid)] = _ := fun aid => takers_ok hq hk (m := m) (aid := aid)
  have cm := comp_map (own := [7]) (g := gNm 7) (f := eOp1 gTuple (eCall MLTakers [false, false, false, false] (aCons (eVar 0) (aCons (eVar 1) (aCons (eVar 2) (aCons (eVar 7) (aNil))))))) (w := fun d => match d with | .int i => .tuple ((tak q m k i).map .int) | d => d) (s := iSeq (eTup (aCons (eOp2 gIx (eVar 1) (eC (.int 2))) (aCons (eC (.int 0)) (aNil))))) (items := [.int m.2.2, .int 0])
    (r := envC q m k (.d (.str K.shown)) z4 z5 z6) (r0 := envC q m k (.d (.str K.shown)) z4 z5 z6)
    (iseq_t (tup_ (aC (ev2v (evV rfl) evC rfl rfl ix2) (aC evC aN)) rfl (show 2 ≤ few by decide))) (show 2 ≤ many by decide) rfl rfl (fun d hd => by
      obtain ⟨i, rfl⟩ : ∃ i : Int, d = .int i := by
        simp only [List.mem_cons, List.not_mem_nil, or_false] at hd
        rcases hd with rfl | rfl <;> exact ⟨_, rfl⟩
      refine ⟨[(7, .int i)], [.d (prD q), .d (bndD m), .d (crD k), .d (.str K.shown), z4, z5, z6, .d (.int i)], rfl, rfl, rfl, ev1v (call_d4n (evV rfl) (evV rfl) (evV rfl) (evV rfl) (ht i)) rfl gTuple_lst, rfl⟩)
  have s2 : gLCrowdRight_2 (envC q m k (.d (.str K.shown)) z4 z5 z6) = .ok .next (envC q m k (.d (.str K.shown)) z4 z5 (.l false [.tuple ((tak q m k m.2.2).map .int), .tuple ((tak q m k 0).map .int)])) := by
    unfold gLCrowdRight_2
    exact set_nE cm (h6.free rfl) rfl
  have c1 := can_take_ok hq hk (m := m)
  have c2 := urged_ok hq hk (m := m)
  have c3 := is_end_ok hq hk (m := m)
  have s3 : gLCrowdRight_3 (envC q m k (.d (.str K.shown)) z4 z5 (.l false [.tuple ((tak q m k m.2.2).map .int), .tuple ((tak q m k 0).map .int)])) = .ok .next (envC q m k (.d (.str K.shown)) z4 (.l false [.tuple ((tak q m k m.2.2).map .int), .tuple ((tak q m k 0).map .int)]) (.l false [.tuple ((tak q m k m.2.2).map .int), .tuple ((tak q m k 0).map .int)])) := by
    unfold gLCrowdRight_3
    exact set_nE (lst_ (aC (call_d3v (evV rfl) (evV rfl) (evV rfl) c1) (aC (call_d3v (evV rfl) (evV rfl) (evV rfl) c2) aN)) rfl (show 2 ≤ few by decide)) (h5.free rfl) rfl
  have gt : ∀ aid, Gv 251 1 100 (.tuple ((tak q m k aid).map .int)) := fun aid => (ints_gv (lo := 0) (hi := 100) (m := 8) (fun x hx => by
    obtain ⟨i, u, rfl, hu, _⟩ := sel_mem hx
    have := (List.getElem?_eq_some_iff.mp hu).1
    have := hq.rl
    omega) (by decide) (by decide) (Nat.le_trans (sel_len _ _) hq.rl) (by decide)).more (by decide) (Nat.le_refl _) (Nat.le_refl _)
  have rl := (gv_eachL (m := 2) (n := 1) (c := 100) (C := 300) (L := 251) (ys := [.tuple ((tak q m k m.2.2).map .int), .tuple ((tak q m k 0).map .int)]) (fun y hy => by
    simp only [List.mem_cons, List.not_mem_nil, or_false] at hy
    rcases hy with rfl | rfl <;> exact gt _) (Nat.le_refl _) (by decide)).repr' (by decide) (by decide) (by decide)
  have tk : gIx (.list [.tuple ((tak q m k m.2.2).map .int), .tuple ((tak q m k 0).map .int)]) (.int 1) = some (.v (.tuple ((tak q m k 0).map .int))) := ixl_nat (i := 1) rfl
  have ge : gEq (.tuple ((tak q m k 0).map .int)) (.tuple []) = some (.v (.bool (tak q m k 0).isEmpty)) := by
    rw [gEq_tup0', List.isEmpty_map]
  generalize hLL : [PyData.tuple ((tak q m k m.2.2).map .int), .tuple ((tak q m k 0).map .int)] = LL at s2 s3 rl tk
  have t1 := tb_ (ev2v (ev1v (evL (i := 5) (r := envC q m k (.d (.str K.shown)) z4 (.l false LL) (.l false LL)) rfl) rfl rl) (ev1v (evL (i := 6) rfl) rfl rl) rfl rfl (gNe_str _))
  have t2 := tb_ (ev2v (ev1v (tb (z3 := .d (.str K.shown)) (z4 := z4) (z5 := .l false LL) (z6 := .l false LL)) rfl r3) (evV (i := 3) rfl) rfl rfl (gNe_str _))
  have s4 : gLCrowdRight_4 (envC q m k (.d (.str K.shown)) z4 (.l false LL) (.l false LL)) = .ok .next (envC q m k (.d (.str K.shown)) z4 (.l false LL) (.l false LL)) := by
    unfold gLCrowdRight_4
    exact (ifF ((toF t1).trans t2)).trans rfl
  have rb := (gv_bool (L := 251) (n := 0) (c := 5) (Nat.le_refl _) (tak q m k 0).isEmpty).repr' (by decide) (by decide) (by decide)
  refine den_ret rfl (v := .v (.bool true)) (r := envC q m k (.d (.str K.shown)) z4 (.l false LL) (.l false LL)) ?_ rfl rfl
  show gLCrowdRight (envC q m k .u .u .u .u) = _
  unfold gLCrowdRight gLCrowdRight_5
  refine (seqN s0).trans ((seqN s1).trans ((seqN s2).trans ((seqN s3).trans ((seqN s4).trans (ret_ ?_)))))
  refine ev2v (ev1v (call_d3v (evV rfl) (evV rfl) (evV rfl) c3) rfl rb) (ev1v (ev2v (ev2v (evL rfl) evC rfl rfl tk) (tup_ aN rfl (by decide)) rfl rfl ge) rfl rb) rfl rfl ?_
  rw [gEq_pl rfl rfl (Nat.zero_le _)]
  show some (Rs.v (.bool (PyData.eqv (.str _) (.str _)))) = _
  show some (Rs.v (.bool (_ == _))) = _
  rw [beq_self_eq_true]
end PD.Lk03

/-! K03C: first crowds told rightly; the law. -/
namespace PD
open PySem PySem.Spec PyProof.Rows L2
theorem callP2n {M : List Arg → FO} {f f' : PEn → Out Val} {i : Nat} {q : Bool} {p p' : List PyData} {d d' : PyData} {w : PyData} {r r1 : PEn} (h0 : r[i]? = some (.l q p)) (hf : f r = .ok (.v d) r) (hf' : f' r = .ok (.v d') r) (hM : M [.l p, .d d, .d d'] = .ok (.v w) [.l p', .d d, .d d']) (he : r.set i (.l q p') = r1) :
    eCall M [true, false, false] (aCons (eVar i) (aCons f (aCons f' aNil))) r = .ok (.v w) r1 := by subst he; exact callP2 h0 hf hf' hM
theorem callP4 {M : List Arg → FO} {f f' f'' f3 : PEn → Out Val} {i : Nat} {q : Bool} {p p' : List PyData} {d d' d'' d3 w : PyData} {r r1 : PEn} (h0 : r[i]? = some (.l q p)) (hf : f r = .ok (.v d) r) (hf' : f' r = .ok (.v d') r) (hf'' : f'' r = .ok (.v d'') r) (hf3 : f3 r = .ok (.v d3) r)
    (hM : M [.l p, .d d, .d d', .d d'', .d d3] = .ok (.v w) [.l p', .d d, .d d', .d d'', .d d3]) (he : r.set i (.l q p') = r1) : eCall M [true, false, false, false, false] (aCons (eVar i) (aCons f (aCons f' (aCons f'' (aCons f3 aNil))))) r = .ok (.v w) r1 := by
  subst he
  unfold eCall
  rw [aC (evL h0) (aC hf (aC hf' (aC hf'' (aC hf3 aN))))]
  show callD M [true, false, false, false, false] [.b i, .v d, .v d', .v d'', .v d3] r = _
  simp only [callD, prep, prep1, h0, Val.fz, places, apart, List.contains_nil, Bool.not_false, Bool.and_true, if_true, argsOf, argOf, hM, okB, backs, upB_one h0, Rs.val]
theorem sub_ints {es : List PyData} {ns : List Int} (h : es.Sublist (ns.map .int)) : ∃ ks : List Int, es = ks.map .int ∧ ks.Sublist ns := by
  obtain ⟨is, hi, rfl⟩ := List.sublist_map_iff.mp h
  exact ⟨is, rfl, hi⟩
theorem gRev_tup (xs : List PyData) : gRev (.tuple xs) = some (.v (.tuple xs.reverse)) := rfl
end PD
namespace PD.Lk03
open PySem PySem.Spec PyProof.Rows L2
abbrev envF (p : List PyData) (q : Prt) (m : I3) (z3 z4 z5 z6 z8 z9 z10 z11 : Sl) : PEn := [.l true p, .d (prD q), .d (bndD m), z3, z4, z5, z6, .u, z8, z9, z10, z11]
theorem three_step {p : List PyData} {q : Prt} {m : I3} {z3 z4 z5 z6 z11 : Sl} {v o : List Int} (hv : ∀ x ∈ v, 0 ≤ x) (m' : I3) (h11 : Loc z11) : ∃ z11', Loc z11' ∧ gLFirstsRight_b6_b0_b0 (envF p q m z3 z4 z5 z6 (.d (.tuple (v.map .int))) (.d (.tuple (o.map .int))) (.d (bndD m')) z11) = .ok .next (envF p q m z3 z4 z5 z6 (.d (.tuple (v.map .int))) (.d (.tuple (o.map .int))) (.d (bndD m')) z11') := by
  have h1 := is_first_prog (q := q) (m := m') (emp := o) hv
  have h2 := is_first_law (q := q) (m := m') (emp := o) (cts := v)
  have rb := (gv_bool (L := 251) (n := 0) (c := 5) (Nat.le_refl _) (isF q.st o m' v)).repr' (by decide) (by decide) (by decide)
  refine ⟨.d (.bool (isF q.st o m' v)), .d, ?_⟩
  have s0 : gLFirstsRight_b6_b0_b0_0 (envF p q m z3 z4 z5 z6 (.d (.tuple (v.map .int))) (.d (.tuple (o.map .int))) (.d (bndD m')) z11) = .ok .next (envF p q m z3 z4 z5 z6 (.d (.tuple (v.map .int))) (.d (.tuple (o.map .int))) (.d (bndD m')) (.d (.bool (isF q.st o m' v)))) := by
    unfold gLFirstsRight_b6_b0_b0_0
    exact set_vE (call_d4v (evV rfl) (evV rfl) (evV rfl) (evV rfl) h1) (h11.free rfl) rfl
  have t := tb_ (ev2v (ev1v (evV (i := 11) (r := envF p q m z3 z4 z5 z6 (.d (.tuple (v.map .int))) (.d (.tuple (o.map .int))) (.d (bndD m')) (.d (.bool (isF q.st o m' v)))) rfl) rfl rb) (ev1v (call_d4v (evV (i := 1) rfl) (evV (i := 10) rfl) (evV (i := 9) rfl) (evV (i := 8) rfl) h2) rfl rb) rfl rfl (gNe_str _))
  unfold gLFirstsRight_b6_b0_b0 gLFirstsRight_b6_b0_b0_1
  exact (seqN s0).trans ((ifF t).trans rfl)
theorem threes_ok {p : List PyData} {q : Prt} {m : I3} {z3 z4 z5 z6 z10 z11 : Sl} {v o : List Int} (hv : ∀ x ∈ v, 0 ≤ x) (h10 : Loc z10) (h11 : Loc z11) : ∃ z10' z11', Loc z10' ∧ Loc z11' ∧ gLFirstsRight_b6_b0 (envF p q m z3 z4 z5 z6 (.d (.tuple (v.map .int))) (.d (.tuple (o.map .int))) z10 z11) = .ok .next (envF p q m z3 z4 z5 z6 (.d (.tuple (v.map .int))) (.d (.tuple (o.map .int))) z10' z11') := by
  have g2 : gAdd (.tuple [.int m.1, .int m.2.1]) (.tuple [.int (m.1 + 1)]) = some (.v (bndD (m.1, m.2.1, m.1 + 1))) := gAdd_tup (few1 (show 3 ≤ _ by decide))
  have g3 : gAdd (.tuple [.int (m.1 + 1)]) (.tuple [.int m.2.1, .int m.2.2]) = some (.v (bndD (m.1 + 1, m.2.1, m.2.2))) := gAdd_tup (few1 (show 3 ≤ _ by decide))
  have src : gLFirstsRight_b6_b0_s0 (envF p q m z3 z4 z5 z6 (.d (.tuple (v.map .int))) (.d (.tuple (o.map .int))) z10 z11) = .ok ([m, (m.1, m.2.1, m.1 + 1), (m.1 + 1, m.2.1, m.2.2)].map bndD) (envF p q m z3 z4 z5 z6 (.d (.tuple (v.map .int))) (.d (.tuple (o.map .int))) z10 z11) := by
    unfold gLFirstsRight_b6_b0_s0
    refine iseq_t (tup_ (aC (evV rfl) (aC (ev2v (sl_ (evV rfl) rfl (oy_ evC) (gSl_take _ 2)) (tup_ (aC (ev2v (ev2v (evV rfl) evC rfl rfl (ix0 _ _)) evC rfl rfl gAdd_int) aN) rfl (show 1 ≤ few by decide)) rfl rfl g2) (aC (ev2v (tup_ (aC (ev2v (ev2v (evV rfl) evC rfl rfl (ix0 _ _)) evC rfl rfl gAdd_int) aN) rfl (show 1 ≤ few by decide)) (sl_ (evV rfl) (oy_ evC) rfl (gSl_drop _ 1)) rfl rfl g3) aN))) rfl (show 3 ≤ few by decide))
  obtain ⟨r', el, z10', z11', h10', h11', rfl⟩ := for_all (g := gLFirstsRight_b6_b0_t0) (body := gLFirstsRight_b6_b0_b0) (fun r => ∃ z10 z11, Loc z10 ∧ Loc z11 ∧ r = envF p q m z3 z4 z5 z6 (.d (.tuple (v.map .int))) (.d (.tuple (o.map .int))) z10 z11) ([m, (m.1, m.2.1, m.1 + 1), (m.1 + 1, m.2.1, m.2.2)].map bndD) _ ⟨z10, z11, h10, h11, rfl⟩ (by
    rintro d hd r ⟨z10, z11, h10, h11, rfl⟩
    obtain ⟨m', _, rfl⟩ := List.mem_map.mp hd
    obtain ⟨z11', h11', e⟩ := three_step (p := p) (q := q) (m := m) (z3 := z3) (z4 := z4) (z5 := z5) (z6 := z6) (o := o) hv m' h11
    exact ⟨[(10, bndD m')], _, rfl, h10.frees rfl, e, .d (bndD m'), z11', .d, h11', rfl⟩)
  exact ⟨z10', z11', h10', h11', (for_src src).trans el⟩
theorem others_ok {p : List PyData} {q : Prt} {m : I3} {z3 z4 z5 z9 z10 z11 : Sl} {v emp : List Int} (hv : ∀ x ∈ v, 0 ≤ x) (h9 : Loc z9) (h10 : Loc z10) (h11 : Loc z11) : ∃ z9' z10' z11', Loc z9' ∧ Loc z10' ∧ Loc z11' ∧ gLFirstsRight_b6 (envF p q m z3 z4 z5 (.d (.tuple (emp.map .int))) (.d (.tuple (v.map .int))) z9 z10 z11) = .ok .next (envF p q m z3 z4 z5 (.d (.tuple (emp.map .int))) (.d (.tuple (v.map .int))) z9' z10' z11') := by
  have src : gLFirstsRight_b6_s0 (envF p q m z3 z4 z5 (.d (.tuple (emp.map .int))) (.d (.tuple (v.map .int))) z9 z10 z11) = .ok ([[], emp].map fun o => .tuple (o.map .int)) (envF p q m z3 z4 z5 (.d (.tuple (emp.map .int))) (.d (.tuple (v.map .int))) z9 z10 z11) := iseq_t (tup_ (aC (tup_ aN rfl (by decide)) (aC (evV rfl) aN)) rfl (show 2 ≤ few by decide))
  obtain ⟨r', el, z9', z10', z11', h9', h10', h11', rfl⟩ := for_all (g := gLFirstsRight_b6_t0) (body := gLFirstsRight_b6_b0) (fun r => ∃ z9 z10 z11, Loc z9 ∧ Loc z10 ∧ Loc z11 ∧ r = envF p q m z3 z4 z5 (.d (.tuple (emp.map .int))) (.d (.tuple (v.map .int))) z9 z10 z11) ([[], emp].map fun o => .tuple (o.map .int)) _ ⟨z9, z10, z11, h9, h10, h11, rfl⟩ (by
    rintro d hd r ⟨z9, z10, z11, h9, h10, h11, rfl⟩
    obtain ⟨o, _, rfl⟩ := List.mem_map.mp hd
    obtain ⟨z10', z11', h10', h11', e⟩ := threes_ok (p := p) (q := q) (m := m) (z3 := z3) (z4 := z4) (z5 := z5) (z6 := .d (.tuple (emp.map .int))) (o := o) hv h10 h11
    exact ⟨[(9, .tuple (o.map .int))], _, rfl, h9.frees rfl, e, .d (.tuple (o.map .int)), z10', z11', .d, h10', h11', rfl⟩)
  exact ⟨z9', z10', z11', h9', h10', h11', (for_src src).trans el⟩
theorem firsts_right {p : List PyData} (hp : PenL p) {q : Prt} (hq : PrOk q) {m : I3} (hm : (0 ≤ m.1 ∧ m.1 ≤ 2 ^ 200) ∧ (0 ≤ m.2.1 ∧ m.2.1 ≤ 3) ∧ (0 ≤ m.2.2 ∧ m.2.2 ≤ m.1)) : ∃ p', PenL p' ∧ MLFirstsRight [.l p, .d (prD q), .d (bndD m)] = .ok (.v (.bool true)) [.l p', .d (prD q), .d (bndD m)] := by
  obtain ⟨cts, p1, hp1, hcl, hc, _, e1⟩ := firsts_ok hp hq hm.2.2
  have hqm := hq.m
  have hqk := hq.k
  have s0 : gLFirstsRight_0 (envF p q m .u .u .u .u .u .u .u .u) = .ok .next (envF p1 q m (.d (.tuple (cts.map .int))) .u .u .u .u .u .u .u) := by
    unfold gLFirstsRight_0
    exact set_vE (callP2n (q := true) (p := p) rfl (evV rfl) (evV rfl) e1 rfl) rfl rfl
  have fc := first_crowd_ok hq cts
  have hk : CrOk q (2 ^ 200) ⟨cts, List.replicate q.kinds.toNat 0⟩ := ⟨hcl, by rw [List.length_replicate]; omega, fun x hx => by have := hc x hx; omega, fun x hx => by rw [List.eq_of_mem_replicate hx]; omega⟩
  have rk := (hk.gv hq (by decide)).repr' (by decide) (by decide) (by decide)
  have gz := gMul_zerosT (n := q.kinds) (by omega)
  have t1 := tb_ (ev2v (ev1v (call_d2v (evV (i := 1) (r := envF p1 q m (.d (.tuple (cts.map .int))) .u .u .u .u .u .u .u) rfl) (evV (i := 3) rfl) rfl rfl fc) rfl rk) (ev1v (tup_ (aC (evV (i := 3) rfl) (aC (ev2v (tup_ (aC evC aN) rfl (show 1 ≤ few by decide)) (ev2v (evV (i := 1) rfl) evC rfl rfl ix1) rfl rfl gz) aN)) rfl (show 2 ≤ few by decide)) rfl rk) rfl rfl (gNe_str _))
  have s1 : gLFirstsRight_1 (envF p1 q m (.d (.tuple (cts.map .int))) .u .u .u .u .u .u .u) = .ok .next (envF p1 q m (.d (.tuple (cts.map .int))) .u .u .u .u .u .u .u) := by
    unfold gLFirstsRight_1
    exact (ifF t1).trans rfl
  obtain ⟨a, p2, hp2, e2, a0, a1⟩ := draw_ok hp1 (b := (cts.length : Nat)) (by omega) (lg7 (by omega))
  have gl : gLen (.tuple (cts.map .int)) = some (.v (.int (cts.length : Nat))) := by rw [gLen_tup, List.length_map]
  have s2 : gLFirstsRight_2 (envF p1 q m (.d (.tuple (cts.map .int))) .u .u .u .u .u .u .u) = .ok .next (envF p2 q m (.d (.tuple (cts.map .int))) (.d (.int a)) .u .u .u .u .u .u) := by
    unfold gLFirstsRight_2
    exact set_vE (callQE (q := true) rfl (ev1v (evV rfl) rfl gl) rfl rfl e2 rfl) rfl rfl
  obtain ⟨an, rfl⟩ := Int.eq_ofNat_of_zero_le a0
  have ga := ixI (xs := cts) (i := (an : Int)) ⟨by omega, a1⟩
  have hat : ∀ x : Int, (cts.map PyData.int).take an ++ [.int x] ++ (cts.map PyData.int).drop (an + 1) = (cts.take an ++ [x] ++ cts.drop (an + 1)).map .int := fun x => by
    rw [List.map_append, List.map_append, List.map_take, List.map_drop]
    rfl
  have at1 : ∀ x : Int, MLAt [.d (.tuple (cts.map .int)), .d (.int (an : Nat)), .d (.int x)] = .ok (.v (.tuple ((cts.take an ++ [x] ++ cts.drop (an + 1)).map .int))) [.d (.tuple (cts.map .int)), .d (.int (an : Nat)), .d (.int x)] := fun x => by
    rw [← hat]
    exact at_ok _ an (.int x) (by rw [List.length_map]; omega)
  have vals : ∀ v ∈ [cts, cts.take an ++ [atL cts (an : Int) + 1] ++ cts.drop (an + 1), cts.reverse, cts.take an ++ [0] ++ cts.drop (an + 1)], ∀ x ∈ v, 0 ≤ x := fun v hv x hx => by
    have h0 : 0 ≤ atL cts (an : Int) := (hc _ (atL_mem ⟨by omega, a1⟩)).1
    simp only [List.mem_cons, List.not_mem_nil, or_false] at hv
    rcases hv with rfl | rfl | rfl | rfl
    · exact (hc x hx).1
    · simp only [List.mem_append, List.mem_singleton] at hx
      rcases hx with (h | rfl) | h
      · exact (hc x (List.mem_of_mem_take h)).1
      · omega
      · exact (hc x (List.mem_of_mem_drop h)).1
    · exact (hc x (List.mem_reverse.mp hx)).1
    · simp only [List.mem_append, List.mem_singleton] at hx
      rcases hx with (h | rfl) | h
      · exact (hc x (List.mem_of_mem_take h)).1
      · omega
      · exact (hc x (List.mem_of_mem_drop h)).1
  have gr : gRev (.tuple (cts.map .int)) = some (.v (.tuple (cts.reverse.map .int))) := by rw [gRev_tup, List.map_reverse]
  have s3 : gLFirstsRight_3 (envF p2 q m (.d (.tuple (cts.map .int))) (.d (.int (an : Nat))) .u .u .u .u .u .u) = .ok .next (envF p2 q m (.d (.tuple (cts.map .int))) (.d (.int (an : Nat))) (.l false ([cts, cts.take an ++ [atL cts (an : Int) + 1] ++ cts.drop (an + 1), cts.reverse, cts.take an ++ [0] ++ cts.drop (an + 1)].map fun v => .tuple (v.map .int))) .u .u .u .u .u) := by
    unfold gLFirstsRight_3
    exact set_nE (lst_ (aC (evV rfl) (aC (call_d3v (evV rfl) (evV rfl) (ev2v (ev2v (evV rfl) (evV rfl) rfl rfl ga) evC rfl rfl gAdd_int) (at1 _)) (aC (ev1v (evV rfl) rfl gr) (aC (call_d3v (evV rfl) (evV rfl) evC (at1 _)) aN)))) rfl (show 4 ≤ few by decide)) rfl rfl
  generalize hV : [cts, cts.take an ++ [atL cts (an : Int) + 1] ++ cts.drop (an + 1), cts.reverse, cts.take an ++ [0] ++ cts.drop (an + 1)] = V at vals s3
  obtain ⟨es, p3, hp3, hsub, ec⟩ := comp_envT (j := 7) (t := tBoo (eOp2 gEq (eCall MDraw [true, false] (aCons (eVar 0) (aCons (eC (.int 3)) (aNil)))) (eC (.int 0)))) (s := iSeq (eOp2 gIx (eVar 1) (eC (.int 2)))) (items := q.st.map .int)
    (env := fun p => envF p q m (.d (.tuple (cts.map .int))) (.d (.int (an : Nat))) (.l false (V.map fun v => .tuple (v.map .int))) .u .u .u .u .u) (fun p => iseq_t (ev2v (evV rfl) evC rfl rfl ix2)) (by rw [List.length_map]; exact few1 (by have := hq.sl; omega)) (fun _ => rfl) (fun _ _ => rfl) (fun _ _ => rfl) (fun _ _ => rfl) (fun p d _ hp => by
      obtain ⟨x, p', hp', ex, _, _⟩ := draw_ok hp (b := 3) (by decide) (by decide)
      refine ⟨decide (x = 0), p', hp', ?_⟩
      show tBoo _ [.l true p, .d (prD q), .d (bndD m), .d (.tuple (cts.map .int)), .d (.int (an : Nat)), .l false (V.map fun v => .tuple (v.map .int)), .u, .d d, .u, .u, .u, .u] = _
      get_elem_tactic_extensible) hp2
  obtain ⟨emp, rfl, hes⟩ := sub_ints hsub
  have s4 : gLFirstsRight_4 (envF p2 q m (.d (.tuple (cts.map .int))) (.d (.int (an : Nat))) (.l false (V.map fun v => .tuple (v.map .int))) .u .u .u .u .u) = .ok .next (envF p3 q m (.d (.tuple (cts.map .int))) (.d (.int (an : Nat))) (.l false (V.map fun v => .tuple (v.map .int))) (.l false (emp.map .int)) .u .u .u .u) := by
    unfold gLFirstsRight_4
    exact set_nE ec rfl rfl
  have gls : gLen (.tuple (q.st.map .int)) = some (.v (.int (q.st.length : Nat))) := by rw [gLen_tup, List.length_map]
  obtain ⟨emp2, hemp2, hes2⟩ := sub_ints (cut_sub (emp.map .int) none (some ((q.st.length : Nat) - 1 : Int)))
  have s5 : gLFirstsRight_5 (envF p3 q m (.d (.tuple (cts.map .int))) (.d (.int (an : Nat))) (.l false (V.map fun v => .tuple (v.map .int))) (.l false (emp.map .int)) .u .u .u .u) = .ok .next (envF p3 q m (.d (.tuple (cts.map .int))) (.d (.int (an : Nat))) (.l false (V.map fun v => .tuple (v.map .int))) (.d (.tuple (emp2.map .int))) .u .u .u .u) := by
    unfold gLFirstsRight_5
    exact set_vE (ev1v (sln_ (evL rfl) rfl rfl (oy_ (ev2v (ev1v (ev2v (evV rfl) evC rfl rfl ix2) rfl gls) evC rfl rfl gSub_int)) hemp2) rfl gTuple_lst) rfl rfl
  have src : gLFirstsRight_s6 (envF p3 q m (.d (.tuple (cts.map .int))) (.d (.int (an : Nat))) (.l false (V.map fun v => .tuple (v.map .int))) (.d (.tuple (emp2.map .int))) .u .u .u .u) = .ok (V.map fun v => .tuple (v.map .int)) (envF p3 q m (.d (.tuple (cts.map .int))) (.d (.int (an : Nat))) (.d (.list (V.map fun v => .tuple (v.map .int)))) (.d (.tuple (emp2.map .int))) .u .u .u .u) := rfl
  obtain ⟨r', el, z8, z9, z10, z11, _, _, _, _, rfl⟩ := for_all (g := gLFirstsRight_t6) (body := gLFirstsRight_b6) (fun r => ∃ z8 z9 z10 z11, Loc z8 ∧ Loc z9 ∧ Loc z10 ∧ Loc z11 ∧ r = envF p3 q m (.d (.tuple (cts.map .int))) (.d (.int (an : Nat))) (.d (.list (V.map fun v => .tuple (v.map .int)))) (.d (.tuple (emp2.map .int))) z8 z9 z10 z11) (V.map fun v => .tuple (v.map .int)) _ ⟨.u, .u, .u, .u, .u, .u, .u, .u, rfl⟩ (by
    rintro d hd r ⟨z8, z9, z10, z11, h8, h9, h10, h11, rfl⟩
    obtain ⟨v, hv, rfl⟩ := List.mem_map.mp hd
    obtain ⟨z9', z10', z11', h9', h10', h11', e⟩ := others_ok (p := p3) (q := q) (m := m) (z3 := .d (.tuple (cts.map .int))) (z4 := .d (.int (an : Nat))) (z5 := .d (.list (V.map fun v => .tuple (v.map .int)))) (emp := emp2) (vals v hv) h9 h10 h11
    exact ⟨[(8, .tuple (v.map .int))], _, rfl, h8.frees rfl, e, .d (.tuple (v.map .int)), z9', z10', z11', .d, h9', h10', h11', rfl⟩)
  have s6 := (for_src (g := gLFirstsRight_t6) (b := gLFirstsRight_b6) src).trans el
  refine ⟨p3, hp3, ?_⟩
  refine den_ret rfl (v := .v (.bool true)) (r := envF p3 q m (.d (.tuple (cts.map .int))) (.d (.int (an : Nat))) (.d (.list (V.map fun v => .tuple (v.map .int)))) (.d (.tuple (emp2.map .int))) z8 z9 z10 z11) ?_ rfl rfl
  show gLFirstsRight (envF p q m .u .u .u .u .u .u .u .u) = _
  unfold gLFirstsRight gLFirstsRight_7
  exact (seqN s0).trans ((seqN s1).trans ((seqN s2).trans ((seqN s3).trans ((seqN s4).trans ((seqN s5).trans ((seqN s6).trans (ret_ evC)))))))
end PD.Lk03

/-! K03E: the law. -/
namespace PD.Lk03
open PySem PySem.Spec PyProof.Rows L2
abbrev envL (S : PyData) (p : List PyData) (z2 z3 z4 z5 z6 z7 z8 z10 : Sl) : PEn := [.d S, .l false p, z2, z3, z4, z5, z6, z7, z8, .u, z10, .u]
theorem drawn {S : PyData} {p : List PyData} (hp : PenL p) {j : Nat} (hj : j = 9 ∨ j = 11) {b n : Int} (hb : 0 < b ∧ b ≤ 100) (hn : 0 ≤ n ∧ n ≤ 100) {z2 z3 z4 z5 z6 z7 z8 z10 : Sl} {f : PEn → Out Val} (hf : ∀ p, f (envL S p z2 z3 z4 z5 z6 z7 z8 z10) = .ok (.v (.int n)) (envL S p z2 z3 z4 z5 z6 z7 z8 z10)) : ∃ (xs : List Int) (p' : List PyData), PenL p' ∧ (xs.length : Int) = n ∧ (∀ x ∈ xs, 0 ≤ x ∧ x ≤ 100) ∧
    eComp (iRange1 f) [j] (gNm j) (tYesD) (eCall MDraw [true, false] (aCons (eVar 1) (aCons (eC (.int b)) (aNil)))) (envL S p z2 z3 z4 z5 z6 z7 z8 z10) = .ok (.n (xs.map .int)) (envL S p' z2 z3 z4 z5 z6 z7 z8 z10) := by
  have hnm : n.toNat ≤ many := few1 (by omega)
  obtain ⟨ws, p', hp', hl, hall, e⟩ := comp_env (j := j) (f := eCall MDraw [true, false] (aCons (eVar 1) (aCons (eC (.int b)) (aNil)))) (s := iRange1 f) (env := fun p => envL S p z2 z3 z4 z5 z6 z7 z8 z10) (items := rangeD 0 n.toNat) (Pr := fun d => ∃ x : Int, d = .int x ∧ 0 ≤ x ∧ x ≤ 100) (fun p => rng_ (hf p) hn.1 (by omega)) (by rw [rangeD_len]; exact hnm) (by intro p; rcases hj with rfl | rfl <;> rfl) (by intro p p'; rcases hj with rfl | rfl <;> rfl) (fun p d _ hp => by
    obtain ⟨x, p', hp', ex, x0, x1⟩ := draw_ok hp (b := b) hb.1 (lg7 (by omega))
    rcases hj with rfl | rfl
    · exact ⟨.int x, p', hp', ⟨x, rfl, x0, by omega⟩, _, callQE (q := false) (p := p) rfl evC rfl rfl ex rfl, rfl⟩
    · exact ⟨.int x, p', hp', ⟨x, rfl, x0, by omega⟩, _, callQE (q := false) (p := p) rfl evC rfl rfl ex rfl, rfl⟩) hp
  rw [rangeD_len] at hl
  obtain ⟨xs, rfl, hx⟩ : ∃ xs : List Int, ws = xs.map .int ∧ ∀ x ∈ xs, 0 ≤ x ∧ x ≤ 100 := by
    clear e hl
    induction ws with
    | nil => exact ⟨[], rfl, fun _ h => (nomatch h)⟩
    | cons w ws ih =>
      obtain ⟨xs, rfl, hx⟩ := ih fun e he => hall e (List.mem_cons_of_mem _ he)
      obtain ⟨x, rfl, hx0⟩ := hall w List.mem_cons_self
      refine ⟨x :: xs, rfl, fun y hy => ?_⟩
      rcases List.mem_cons.mp hy with rfl | hy
      · exact hx0
      · exact hx y hy
  rw [List.length_map] at hl
  exact ⟨xs, p', hp', by omega, hx, e⟩
theorem par_vv {fs : PEn → Out (List Val)} {i j : Nat} {d e : PyData} {r r1 r2 : PEn} (h : fs r = .ok [.v d, .v e] r1) (hi : free r1 i = true) (hj : free (r1.set i (.d d)) j = true) (he : (r1.set i (.d d)).set j (.d e) = r2) : sPar [i, j] fs r = .ok .next r2 := par_E h hi hj he
theorem turn_ok {S : PyData} {p : List PyData} (hp : PenL p) {z2 z3 z4 z5 z6 z7 z8 z10 : Sl} (h3 : Loc z3) (h4 : Loc z4) (h5 : Loc z5) (h6 : Loc z6) (h7 : Loc z7) (h8 : Loc z8) (h10 : Loc z10) : ∃ (p' : List PyData) (z3' z4' z5' z6' z7' z8' z10' : Sl), PenL p' ∧ Loc z3' ∧ Loc z4' ∧ Loc z5' ∧ Loc z6' ∧ Loc z7' ∧ Loc z8' ∧ Loc z10' ∧
    gPLaw_b1 (envL S p z2 z3 z4 z5 z6 z7 z8 z10) = .ok .next (envL S p' z2 z3' z4' z5' z6' z7' z8' z10') := by
  obtain ⟨q, p1, hp1, hq, e1⟩ := draw_pr hp (most := 5) (size := 8) (by decide) (by decide)
  obtain ⟨m, p2, hp2, hm1, hm2, hm3, e2⟩ := numbers_ok hp1 (most := 12) (by decide) (by decide)
  have hqm := hq.m
  have hqk := hq.k
  have hN : NumOk m := ⟨by omega, by omega, by omega, by omega, by omega, by omega⟩
  have s0 : gPLaw_b1_0 (envL S p z2 z3 z4 z5 z6 z7 z8 z10) = .ok .next (envL S p2 z2 (.d (prD q)) (.d (bndD m)) z5 z6 z7 z8 z10) := by
    unfold gPLaw_b1_0
    exact par_vv (aC (callP2n (q := false) (p := p) rfl evC evC e1 rfl) (aC (callQE (q := false) rfl evC rfl rfl e2 rfl) aN)) (h3.free rfl) (h4.free rfl) rfl
  obtain ⟨p3, hp3, e3⟩ := firsts_right hp2 hq (m := m) ⟨⟨hm1.1, by omega⟩, hm2, hm3⟩
  have t1 := tn_ (tt_ (callP2n (q := false) (p := p2) (i := 1) (r := envL S p2 z2 (.d (prD q)) (.d (bndD m)) z5 z6 z7 z8 z10) rfl (evV (i := 3) rfl) (evV (i := 4) rfl) e3 rfl) rfl truth_bool)
  have s1 : gPLaw_b1_1 (envL S p2 z2 (.d (prD q)) (.d (bndD m)) z5 z6 z7 z8 z10) = .ok .next (envL S p3 z2 (.d (prD q)) (.d (bndD m)) z5 z6 z7 z8 z10) := by
    unfold gPLaw_b1_1
    exact (ifF t1).trans rfl
  obtain ⟨cts, p4, hp4, hcl, hc, _, e4⟩ := firsts_ok hp3 hq hm3
  have s2 : gPLaw_b1_2 (envL S p3 z2 (.d (prD q)) (.d (bndD m)) z5 z6 z7 z8 z10) = .ok .next (envL S p4 z2 (.d (prD q)) (.d (bndD m)) (.d (.tuple (cts.map .int))) z6 z7 z8 z10) := by
    unfold gPLaw_b1_2
    exact set_vE (callP2n (q := false) (p := p3) rfl (evV rfl) (evV rfl) e4 rfl) (h5.free rfl) rfl
  have hk0 : CrOk q 12 ⟨cts, List.replicate q.kinds.toNat 0⟩ := ⟨hcl, by rw [List.length_replicate]; omega, fun x hx => by have := hc x hx; omega, fun x hx => by rw [List.eq_of_mem_replicate hx]; omega⟩
  have gz := gMul_zerosT (n := q.kinds) (by omega)
  have s3 : gPLaw_b1_3 (envL S p4 z2 (.d (prD q)) (.d (bndD m)) (.d (.tuple (cts.map .int))) z6 z7 z8 z10) = .ok .next (envL S p4 z2 (.d (prD q)) (.d (bndD m)) (.d (.tuple (cts.map .int))) (.d (crD ⟨cts, List.replicate q.kinds.toNat 0⟩)) z7 z8 z10) := by
    unfold gPLaw_b1_3
    exact set_vE (tup_ (aC (evV rfl) (aC (ev2v (tup_ (aC evC aN) rfl (show 1 ≤ few by decide)) (ev2v (evV rfl) evC rfl rfl ix1) rfl rfl gz) aN)) rfl (show 2 ≤ few by decide)) (h6.free rfl) rfl
  have cnt : gPLaw_b1_s4 (envL S p4 z2 (.d (prD q)) (.d (bndD m)) (.d (.tuple (cts.map .int))) (.d (crD ⟨cts, List.replicate q.kinds.toNat 0⟩)) z7 z8 z10) = .ok (rangeD 0 (4 : Int).toNat) (envL S p4 z2 (.d (prD q)) (.d (bndD m)) (.d (.tuple (cts.map .int))) (.d (crD ⟨cts, List.replicate q.kinds.toNat 0⟩)) z7 z8 z10) := rng_ evC (by decide) (by decide)
  obtain ⟨r', el, p5, k, z7', hp5, _, _, rfl⟩ := for_inv (g := gPLaw_b1_t4) (body := gPLaw_b1_b4) (fun i r => ∃ (p : List PyData) (k : Crw) (z7 : Sl), PenL p ∧ CrOk q (27 ^ i * 12) k ∧ Loc z7 ∧ r = envL S p z2 (.d (prD q)) (.d (bndD m)) (.d (.tuple (cts.map .int))) (.d (crD k)) z7 z8 z10) (rangeD 0 (4 : Int).toNat) 0 _ ⟨p4, _, z7, hp4, hk0.more (by decide), h7, rfl⟩ (by
    rintro i d r hi ⟨p, k, z7, hp, hk, h7, rfl⟩
    have hi2 := (at_rangeD hi).1
    rw [Nat.zero_add] at hk ⊢
    have hb : (27 : Int) ^ i * 12 ≤ 2 ^ 200 := by
      have hi4 : i < 4 := hi2
      have : ∀ j : Fin 4, (27 : Int) ^ j.val * 12 ≤ 2 ^ 200 := by decide
      exact this ⟨i, hi4⟩
    have hB0 : (0 : Int) ≤ 27 ^ i * 12 := Int.mul_nonneg (Int.le_of_lt (Int.pow_pos (by decide))) (by decide)
    have ec := crowd_right hq hN hk (by omega)
    obtain ⟨run, k', p', hp', hr, hrl, er⟩ := run_ok hp hq (m := m) hk hb (most := 3) (by decide)
    have hk' := hr.ok hq hk
    have t := tn_ (tt_ (call_d3v (evV (i := 3) (r := envL S p z2 (.d (prD q)) (.d (bndD m)) (.d (.tuple (cts.map .int))) (.d (crD k)) (.d d) z8 z10) rfl) (evV (i := 4) rfl) (evV (i := 6) rfl) ec) rfl truth_bool)
    have a0 : gPLaw_b1_b4_0 (envL S p z2 (.d (prD q)) (.d (bndD m)) (.d (.tuple (cts.map .int))) (.d (crD k)) (.d d) z8 z10) = .ok .next (envL S p z2 (.d (prD q)) (.d (bndD m)) (.d (.tuple (cts.map .int))) (.d (crD k)) (.d d) z8 z10) := by
      unfold gPLaw_b1_b4_0
      exact (ifF t).trans rfl
    refine ⟨[(7, d)], envL S p' z2 (.d (prD q)) (.d (bndD m)) (.d (.tuple (cts.map .int))) (.d (crD k')) (.d d) z8 z10, rfl, h7.frees rfl, .inl ?_, p', k', .d d, hp', ?_, .d, rfl⟩
    · show gPLaw_b1_b4 (envL S p z2 (.d (prD q)) (.d (bndD m)) (.d (.tuple (cts.map .int))) (.d (crD k)) (.d d) z8 z10) = _
      unfold gPLaw_b1_b4 gPLaw_b1_b4_1
      exact (seqN a0).trans (set_vE (ev2v (callP4 (q := false) (p := p) rfl (evV rfl) (evV rfl) (evV rfl) evC er rfl) evC rfl rfl ix1) rfl rfl)
    · refine hk'.more ?_
      have h3 : (3 : Int) ^ run.length ≤ 27 := by
        have : ∀ j : Fin 4, (3 : Int) ^ j.val ≤ 27 := by decide
        exact this ⟨run.length, by omega⟩
      have := Int.mul_le_mul_of_nonneg_right h3 hB0
      rw [Int.pow_succ, Int.mul_comm _ 27, Int.mul_assoc]
      exact this)
  have s4 := (for_src (g := gPLaw_b1_t4) (b := gPLaw_b1_b4) cnt).trans el
  obtain ⟨xs, p6, hp6, hxl, hx, e6⟩ := drawn (S := S) hp5 (j := 9) (.inl rfl) (b := 5) (by decide) (n := q.many) (by omega) (z2 := z2) (z3 := .d (prD q)) (z4 := .d (bndD m)) (z5 := .d (.tuple (cts.map .int))) (z6 := .d (crD k)) (z7 := z7') (z8 := z8) (z10 := z10) (f := eOp2 gIx (eVar 3) (eC (.int 0))) (fun p => ev2v (evV rfl) evC rfl rfl (ix0 _ _))
  have s5 : gPLaw_b1_5 (envL S p5 z2 (.d (prD q)) (.d (bndD m)) (.d (.tuple (cts.map .int))) (.d (crD k)) z7' z8 z10) = .ok .next (envL S p6 z2 (.d (prD q)) (.d (bndD m)) (.d (.tuple (cts.map .int))) (.d (crD k)) z7' (.d (.tuple (xs.map .int))) z10) := by
    unfold gPLaw_b1_5
    exact set_vE (ev1v e6 rfl gTuple_lst) (h8.free rfl) rfl
  obtain ⟨ys, p7, hp7, hyl, hy, e7⟩ := drawn (S := S) hp6 (j := 11) (.inr rfl) (b := 9) (by decide) (n := q.kinds) (by omega) (z2 := z2) (z3 := .d (prD q)) (z4 := .d (bndD m)) (z5 := .d (.tuple (cts.map .int))) (z6 := .d (crD k)) (z7 := z7') (z8 := .d (.tuple (xs.map .int))) (z10 := z10) (f := eOp2 gIx (eVar 3) (eC (.int 1))) (fun p => ev2v (evV rfl) evC rfl rfl ix1)
  have s6 : gPLaw_b1_6 (envL S p6 z2 (.d (prD q)) (.d (bndD m)) (.d (.tuple (cts.map .int))) (.d (crD k)) z7' (.d (.tuple (xs.map .int))) z10) = .ok .next (envL S p7 z2 (.d (prD q)) (.d (bndD m)) (.d (.tuple (cts.map .int))) (.d (crD k)) z7' (.d (.tuple (xs.map .int))) (.d (.tuple (ys.map .int)))) := by
    unfold gPLaw_b1_6
    exact set_vE (ev1v e7 rfl gTuple_lst) (h10.free rfl) rfl
  have hkd : CrOk q 100 ⟨xs, ys⟩ := ⟨hxl, hyl, hx, hy⟩
  have ecd := crowd_right hq hN hkd (by decide)
  have t7 := tn_ (tt_ (call_d3v (evV (i := 3) (r := envL S p7 z2 (.d (prD q)) (.d (bndD m)) (.d (.tuple (cts.map .int))) (.d (crD k)) z7' (.d (.tuple (xs.map .int))) (.d (.tuple (ys.map .int)))) rfl) (evV (i := 4) rfl) (tup_ (aC (evV (i := 8) rfl) (aC (evV (i := 10) rfl) aN)) rfl (show 2 ≤ few by decide)) ecd) rfl truth_bool)
  refine ⟨p7, _, _, _, _, z7', _, _, hp7, .d (d := prD q), .d (d := bndD m), .d (d := .tuple (cts.map .int)), .d (d := crD k), ‹_›, .d (d := .tuple (xs.map .int)), .d (d := .tuple (ys.map .int)), ?_⟩
  unfold gPLaw_b1 gPLaw_b1_7
  exact (seqN s0).trans ((seqN s1).trans ((seqN s2).trans ((seqN s3).trans ((seqN s4).trans ((seqN s5).trans ((seqN s6).trans ((ifF t7).trans rfl)))))))
theorem law_eq : M_law = MPLaw := rfl
theorem plain : ∀ ns : List Int, ns.length ≤ 63 → M_law [.d (.list (ns.map .int))] = .ok (.v (.bool true)) [.d (.list (ns.map .int))] := by
  intro ns hns
  rw [law_eq]
  obtain ⟨p, hp, e⟩ := pen_ok (ns := ns)
  have s0 : gPLaw_0 [.d (.list (ns.map .int)), .u, .u, .u, .u, .u, .u, .u, .u, .u, .u, .u] = .ok .next (envL (.list (ns.map .int)) p .u .u .u .u .u .u .u .u) := set_nE (call_d1 (z := .n _) (evV rfl) rfl e) rfl rfl
  have cnt : gPLaw_s1 (envL (.list (ns.map .int)) p .u .u .u .u .u .u .u .u) = .ok (rangeD 0 (5 : Int).toNat) (envL (.list (ns.map .int)) p .u .u .u .u .u .u .u .u) := rng_ evC (by decide) (by decide)
  obtain ⟨r', el, p', z2, z3, z4, z5, z6, z7, z8, z10, hp', _, _, _, _, _, _, _, _, rfl⟩ := for_all (g := gPLaw_t1) (body := gPLaw_b1) (fun r => ∃ p z2 z3 z4 z5 z6 z7 z8 z10, PenL p ∧ Loc z2 ∧ Loc z3 ∧ Loc z4 ∧ Loc z5 ∧ Loc z6 ∧ Loc z7 ∧ Loc z8 ∧ Loc z10 ∧ r = envL (.list (ns.map .int)) p z2 z3 z4 z5 z6 z7 z8 z10) (rangeD 0 (5 : Int).toNat) _ ⟨p, .u, .u, .u, .u, .u, .u, .u, .u, hp, .u, .u, .u, .u, .u, .u, .u, .u, rfl⟩ (by
    rintro d hd r ⟨p, z2, z3, z4, z5, z6, z7, z8, z10, hp, h2, h3, h4, h5, h6, h7, h8, h10, rfl⟩
    obtain ⟨p', z3', z4', z5', z6', z7', z8', z10', hp', h3', h4', h5', h6', h7', h8', h10', e⟩ := turn_ok (S := .list (ns.map .int)) hp (z2 := .d d) h3 h4 h5 h6 h7 h8 h10
    exact ⟨[(2, d)], _, rfl, h2.frees rfl, e, p', .d d, z3', z4', z5', z6', z7', z8', z10', hp', .d, h3', h4', h5', h6', h7', h8', h10', rfl⟩)
  have s1 := (for_src (g := gPLaw_t1) (b := gPLaw_b1) cnt).trans el
  refine den_ret rfl (v := .v (.bool true)) (r := envL (.list (ns.map .int)) p' z2 z3 z4 z5 z6 z7 z8 z10) ?_ rfl rfl
  show gPLaw [.d (.list (ns.map .int)), .u, .u, .u, .u, .u, .u, .u, .u, .u, .u, .u] = _
  unfold gPLaw gPLaw_2
  exact (seqN s0).trans ((seqN s1).trans (ret_ evC))
end PD.Lk03

namespace PD.Lk03
open PySem PySem.Spec PyProof.Rows L2
theorem all_mk {l : PySem.W.OpenLaw} {w : World} {K : PySem.W.Frag} {h : Heap} {mg : Str → Option Value} {fa f0 f1 f2 f3 f4 f5 f6 f7 f8 f9 f10 f11 f12 f13 f14 f15 f16 f17 f18 f19 f20 f21 f22 f23 f24 f25 f26 f27 f28 f29 f30 f31 : Addr} (X : K.In h) (G : h.Ns mainGlobals mg) (hfa : mg "law" = some (.ref fa))
    {od0 an0 od1 an1 od2 an2 od3 an3 od4 an4 od5 an5 od6 an6 od7 an7 od8 an8 od9 an9 od10 an10 od11 an11 od12 an12 od13 an13 od14 an14 od15 an15 od16 an16 od17 an17 od18 an18 od19 an19 od20 an20 od21 an21 od22 an22 od23 an23 od24 an24 od25 an25 od26 an26 od27 an27 od28 an28 od29 an29 od30 an30 od31 an31 : Option Addr} {sl0 sl1 sl2 sl3 sl4 sl5 sl6 sl7 sl8 sl9 sl10 sl11 sl12 sl13 sl14 sl15 sl16 sl17 sl18 sl19 sl20 sl21 sl22 sl23 sl24 sl25 sl26 sl27 sl28 sl29 sl30 sl31 : Array (Option Value)} {oc0 kV0 dc0 pm0 cd0 ct0 oc1 kV1 dc1 pm1 cd1 ct1 oc2 kV2 dc2 pm2 cd2 ct2 oc3 kV3 dc3 pm3 cd3 ct3 oc4 kV4 dc4 pm4 cd4 ct4 oc5 kV5 dc5 pm5 cd5 ct5 oc6 kV6 dc6 pm6 cd6 ct6 oc7 kV7 dc7 pm7 cd7 ct7 oc8 kV8 dc8 pm8 cd8 ct8 oc9 kV9 dc9 pm9 cd9 ct9 oc10 kV10 dc10 pm10 cd10 ct10 oc11 kV11 dc11 pm11 cd11 ct11 oc12 kV12 dc12 pm12 cd12 ct12 oc13 kV13 dc13 pm13 cd13 ct13 oc14 kV14 dc14 pm14 cd14 ct14 oc15 kV15 dc15 pm15 cd15 ct15 oc16 kV16 dc16 pm16 cd16 ct16 oc17 kV17 dc17 pm17 cd17 ct17 oc18 kV18 dc18 pm18 cd18 ct18 oc19 kV19 dc19 pm19 cd19 ct19 oc20 kV20 dc20 pm20 cd20 ct20 oc21 kV21 dc21 pm21 cd21 ct21 oc22 kV22 dc22 pm22 cd22 ct22 oc23 kV23 dc23 pm23 cd23 ct23 oc24 kV24 dc24 pm24 cd24 ct24 oc25 kV25 dc25 pm25 cd25 ct25 oc26 kV26 dc26 pm26 cd26 ct26 oc27 kV27 dc27 pm27 cd27 ct27 oc28 kV28 dc28 pm28 cd28 ct28 oc29 kV29 dc29 pm29 cd29 ct29 oc30 kV30 dc30 pm30 cd30 ct30 oc31 kV31 dc31 pm31 cd31 ct31 : Value}
    (a0 : PySem.W.nsIn K mainGlobals "bound_value" = some (some (.ref f0))) (l0 : K.lookup f0 = some ⟨oc0, od0, .func (PySem.W.fnOf "bound_value" "bound_value" (defArgs st_bound_value) (defBody st_bound_value) (defScope st_bound_value) .none kV0 dc0 pm0 an0 cd0 ct0), sl0⟩) (c0 : PySem.W.codeIn K cd0 "bound_value" = true) (k0 : PySem.W.keepIn K (.ref f0) = true)
    (a1 : PySem.W.nsIn K mainGlobals "first_crowd" = some (some (.ref f1))) (l1 : K.lookup f1 = some ⟨oc1, od1, .func (PySem.W.fnOf "first_crowd" "first_crowd" (defArgs st_first_crowd) (defBody st_first_crowd) (defScope st_first_crowd) .none kV1 dc1 pm1 an1 cd1 ct1), sl1⟩) (c1 : PySem.W.codeIn K cd1 "first_crowd" = true) (k1 : PySem.W.keepIn K (.ref f1) = true)
    (a2 : PySem.W.nsIn K mainGlobals "is_first" = some (some (.ref f2))) (l2 : K.lookup f2 = some ⟨oc2, od2, .func (PySem.W.fnOf "is_first" "is_first" (defArgs st_is_first) (defBody st_is_first) (defScope st_is_first) .none kV2 dc2 pm2 an2 cd2 ct2), sl2⟩) (c2 : PySem.W.codeIn K cd2 "is_first" = true) (k2 : PySem.W.keepIn K (.ref f2) = true)
    (a3 : PySem.W.nsIn K mainGlobals "hears" = some (some (.ref f3))) (l3 : K.lookup f3 = some ⟨oc3, od3, .func (PySem.W.fnOf "hears" "hears" (defArgs st_hears) (defBody st_hears) (defScope st_hears) .none kV3 dc3 pm3 an3 cd3 ct3), sl3⟩) (c3 : PySem.W.codeIn K cd3 "hears" = true) (k3 : PySem.W.keepIn K (.ref f3) = true)
    (a4 : PySem.W.nsIn K mainGlobals "can_hear" = some (some (.ref f4))) (l4 : K.lookup f4 = some ⟨oc4, od4, .func (PySem.W.fnOf "can_hear" "can_hear" (defArgs st_can_hear) (defBody st_can_hear) (defScope st_can_hear) .none kV4 dc4 pm4 an4 cd4 ct4), sl4⟩) (c4 : PySem.W.codeIn K cd4 "can_hear" = true) (k4 : PySem.W.keepIn K (.ref f4) = true)
    (a5 : PySem.W.nsIn K mainGlobals "can_take" = some (some (.ref f5))) (l5 : K.lookup f5 = some ⟨oc5, od5, .func (PySem.W.fnOf "can_take" "can_take" (defArgs st_can_take) (defBody st_can_take) (defScope st_can_take) .none kV5 dc5 pm5 an5 cd5 ct5), sl5⟩) (c5 : PySem.W.codeIn K cd5 "can_take" = true) (k5 : PySem.W.keepIn K (.ref f5) = true)
    (a6 : PySem.W.nsIn K mainGlobals "urged" = some (some (.ref f6))) (l6 : K.lookup f6 = some ⟨oc6, od6, .func (PySem.W.fnOf "urged" "urged" (defArgs st_urged) (defBody st_urged) (defScope st_urged) .none kV6 dc6 pm6 an6 cd6 ct6), sl6⟩) (c6 : PySem.W.codeIn K cd6 "urged" = true) (k6 : PySem.W.keepIn K (.ref f6) = true)
    (a7 : PySem.W.nsIn K mainGlobals "is_end" = some (some (.ref f7))) (l7 : K.lookup f7 = some ⟨oc7, od7, .func (PySem.W.fnOf "is_end" "is_end" (defArgs st_is_end) (defBody st_is_end) (defScope st_is_end) .none kV7 dc7 pm7 an7 cd7 ct7), sl7⟩) (c7 : PySem.W.codeIn K cd7 "is_end" = true) (k7 : PySem.W.keepIn K (.ref f7) = true)
    (a8 : PySem.W.nsIn K mainGlobals "_law_pen" = some (some (.ref f8))) (l8 : K.lookup f8 = some ⟨oc8, od8, .func (PySem.W.fnOf "_law_pen" "_law_pen" (defArgs st__law_pen) (defBody st__law_pen) (defScope st__law_pen) .none kV8 dc8 pm8 an8 cd8 ct8), sl8⟩) (c8 : PySem.W.codeIn K cd8 "_law_pen" = true) (k8 : PySem.W.keepIn K (.ref f8) = true)
    (a9 : PySem.W.nsIn K mainGlobals "_law_fresh" = some (some (.ref f9))) (l9 : K.lookup f9 = some ⟨oc9, od9, .func (PySem.W.fnOf "_law_fresh" "_law_fresh" (defArgs st__law_fresh) (defBody st__law_fresh) (defScope st__law_fresh) .none kV9 dc9 pm9 an9 cd9 ct9), sl9⟩) (c9 : PySem.W.codeIn K cd9 "_law_fresh" = true) (k9 : PySem.W.keepIn K (.ref f9) = true)
    (a10 : PySem.W.nsIn K mainGlobals "_law_draw" = some (some (.ref f10))) (l10 : K.lookup f10 = some ⟨oc10, od10, .func (PySem.W.fnOf "_law_draw" "_law_draw" (defArgs st__law_draw) (defBody st__law_draw) (defScope st__law_draw) .none kV10 dc10 pm10 an10 cd10 ct10), sl10⟩) (c10 : PySem.W.codeIn K cd10 "_law_draw" = true) (k10 : PySem.W.keepIn K (.ref f10) = true)
    (a11 : PySem.W.nsIn K mainGlobals "_law_one_of" = some (some (.ref f11))) (l11 : K.lookup f11 = some ⟨oc11, od11, .func (PySem.W.fnOf "_law_one_of" "_law_one_of" (defArgs st__law_one_of) (defBody st__law_one_of) (defScope st__law_one_of) .none kV11 dc11 pm11 an11 cd11 ct11), sl11⟩) (c11 : PySem.W.codeIn K cd11 "_law_one_of" = true) (k11 : PySem.W.keepIn K (.ref f11) = true)
    (a12 : PySem.W.nsIn K mainGlobals "_law_bound" = some (some (.ref f12))) (l12 : K.lookup f12 = some ⟨oc12, od12, .func (PySem.W.fnOf "_law_bound" "_law_bound" (defArgs st__law_bound) (defBody st__law_bound) (defScope st__law_bound) .none kV12 dc12 pm12 an12 cd12 ct12), sl12⟩) (c12 : PySem.W.codeIn K cd12 "_law_bound" = true) (k12 : PySem.W.keepIn K (.ref f12) = true)
    (a13 : PySem.W.nsIn K mainGlobals "_law_some_conditions" = some (some (.ref f13))) (l13 : K.lookup f13 = some ⟨oc13, od13, .func (PySem.W.fnOf "_law_some_conditions" "_law_some_conditions" (defArgs st__law_some_conditions) (defBody st__law_some_conditions) (defScope st__law_some_conditions) .none kV13 dc13 pm13 an13 cd13 ct13), sl13⟩) (c13 : PySem.W.codeIn K cd13 "_law_some_conditions" = true) (k13 : PySem.W.keepIn K (.ref f13) = true)
    (a14 : PySem.W.nsIn K mainGlobals "_law_sent_most" = some (some (.ref f14))) (l14 : K.lookup f14 = some ⟨oc14, od14, .func (PySem.W.fnOf "_law_sent_most" "_law_sent_most" (defArgs st__law_sent_most) (defBody st__law_sent_most) (defScope st__law_sent_most) .none kV14 dc14 pm14 an14 cd14 ct14), sl14⟩) (c14 : PySem.W.codeIn K cd14 "_law_sent_most" = true) (k14 : PySem.W.keepIn K (.ref f14) = true)
    (a15 : PySem.W.nsIn K mainGlobals "_law_rule" = some (some (.ref f15))) (l15 : K.lookup f15 = some ⟨oc15, od15, .func (PySem.W.fnOf "_law_rule" "_law_rule" (defArgs st__law_rule) (defBody st__law_rule) (defScope st__law_rule) .none kV15 dc15 pm15 an15 cd15 ct15), sl15⟩) (c15 : PySem.W.codeIn K cd15 "_law_rule" = true) (k15 : PySem.W.keepIn K (.ref f15) = true)
    (a16 : PySem.W.nsIn K mainGlobals "_law_protocol" = some (some (.ref f16))) (l16 : K.lookup f16 = some ⟨oc16, od16, .func (PySem.W.fnOf "_law_protocol" "_law_protocol" (defArgs st__law_protocol) (defBody st__law_protocol) (defScope st__law_protocol) .none kV16 dc16 pm16 an16 cd16 ct16), sl16⟩) (c16 : PySem.W.codeIn K cd16 "_law_protocol" = true) (k16 : PySem.W.keepIn K (.ref f16) = true)
    (a17 : PySem.W.nsIn K mainGlobals "_law_broadcast" = some (some (.ref f17))) (l17 : K.lookup f17 = some ⟨oc17, od17, .func (PySem.W.fnOf "_law_broadcast" "_law_broadcast" (defArgs st__law_broadcast) (defBody st__law_broadcast) (defScope st__law_broadcast) .none kV17 dc17 pm17 an17 cd17 ct17), sl17⟩) (c17 : PySem.W.codeIn K cd17 "_law_broadcast" = true) (k17 : PySem.W.keepIn K (.ref f17) = true)
    (a18 : PySem.W.nsIn K mainGlobals "_law_some_protocol" = some (some (.ref f18))) (l18 : K.lookup f18 = some ⟨oc18, od18, .func (PySem.W.fnOf "_law_some_protocol" "_law_some_protocol" (defArgs st__law_some_protocol) (defBody st__law_some_protocol) (defScope st__law_some_protocol) .none kV18 dc18 pm18 an18 cd18 ct18), sl18⟩) (c18 : PySem.W.codeIn K cd18 "_law_some_protocol" = true) (k18 : PySem.W.keepIn K (.ref f18) = true)
    (a19 : PySem.W.nsIn K mainGlobals "_law_conditions" = some (some (.ref f19))) (l19 : K.lookup f19 = some ⟨oc19, od19, .func (PySem.W.fnOf "_law_conditions" "_law_conditions" (defArgs st__law_conditions) (defBody st__law_conditions) (defScope st__law_conditions) .none kV19 dc19 pm19 an19 cd19 ct19), sl19⟩) (c19 : PySem.W.codeIn K cd19 "_law_conditions" = true) (k19 : PySem.W.keepIn K (.ref f19) = true)
    (a20 : PySem.W.nsIn K mainGlobals "_law_value" = some (some (.ref f20))) (l20 : K.lookup f20 = some ⟨oc20, od20, .func (PySem.W.fnOf "_law_value" "_law_value" (defArgs st__law_value) (defBody st__law_value) (defScope st__law_value) .none kV20 dc20 pm20 an20 cd20 ct20), sl20⟩) (c20 : PySem.W.codeIn K cd20 "_law_value" = true) (k20 : PySem.W.keepIn K (.ref f20) = true)
    (a21 : PySem.W.nsIn K mainGlobals "_law_numbers" = some (some (.ref f21))) (l21 : K.lookup f21 = some ⟨oc21, od21, .func (PySem.W.fnOf "_law_numbers" "_law_numbers" (defArgs st__law_numbers) (defBody st__law_numbers) (defScope st__law_numbers) .none kV21 dc21 pm21 an21 cd21 ct21), sl21⟩) (c21 : PySem.W.codeIn K cd21 "_law_numbers" = true) (k21 : PySem.W.keepIn K (.ref f21) = true)
    (a22 : PySem.W.nsIn K mainGlobals "_law_firsts" = some (some (.ref f22))) (l22 : K.lookup f22 = some ⟨oc22, od22, .func (PySem.W.fnOf "_law_firsts" "_law_firsts" (defArgs st__law_firsts) (defBody st__law_firsts) (defScope st__law_firsts) .none kV22 dc22 pm22 an22 cd22 ct22), sl22⟩) (c22 : PySem.W.codeIn K cd22 "_law_firsts" = true) (k22 : PySem.W.keepIn K (.ref f22) = true)
    (a23 : PySem.W.nsIn K mainGlobals "_law_is_heard" = some (some (.ref f23))) (l23 : K.lookup f23 = some ⟨oc23, od23, .func (PySem.W.fnOf "_law_is_heard" "_law_is_heard" (defArgs st__law_is_heard) (defBody st__law_is_heard) (defScope st__law_is_heard) .none kV23 dc23 pm23 an23 cd23 ct23), sl23⟩) (c23 : PySem.W.codeIn K cd23 "_law_is_heard" = true) (k23 : PySem.W.keepIn K (.ref f23) = true)
    (a24 : PySem.W.nsIn K mainGlobals "_law_takers" = some (some (.ref f24))) (l24 : K.lookup f24 = some ⟨oc24, od24, .func (PySem.W.fnOf "_law_takers" "_law_takers" (defArgs st__law_takers) (defBody st__law_takers) (defScope st__law_takers) .none kV24 dc24 pm24 an24 cd24 ct24), sl24⟩) (c24 : PySem.W.codeIn K cd24 "_law_takers" = true) (k24 : PySem.W.keepIn K (.ref f24) = true)
    (a25 : PySem.W.nsIn K mainGlobals "_law_behind" = some (some (.ref f25))) (l25 : K.lookup f25 = some ⟨oc25, od25, .func (PySem.W.fnOf "_law_behind" "_law_behind" (defArgs st__law_behind) (defBody st__law_behind) (defScope st__law_behind) .none kV25 dc25 pm25 an25 cd25 ct25), sl25⟩) (c25 : PySem.W.codeIn K cd25 "_law_behind" = true) (k25 : PySem.W.keepIn K (.ref f25) = true)
    (a26 : PySem.W.nsIn K mainGlobals "_law_run" = some (some (.ref f26))) (l26 : K.lookup f26 = some ⟨oc26, od26, .func (PySem.W.fnOf "_law_run" "_law_run" (defArgs st__law_run) (defBody st__law_run) (defScope st__law_run) .none kV26 dc26 pm26 an26 cd26 ct26), sl26⟩) (c26 : PySem.W.codeIn K cd26 "_law_run" = true) (k26 : PySem.W.keepIn K (.ref f26) = true)
    (a27 : PySem.W.nsIn K mainGlobals "_law_at" = some (some (.ref f27))) (l27 : K.lookup f27 = some ⟨oc27, od27, .func (PySem.W.fnOf "_law_at" "_law_at" (defArgs st__law_at) (defBody st__law_at) (defScope st__law_at) .none kV27 dc27 pm27 an27 cd27 ct27), sl27⟩) (c27 : PySem.W.codeIn K cd27 "_law_at" = true) (k27 : PySem.W.keepIn K (.ref f27) = true)
    (a28 : PySem.W.nsIn K mainGlobals "_law_is_first" = some (some (.ref f28))) (l28 : K.lookup f28 = some ⟨oc28, od28, .func (PySem.W.fnOf "_law_is_first" "_law_is_first" (defArgs st__law_is_first) (defBody st__law_is_first) (defScope st__law_is_first) .none kV28 dc28 pm28 an28 cd28 ct28), sl28⟩) (c28 : PySem.W.codeIn K cd28 "_law_is_first" = true) (k28 : PySem.W.keepIn K (.ref f28) = true)
    (a29 : PySem.W.nsIn K mainGlobals "_law_firsts_right" = some (some (.ref f29))) (l29 : K.lookup f29 = some ⟨oc29, od29, .func (PySem.W.fnOf "_law_firsts_right" "_law_firsts_right" (defArgs st__law_firsts_right) (defBody st__law_firsts_right) (defScope st__law_firsts_right) .none kV29 dc29 pm29 an29 cd29 ct29), sl29⟩) (c29 : PySem.W.codeIn K cd29 "_law_firsts_right" = true) (k29 : PySem.W.keepIn K (.ref f29) = true)
    (a30 : PySem.W.nsIn K mainGlobals "_law_crowd_right" = some (some (.ref f30))) (l30 : K.lookup f30 = some ⟨oc30, od30, .func (PySem.W.fnOf "_law_crowd_right" "_law_crowd_right" (defArgs st__law_crowd_right) (defBody st__law_crowd_right) (defScope st__law_crowd_right) .none kV30 dc30 pm30 an30 cd30 ct30), sl30⟩) (c30 : PySem.W.codeIn K cd30 "_law_crowd_right" = true) (k30 : PySem.W.keepIn K (.ref f30) = true)
    (a31 : PySem.W.nsIn K mainGlobals "law" = some (some (.ref f31))) (l31 : K.lookup f31 = some ⟨oc31, od31, .func (PySem.W.fnOf "law" "law" (defArgs st_law) (defBody st_law) (defScope st_law) .none kV31 dc31 pm31 an31 cd31 ct31), sl31⟩) (c31 : PySem.W.codeIn K cd31 "law" = true) (k31 : PySem.W.keepIn K (.ref f31) = true)
    (z_all : PySem.W.nsIn K mainGlobals "all" = some none) (z_dict : PySem.W.nsIn K mainGlobals "dict" = some none) (z_enumerate : PySem.W.nsIn K mainGlobals "enumerate" = some none) (z_int : PySem.W.nsIn K mainGlobals "int" = some none) (z_len : PySem.W.nsIn K mainGlobals "len" = some none) (z_list : PySem.W.nsIn K mainGlobals "list" = some none) (z_max : PySem.W.nsIn K mainGlobals "max" = some none) (z_min : PySem.W.nsIn K mainGlobals "min" = some none) (z_range : PySem.W.nsIn K mainGlobals "range" = some none) (z_repr : PySem.W.nsIn K mainGlobals "repr" = some none) (z_set : PySem.W.nsIn K mainGlobals "set" = some none) (z_sorted : PySem.W.nsIn K mainGlobals "sorted" = some none) (z_sum : PySem.W.nsIn K mainGlobals "sum" = some none) (z_tuple : PySem.W.nsIn K mainGlobals "tuple" = some none) :
    ∃ fd : FuncData, (∀ (s : Shared) (v : Value), BindsTo s fd ⟨[v], []⟩ [("script", v)]) ∧ ∀ base : Heap, K.In base → base.Ns mainGlobals mg → FnG l.prog w K mg base (L2.CX l.prog w) 8 fa fd ["script"] (spD K mg M_law) := by
  have e := hfa.symm.trans (PySem.W.mg_of X G a31)
  cases e
  have T : Txt mg := ⟨PySem.W.mg_none_of X G z_all, PySem.W.mg_none_of X G z_dict, PySem.W.mg_none_of X G z_enumerate, PySem.W.mg_none_of X G z_int, PySem.W.mg_none_of X G z_len, PySem.W.mg_none_of X G z_list, PySem.W.mg_none_of X G z_max, PySem.W.mg_none_of X G z_min, PySem.W.mg_none_of X G z_range, PySem.W.mg_none_of X G z_repr, PySem.W.mg_none_of X G z_set, PySem.W.mg_none_of X G z_sorted, PySem.W.mg_none_of X G z_sum, PySem.W.mg_none_of X G z_tuple⟩
  have F0 := fun_mk (st := st_bound_value) l0 c0 k0
  have b0 : Binds K _ ps_bound_value [] := F0.binds (ps := ps_bound_value) fun _ _ _ _ _ _ us hl => match us, hl with | [_, _], _ => rfl
  have m0 := PySem.W.mg_of X G a0
  have F1 := fun_mk (st := st_first_crowd) l1 c1 k1
  have b1 : Binds K _ ps_first_crowd [] := F1.binds (ps := ps_first_crowd) fun _ _ _ _ _ _ us hl => match us, hl with | [_, _], _ => rfl
  have m1 := PySem.W.mg_of X G a1
  have F2 := fun_mk (st := st_is_first) l2 c2 k2
  have b2 : Binds K _ ps_is_first [] := F2.binds (ps := ps_is_first) fun _ _ _ _ _ _ us hl => match us, hl with | [_, _, _, _], _ => rfl
  have m2 := PySem.W.mg_of X G a2
  have F3 := fun_mk (st := st_hears) l3 c3 k3
  have b3 : Binds K _ ps_hears [] := F3.binds (ps := ps_hears) fun _ _ _ _ _ _ us hl => match us, hl with | [_, _, _], _ => rfl
  have m3 := PySem.W.mg_of X G a3
  have F4 := fun_mk (st := st_can_hear) l4 c4 k4
  have b4 : Binds K _ ps_can_hear [] := F4.binds (ps := ps_can_hear) fun _ _ _ _ _ _ us hl => match us, hl with | [_, _, _], _ => rfl
  have m4 := PySem.W.mg_of X G a4
  have F5 := fun_mk (st := st_can_take) l5 c5 k5
  have b5 : Binds K _ ps_can_take [] := F5.binds (ps := ps_can_take) fun _ _ _ _ _ _ us hl => match us, hl with | [_, _, _], _ => rfl
  have m5 := PySem.W.mg_of X G a5
  have F6 := fun_mk (st := st_urged) l6 c6 k6
  have b6 : Binds K _ ps_urged [] := F6.binds (ps := ps_urged) fun _ _ _ _ _ _ us hl => match us, hl with | [_, _, _], _ => rfl
  have m6 := PySem.W.mg_of X G a6
  have F7 := fun_mk (st := st_is_end) l7 c7 k7
  have b7 : Binds K _ ps_is_end [] := F7.binds (ps := ps_is_end) fun _ _ _ _ _ _ us hl => match us, hl with | [_, _, _], _ => rfl
  have m7 := PySem.W.mg_of X G a7
  have F8 := fun_mk (st := st__law_pen) l8 c8 k8
  have b8 : Binds K _ ps__law_pen [] := F8.binds (ps := ps__law_pen) fun _ _ _ _ _ _ us hl => match us, hl with | [_], _ => rfl
  have m8 := PySem.W.mg_of X G a8
  have F9 := fun_mk (st := st__law_fresh) l9 c9 k9
  have b9 : Binds K _ ps__law_fresh [] := F9.binds (ps := ps__law_fresh) fun _ _ _ _ _ _ us hl => match us, hl with | [_], _ => rfl
  have m9 := PySem.W.mg_of X G a9
  have F10 := fun_mk (st := st__law_draw) l10 c10 k10
  have b10 : Binds K _ ps__law_draw [] := F10.binds (ps := ps__law_draw) fun _ _ _ _ _ _ us hl => match us, hl with | [_, _], _ => rfl
  have m10 := PySem.W.mg_of X G a10
  have F11 := fun_mk (st := st__law_one_of) l11 c11 k11
  have b11 : Binds K _ ps__law_one_of [] := F11.binds (ps := ps__law_one_of) fun _ _ _ _ _ _ us hl => match us, hl with | [_, _], _ => rfl
  have m11 := PySem.W.mg_of X G a11
  have F12 := fun_mk (st := st__law_bound) l12 c12 k12
  have b12 : Binds K _ ps__law_bound [] := F12.binds (ps := ps__law_bound) fun _ _ _ _ _ _ us hl => match us, hl with | [_], _ => rfl
  have m12 := PySem.W.mg_of X G a12
  have F13 := fun_mk (st := st__law_some_conditions) l13 c13 k13
  have b13 : Binds K _ ps__law_some_conditions [] := F13.binds (ps := ps__law_some_conditions) fun _ _ _ _ _ _ us hl => match us, hl with | [_, _, _], _ => rfl
  have m13 := PySem.W.mg_of X G a13
  have F14 := fun_mk (st := st__law_sent_most) l14 c14 k14
  have b14 : Binds K _ ps__law_sent_most [] := F14.binds (ps := ps__law_sent_most) fun _ _ _ _ _ _ us hl => match us, hl with | [_, _, _], _ => rfl
  have m14 := PySem.W.mg_of X G a14
  have F15 := fun_mk (st := st__law_rule) l15 c15 k15
  have b15 : Binds K _ ps__law_rule [] := F15.binds (ps := ps__law_rule) fun _ _ _ _ _ _ us hl => match us, hl with | [_, _, _, _], _ => rfl
  have m15 := PySem.W.mg_of X G a15
  have F16 := fun_mk (st := st__law_protocol) l16 c16 k16
  have b16 : Binds K _ ps__law_protocol [] := F16.binds (ps := ps__law_protocol) fun _ _ _ _ _ _ us hl => match us, hl with | [_, _, _], _ => rfl
  have m16 := PySem.W.mg_of X G a16
  have F17 := fun_mk (st := st__law_broadcast) l17 c17 k17
  have b17 : Binds K _ ps__law_broadcast [] := F17.binds (ps := ps__law_broadcast) fun _ _ _ _ _ _ us hl => match us, hl with | [_], _ => rfl
  have m17 := PySem.W.mg_of X G a17
  have F18 := fun_mk (st := st__law_some_protocol) l18 c18 k18
  have b18 : Binds K _ ps__law_some_protocol [] := F18.binds (ps := ps__law_some_protocol) fun _ _ _ _ _ _ us hl => match us, hl with | [_, _, _], _ => rfl
  have m18 := PySem.W.mg_of X G a18
  have F19 := fun_mk (st := st__law_conditions) l19 c19 k19
  have b19 : Binds K _ ps__law_conditions [] := F19.binds (ps := ps__law_conditions) fun _ _ _ _ _ _ us hl => match us, hl with | [_], _ => rfl
  have m19 := PySem.W.mg_of X G a19
  have F20 := fun_mk (st := st__law_value) l20 c20 k20
  have b20 : Binds K _ ps__law_value [] := F20.binds (ps := ps__law_value) fun _ _ _ _ _ _ us hl => match us, hl with | [_, _], _ => rfl
  have m20 := PySem.W.mg_of X G a20
  have F21 := fun_mk (st := st__law_numbers) l21 c21 k21
  have b21 : Binds K _ ps__law_numbers [] := F21.binds (ps := ps__law_numbers) fun _ _ _ _ _ _ us hl => match us, hl with | [_, _], _ => rfl
  have m21 := PySem.W.mg_of X G a21
  have F22 := fun_mk (st := st__law_firsts) l22 c22 k22
  have b22 : Binds K _ ps__law_firsts [] := F22.binds (ps := ps__law_firsts) fun _ _ _ _ _ _ us hl => match us, hl with | [_, _, _], _ => rfl
  have m22 := PySem.W.mg_of X G a22
  have F23 := fun_mk (st := st__law_is_heard) l23 c23 k23
  have b23 : Binds K _ ps__law_is_heard [] := F23.binds (ps := ps__law_is_heard) fun _ _ _ _ _ _ us hl => match us, hl with | [_, _, _, _], _ => rfl
  have m23 := PySem.W.mg_of X G a23
  have F24 := fun_mk (st := st__law_takers) l24 c24 k24
  have b24 : Binds K _ ps__law_takers [] := F24.binds (ps := ps__law_takers) fun _ _ _ _ _ _ us hl => match us, hl with | [_, _, _, _], _ => rfl
  have m24 := PySem.W.mg_of X G a24
  have F25 := fun_mk (st := st__law_behind) l25 c25 k25
  have b25 : Binds K _ ps__law_behind [] := F25.binds (ps := ps__law_behind) fun _ _ _ _ _ _ us hl => match us, hl with | [_, _, _], _ => rfl
  have m25 := PySem.W.mg_of X G a25
  have F26 := fun_mk (st := st__law_run) l26 c26 k26
  have b26 : Binds K _ ps__law_run [] := F26.binds (ps := ps__law_run) fun _ _ _ _ _ _ us hl => match us, hl with | [_, _, _, _, _], _ => rfl
  have m26 := PySem.W.mg_of X G a26
  have F27 := fun_mk (st := st__law_at) l27 c27 k27
  have b27 : Binds K _ ps__law_at [] := F27.binds (ps := ps__law_at) fun _ _ _ _ _ _ us hl => match us, hl with | [_, _, _], _ => rfl
  have m27 := PySem.W.mg_of X G a27
  have F28 := fun_mk (st := st__law_is_first) l28 c28 k28
  have b28 : Binds K _ ps__law_is_first [] := F28.binds (ps := ps__law_is_first) fun _ _ _ _ _ _ us hl => match us, hl with | [_, _, _, _], _ => rfl
  have m28 := PySem.W.mg_of X G a28
  have F29 := fun_mk (st := st__law_firsts_right) l29 c29 k29
  have b29 : Binds K _ ps__law_firsts_right [] := F29.binds (ps := ps__law_firsts_right) fun _ _ _ _ _ _ us hl => match us, hl with | [_, _, _], _ => rfl
  have m29 := PySem.W.mg_of X G a29
  have F30 := fun_mk (st := st__law_crowd_right) l30 c30 k30
  have b30 : Binds K _ ps__law_crowd_right [] := F30.binds (ps := ps__law_crowd_right) fun _ _ _ _ _ _ us hl => match us, hl with | [_, _, _], _ => rfl
  have m30 := PySem.W.mg_of X G a30
  have F31 := fun_mk (st := st_law) l31 c31 k31
  have b31 : Binds K _ ps_law [] := F31.binds (ps := ps_law) fun _ _ _ _ _ _ us hl => match us, hl with | [_], _ => rfl
  have m31 := PySem.W.mg_of X G a31
  refine ⟨PySem.W.fnOf "law" "law" (defArgs st_law) (defBody st_law) (defScope st_law) .none kV31 dc31 pm31 an31 cd31 ct31, fun s v => .of_eq rfl, fun base _ _ => ?_⟩
  have q0 : Cal l.prog w K mg base "bound_value" ps_bound_value 1 M_bound_value := ⟨⟨_, _, m0, k0, b0, ok_bound_value F0 T ⟩⟩
  have q1 : Cal l.prog w K mg base "first_crowd" ps_first_crowd 1 M_first_crowd := ⟨⟨_, _, m1, k1, b1, ok_first_crowd F1 T ⟩⟩
  have q2 : Cal l.prog w K mg base "is_first" ps_is_first 1 M_is_first := ⟨⟨_, _, m2, k2, b2, ok_is_first F2 T ⟩⟩
  have q3 : Cal l.prog w K mg base "hears" ps_hears 2 M_hears := ⟨⟨_, _, m3, k3, b3, ok_hears F3 T q0⟩⟩
  have q4 : Cal l.prog w K mg base "can_hear" ps_can_hear 2 M_can_hear := ⟨⟨_, _, m4, k4, b4, ok_can_hear F4 T q0⟩⟩
  have q5 : Cal l.prog w K mg base "can_take" ps_can_take 3 M_can_take := ⟨⟨_, _, m5, k5, b5, ok_can_take F5 T q4⟩⟩
  have q6 : Cal l.prog w K mg base "urged" ps_urged 3 M_urged := ⟨⟨_, _, m6, k6, b6, ok_urged F6 T q3⟩⟩
  have q7 : Cal l.prog w K mg base "is_end" ps_is_end 4 M_is_end := ⟨⟨_, _, m7, k7, b7, ok_is_end F7 T q6⟩⟩
  have q8 : Cal l.prog w K mg base "_law_pen" ps__law_pen 1 M__law_pen := ⟨⟨_, _, m8, k8, b8, ok__law_pen F8 T ⟩⟩
  have q9 : Cal l.prog w K mg base "_law_fresh" ps__law_fresh 1 M__law_fresh := ⟨⟨_, _, m9, k9, b9, ok__law_fresh F9 T ⟩⟩
  have q10 : Cal l.prog w K mg base "_law_draw" ps__law_draw 2 M__law_draw := ⟨⟨_, _, m10, k10, b10, ok__law_draw F10 T q9⟩⟩
  have q11 : Cal l.prog w K mg base "_law_one_of" ps__law_one_of 3 M__law_one_of := ⟨⟨_, _, m11, k11, b11, ok__law_one_of F11 T q10⟩⟩
  have q12 : Cal l.prog w K mg base "_law_bound" ps__law_bound 4 M__law_bound := ⟨⟨_, _, m12, k12, b12, ok__law_bound F12 T q10 q11⟩⟩
  have q13 : Cal l.prog w K mg base "_law_some_conditions" ps__law_some_conditions 4 M__law_some_conditions := ⟨⟨_, _, m13, k13, b13, ok__law_some_conditions F13 T q11⟩⟩
  have q14 : Cal l.prog w K mg base "_law_sent_most" ps__law_sent_most 4 M__law_sent_most := ⟨⟨_, _, m14, k14, b14, ok__law_sent_most F14 T ⟩⟩
  have q15 : Cal l.prog w K mg base "_law_rule" ps__law_rule 5 M__law_rule := ⟨⟨_, _, m15, k15, b15, ok__law_rule F15 T q10 q13⟩⟩
  have q16 : Cal l.prog w K mg base "_law_protocol" ps__law_protocol 6 M__law_protocol := ⟨⟨_, _, m16, k16, b16, ok__law_protocol F16 T q11 q10 q12 q15 q14⟩⟩
  have q17 : Cal l.prog w K mg base "_law_broadcast" ps__law_broadcast 5 M__law_broadcast := ⟨⟨_, _, m17, k17, b17, ok__law_broadcast F17 T q10 q12⟩⟩
  have q18 : Cal l.prog w K mg base "_law_some_protocol" ps__law_some_protocol 7 M__law_some_protocol := ⟨⟨_, _, m18, k18, b18, ok__law_some_protocol F18 T q10 q17 q16⟩⟩
  have q19 : Cal l.prog w K mg base "_law_conditions" ps__law_conditions 1 M__law_conditions := ⟨⟨_, _, m19, k19, b19, ok__law_conditions F19 T ⟩⟩
  have q20 : Cal l.prog w K mg base "_law_value" ps__law_value 1 M__law_value := ⟨⟨_, _, m20, k20, b20, ok__law_value F20 T ⟩⟩
  have q21 : Cal l.prog w K mg base "_law_numbers" ps__law_numbers 4 M__law_numbers := ⟨⟨_, _, m21, k21, b21, ok__law_numbers F21 T q10 q11⟩⟩
  have q22 : Cal l.prog w K mg base "_law_firsts" ps__law_firsts 4 M__law_firsts := ⟨⟨_, _, m22, k22, b22, ok__law_firsts F22 T q11⟩⟩
  have q23 : Cal l.prog w K mg base "_law_is_heard" ps__law_is_heard 2 M__law_is_heard := ⟨⟨_, _, m23, k23, b23, ok__law_is_heard F23 T q20⟩⟩
  have q24 : Cal l.prog w K mg base "_law_takers" ps__law_takers 3 M__law_takers := ⟨⟨_, _, m24, k24, b24, ok__law_takers F24 T q23⟩⟩
  have q25 : Cal l.prog w K mg base "_law_behind" ps__law_behind 1 M__law_behind := ⟨⟨_, _, m25, k25, b25, ok__law_behind F25 T ⟩⟩
  have q26 : Cal l.prog w K mg base "_law_run" ps__law_run 4 M__law_run := ⟨⟨_, _, m26, k26, b26, ok__law_run F26 T q10 q24 q11 q25⟩⟩
  have q27 : Cal l.prog w K mg base "_law_at" ps__law_at 1 M__law_at := ⟨⟨_, _, m27, k27, b27, ok__law_at F27 T ⟩⟩
  have q28 : Cal l.prog w K mg base "_law_is_first" ps__law_is_first 1 M__law_is_first := ⟨⟨_, _, m28, k28, b28, ok__law_is_first F28 T ⟩⟩
  have q29 : Cal l.prog w K mg base "_law_firsts_right" ps__law_firsts_right 5 M__law_firsts_right := ⟨⟨_, _, m29, k29, b29, ok__law_firsts_right F29 T q22 q1 q10 q27 q2 q28⟩⟩
  have q30 : Cal l.prog w K mg base "_law_crowd_right" ps__law_crowd_right 5 M__law_crowd_right := ⟨⟨_, _, m30, k30, b30, ok__law_crowd_right F30 T q19 q3 q4 q23 q24 q6 q5 q7⟩⟩
  exact ok_law F31 T q8 q21 q18 q29 q22 q30 q26 q10
theorem walk {l : PySem.W.OpenLaw} {q : Program} {loose : List Str} {XP : (Str → Option Value) → Heap → Prop} {YP : World → Heap → Prop} {d : DefRec} {K : Params → PySem.W.Frag} (hn : l.most = some 63) (hdf : d.params.defaults = [])
    (hY : ∀ (w : World) (h : Heap), YP w h → (K w.params).In h) (plain : ∀ ns : List Int, ns.length ≤ 63 → M_law [.d (.list (ns.map .int))] = .ok (.v (.bool true)) [.d (.list (ns.map .int))])
    (F : ∀ (w : World) (mg : Str → Option Value) (fa : Addr) (h : Heap), (K w.params).In h → h.Ns mainGlobals mg → mg d.name = some (.ref fa) →
      ∃ fd : FuncData, (∀ (s : Shared) (u : Value), BindsTo s fd ⟨[u], []⟩ [("script", u)]) ∧ ∀ base : Heap, (K w.params).In base → base.Ns mainGlobals mg → FnG l.prog w (K w.params) mg base (L2.CX l.prog w) 8 fa fd ["script"] (spD (K w.params) mg M_law)) :
    PySem.W.WalkO q loose XP YP l.row.toRowW d [] (fun f vs => PySem.call f vs) :=
  walk_G (n := 63) (k := 8) (x := "script") (sp := fun K mg => spD K mg M_law) hn (by decide) hdf (Rm.caller ⟨rfl, by decide, by decide⟩) hY F (fun K mg H a ns hl hO hS => law_sp (plain ns hl) hO hS) noCX
end PD.Lk03

open PySem PySem.W PyProof.Rows in
set_option maxRecDepth 100000 in
set_option maxHeartbeats 0 in
theorem PySem.Challenge.cw_enoughheard_k03_crowds_holds : PySem.Challenge.rw_enoughheard_k03_crowds.Holds := by
  w_on; o_law; k_head; (case hw => w_witness2)
  k_fill
  refine PD.Lk03.walk (l := PySem.Challenge.rw_enoughheard_k03_crowds) rfl rfl (fun w h Y => PySem.W.kIn_of Y) PD.Lk03.plain ?F
  case F =>
    intro w mg fa h KX G hmg
    refine' PD.Lk03.all_mk KX G hmg ?a0 ?l0 ?c0 ?k0 ?a1 ?l1 ?c1 ?k1 ?a2 ?l2 ?c2 ?k2 ?a3 ?l3 ?c3 ?k3 ?a4 ?l4 ?c4 ?k4 ?a5 ?l5 ?c5 ?k5 ?a6 ?l6 ?c6 ?k6 ?a7 ?l7 ?c7 ?k7 ?a8 ?l8 ?c8 ?k8 ?a9 ?l9 ?c9 ?k9 ?a10 ?l10 ?c10 ?k10 ?a11 ?l11 ?c11 ?k11 ?a12 ?l12 ?c12 ?k12 ?a13 ?l13 ?c13 ?k13 ?a14 ?l14 ?c14 ?k14 ?a15 ?l15 ?c15 ?k15 ?a16 ?l16 ?c16 ?k16 ?a17 ?l17 ?c17 ?k17 ?a18 ?l18 ?c18 ?k18 ?a19 ?l19 ?c19 ?k19 ?a20 ?l20 ?c20 ?k20 ?a21 ?l21 ?c21 ?k21 ?a22 ?l22 ?c22 ?k22 ?a23 ?l23 ?c23 ?k23 ?a24 ?l24 ?c24 ?k24 ?a25 ?l25 ?c25 ?k25 ?a26 ?l26 ?c26 ?k26 ?a27 ?l27 ?c27 ?k27 ?a28 ?l28 ?c28 ?k28 ?a29 ?l29 ?c29 ?k29 ?a30 ?l30 ?c30 ?k30 ?a31 ?l31 ?c31 ?k31 ?z_all ?z_dict ?z_enumerate ?z_int ?z_len ?z_list ?z_max ?z_min ?z_range ?z_repr ?z_set ?z_sorted ?z_sum ?z_tuple
    (case a0 => k_is)
    (case l0 => k_is)
    (case c0 => k_is)
    (case k0 => k_is)
    (case a1 => k_is)
    (case l1 => k_is)
    (case c1 => k_is)
    (case k1 => k_is)
    (case a2 => k_is)
    (case l2 => k_is)
    (case c2 => k_is)
    (case k2 => k_is)
    (case a3 => k_is)
    (case l3 => k_is)
    (case c3 => k_is)
    (case k3 => k_is)
    (case a4 => k_is)
    (case l4 => k_is)
    (case c4 => k_is)
    (case k4 => k_is)
    (case a5 => k_is)
    (case l5 => k_is)
    (case c5 => k_is)
    (case k5 => k_is)
    (case a6 => k_is)
    (case l6 => k_is)
    (case c6 => k_is)
    (case k6 => k_is)
    (case a7 => k_is)
    (case l7 => k_is)
    (case c7 => k_is)
    (case k7 => k_is)
    (case a8 => k_is)
    (case l8 => k_is)
    (case c8 => k_is)
    (case k8 => k_is)
    (case a9 => k_is)
    (case l9 => k_is)
    (case c9 => k_is)
    (case k9 => k_is)
    (case a10 => k_is)
    (case l10 => k_is)
    (case c10 => k_is)
    (case k10 => k_is)
    (case a11 => k_is)
    (case l11 => k_is)
    (case c11 => k_is)
    (case k11 => k_is)
    (case a12 => k_is)
    (case l12 => k_is)
    (case c12 => k_is)
    (case k12 => k_is)
    (case a13 => k_is)
    (case l13 => k_is)
    (case c13 => k_is)
    (case k13 => k_is)
    (case a14 => k_is)
    (case l14 => k_is)
    (case c14 => k_is)
    (case k14 => k_is)
    (case a15 => k_is)
    (case l15 => k_is)
    (case c15 => k_is)
    (case k15 => k_is)
    (case a16 => k_is)
    (case l16 => k_is)
    (case c16 => k_is)
    (case k16 => k_is)
    (case a17 => k_is)
    (case l17 => k_is)
    (case c17 => k_is)
    (case k17 => k_is)
    (case a18 => k_is)
    (case l18 => k_is)
    (case c18 => k_is)
    (case k18 => k_is)
    (case a19 => k_is)
    (case l19 => k_is)
    (case c19 => k_is)
    (case k19 => k_is)
    (case a20 => k_is)
    (case l20 => k_is)
    (case c20 => k_is)
    (case k20 => k_is)
    (case a21 => k_is)
    (case l21 => k_is)
    (case c21 => k_is)
    (case k21 => k_is)
    (case a22 => k_is)
    (case l22 => k_is)
    (case c22 => k_is)
    (case k22 => k_is)
    (case a23 => k_is)
    (case l23 => k_is)
    (case c23 => k_is)
    (case k23 => k_is)
    (case a24 => k_is)
    (case l24 => k_is)
    (case c24 => k_is)
    (case k24 => k_is)
    (case a25 => k_is)
    (case l25 => k_is)
    (case c25 => k_is)
    (case k25 => k_is)
    (case a26 => k_is)
    (case l26 => k_is)
    (case c26 => k_is)
    (case k26 => k_is)
    (case a27 => k_is)
    (case l27 => k_is)
    (case c27 => k_is)
    (case k27 => k_is)
    (case a28 => k_is)
    (case l28 => k_is)
    (case c28 => k_is)
    (case k28 => k_is)
    (case a29 => k_is)
    (case l29 => k_is)
    (case c29 => k_is)
    (case k29 => k_is)
    (case a30 => k_is)
    (case l30 => k_is)
    (case c30 => k_is)
    (case k30 => k_is)
    (case a31 => k_is)
    (case l31 => k_is)
    (case c31 => k_is)
    (case k31 => k_is)
    (case z_all => k_is)
    (case z_dict => k_is)
    (case z_enumerate => k_is)
    (case z_int => k_is)
    (case z_len => k_is)
    (case z_list => k_is)
    (case z_max => k_is)
    (case z_min => k_is)
    (case z_range => k_is)
    (case z_repr => k_is)
    (case z_set => k_is)
    (case z_sorted => k_is)
    (case z_sum => k_is)
    (case z_tuple => k_is)
