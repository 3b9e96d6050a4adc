import PyProof.Rows.All
import Wide.All
import OpenK.AllK
import Wide.FinOn
import HandS.ForExc
import HandS.Comp
import HandS.Iter
import HandS.Wide
import HandS.WideMore
import HandS.Style
import HandS.TryMany
import HandS.Deep
import HandS.Text
import HandS.TupAny
import HandS.SortInts
import KE.KSortedM
import HandS.NoneIn
import HandS.TupSets
import HandS.Dict
import PySem.Challenge.RW_rootsooth_k20_whole_rings_of_cubic_forms
set_option Elab.async false
set_option linter.all false
set_option maxRecDepth 100000
set_option maxHeartbeats 4000000
/-! DL: a layer of plain data over HandS: values are PyData, functions are functions of data. -/
namespace DL
open PySem PySem.Spec PyProof.Rows L2

abbrev PD := PyData

/-! ### data in the frozen heap -/
mutual
inductive DV (K : PySem.W.Frag) (F : Hp) : V → PD → Prop
  | non : DV K F .non .none
  | bl (b : Bool) : DV K F (.bl b) (.bool b)
  | int (i : Int) : DV K F (.int i) (.int i)
  | str (x : Str) : DV K F (.str x) (.str x)
  | lst {a : Addr} {xs : List V} {ds : List PD} : F a = some (.lst xs) → DVs K F xs ds → DV K F (.ref a) (.list ds)
  | tup {a : Addr} {xs : List V} {ds : List PD} : SqT K F a xs → DVs K F xs ds → DV K F (.ref a) (.tuple ds)
inductive DVs (K : PySem.W.Frag) (F : Hp) : List V → List PD → Prop
  | nil : DVs K F [] []
  | cons {v : V} {vs : List V} {d : PD} {ds : List PD} : DV K F v d → DVs K F vs ds → DVs K F (v :: vs) (d :: ds)
end

theorem sqT_mono {K : PySem.W.Frag} {H H' : Hp} {a : Addr} {xs : List V} (e : Same H H') (h : SqT K H a xs) : SqT K H' a xs := by
  rcases h with (h | ⟨o, h⟩) | h
  · exact .inl (.inl (e _ _ h))
  · exact .inl (.inr ⟨o, e _ _ h⟩)
  · exact .inr h
section
variable {K : PySem.W.Frag} {F F' : Hp}
mutual
theorem DV.mono (s : Same F F') : ∀ (d : PD) (v : V), DV K F v d → DV K F' v d
  | .none, _, h => by cases h; exact .non
  | .bool b, _, h => by cases h; exact .bl b
  | .int i, _, h => by cases h; exact .int i
  | .str x, _, h => by cases h; exact .str x
  | .list ds, _, h => by
    cases h with
    | lst h1 h2 => exact .lst (s _ _ h1) (DVs.mono s ds _ h2)
  | .tuple ds, _, h => by
    cases h with
    | tup h1 h2 => exact .tup (sqT_mono s h1) (DVs.mono s ds _ h2)
  | .dict _, _, h => by cases h
theorem DVs.mono (s : Same F F') : ∀ (ds : List PD) (vs : List V), DVs K F vs ds → DVs K F' vs ds
  | [], _, h => by cases h; exact .nil
  | d :: ds, _, h => by
    cases h with
    | cons h1 h2 => exact .cons (DV.mono s d _ h1) (DVs.mono s ds _ h2)
end
mutual
theorem DV.dp : ∀ (d : PD) (v : V), DV K F v d → Dp K F v d
  | .none, _, h => by cases h; exact .non
  | .bool b, _, h => by cases h; exact .bl b
  | .int i, _, h => by cases h; exact .int i
  | .str x, _, h => by cases h; exact .str x
  | .list ds, _, h => by
    cases h with
    | lst h1 h2 => exact .lst (SqL.of h1) (DVs.dp ds _ h2)
  | .tuple ds, _, h => by
    cases h with
    | tup h1 h2 => exact .tup h1 (DVs.dp ds _ h2)
  | .dict _, _, h => by cases h
theorem DVs.dp : ∀ (ds : List PD) (vs : List V), DVs K F vs ds → DpAll K F vs ds
  | [], _, h => by cases h; exact .nil
  | d :: ds, _, h => by
    cases h with
    | cons h1 h2 => exact .cons (DV.dp d _ h1) (DVs.dp ds _ h2)
end
theorem DVs.len : ∀ {vs : List V} {ds : List PD}, DVs K F vs ds → vs.length = ds.length
  | _, [], h => by cases h; rfl
  | _, d :: ds, h => by
    cases h with
    | cons h1 h2 => rw [List.length_cons, List.length_cons, DVs.len h2]
theorem DVs.get : ∀ {vs : List V} {ds : List PD} {i : Nat} {d : PD}, DVs K F vs ds → ds[i]? = some d → ∃ v, vs[i]? = some v ∧ DV K F v d
  | _, [], _, _, h, e => by simp at e
  | _, d :: ds, 0, x, h, e => by
    cases h with
    | cons h1 h2 => simp at e; subst e; exact ⟨_, rfl, h1⟩
  | _, d :: ds, i + 1, x, h, e => by
    cases h with
    | cons h1 h2 =>
      obtain ⟨v, e1, e2⟩ := DVs.get (i := i) (d := x) h2 (by simpa using e)
      exact ⟨v, by simpa using e1, e2⟩
theorem DVs.append : ∀ {vs us : List V} {ds es : List PD}, DVs K F vs ds → DVs K F us es → DVs K F (vs ++ us) (ds ++ es)
  | _, _, [], _, h, q => by cases h; exact q
  | _, _, d :: ds, _, h, q => by
    cases h with
    | cons h1 h2 => exact .cons h1 (DVs.append h2 q)
theorem DVs.drop : ∀ (n : Nat) {vs : List V} {ds : List PD}, DVs K F vs ds → DVs K F (vs.drop n) (ds.drop n)
  | 0, _, _, h => by simpa using h
  | n + 1, _, [], h => by cases h; exact .nil
  | n + 1, _, d :: ds, h => by
    cases h with
    | cons h1 h2 => exact DVs.drop n h2
theorem DVs.take : ∀ (n : Nat) {vs : List V} {ds : List PD}, DVs K F vs ds → DVs K F (vs.take n) (ds.take n)
  | 0, _, _, h => by simpa using DVs.nil
  | n + 1, _, [], h => by cases h; exact .nil
  | n + 1, _, d :: ds, h => by
    cases h with
    | cons h1 h2 => exact .cons h1 (DVs.take n h2)
theorem DVs.ints : ∀ {vs : List V} {ns : List Int}, DVs K F vs (ns.map PyData.int) → vs = ns.map V.int
  | _, [], h => by cases h; rfl
  | _, n :: ns, h => by
    cases h with
    | cons h1 h2 => cases h1; rw [DVs.ints h2]; rfl
theorem DVs.of_ints : ∀ {ns : List Int}, DVs K F (ns.map V.int) (ns.map PyData.int)
  | [] => .nil
  | n :: ns => .cons (.int n) DVs.of_ints
theorem DVs.bools : ∀ {vs : List V} {ns : List Bool}, DVs K F vs (ns.map PyData.bool) → vs = ns.map V.bl
  | _, [], h => by cases h; rfl
  | _, n :: ns, h => by
    cases h with
    | cons h1 h2 => cases h1; rw [DVs.bools h2]; rfl
theorem DVs.strs : ∀ {vs : List V} {ns : List Str}, DVs K F vs (ns.map PyData.str) → vs = ns.map V.str
  | _, [], h => by cases h; rfl
  | _, n :: ns, h => by
    cases h with
    | cons h1 h2 => cases h1; rw [DVs.strs h2]; rfl
end

/-! ### the law's state, steps -/
structure S where
  cells : List Int
  pos : Int
  cell : Int
  left : Int
  big : Bool

def stV (sc : Addr) (st : S) : List V := [.ref sc, .int st.pos, .int st.cell, .int st.left, .bl st.big, .int 500]
/-- the mark of the state's list among the data -/
abbrev STT : PD := .dict []
def SR (F H : Hp) (sa : Addr) (st : S) : Prop := ∃ sc, H sa = some (.lst (stV sc st)) ∧ F sc = some (.lst (st.cells.map V.int))
def RD (K : PySem.W.Frag) (sa : Addr) (F : Hp) (v : V) (d : PD) : Prop := DV K F v d ∨ (d = STT ∧ v = .ref sa)
theorem RD.mono {K : PySem.W.Frag} {sa : Addr} {F F' : Hp} {v : V} {d : PD} (s : Same F F') (h : RD K sa F v d) : RD K sa F' v d := by
  rcases h with h | h
  · exact .inl (h.mono s)
  · exact .inr h

structure Bs (sa : Addr) (F H : Hp) (st : S) : Prop where
  sub : Same F H
  fsa : F sa = none
  sr : SR F H sa st
structure Stp (sa : Addr) (F H F' H' : Hp) (st' : S) : Prop where
  fm : Same F F'
  fn : ∀ b, F b = none → F' b ≠ none → H b = none
  pr : ∀ b o, H b = some o → b ≠ sa → H' b = some o
  bs : Bs sa F' H' st'
section
variable {sa : Addr} {F H F1 H1 F2 H2 F' H' : Hp} {st st1 st2 st' : S}
theorem Bs.refl (b : Bs sa F H st) : Stp sa F H F H st := ⟨Same.refl _, fun _ h n => absurd h n, fun _ _ h _ => h, b⟩
theorem Stp.trans (a : Stp sa F H F1 H1 st1) (b : Stp sa F1 H1 F2 H2 st2) : Stp sa F H F2 H2 st2 where
  fm := a.fm.trans b.fm
  fn := fun c h n => by
    cases e : F1 c with
    | none =>
      have q := b.fn c e n
      cases e2 : H c with
      | none => rfl
      | some o =>
        have : c ≠ sa := fun z => by subst z; exact n b.bs.fsa
        rw [a.pr c o e2 this] at q; cases q
    | some o => exact a.fn c h (by rw [e]; exact fun z => nomatch z)
  pr := fun c o h n => b.pr c o (a.pr c o h n) n
  bs := b.bs
theorem Bs.hsa (b : Bs sa F H st) : H sa ≠ none := by
  obtain ⟨sc, e, _⟩ := b.sr
  rw [e]; exact fun z => nomatch z
theorem Bs.ne (b : Bs sa F H st) {p : Addr} (h : H p = none) : p ≠ sa := fun z => by subst z; exact b.hsa h
theorem Bs.ff (b : Bs sa F H st) {p : Addr} (h : H p = none) : F p = none := b.sub.free h
theorem same_upd {H : Hp} {p : Addr} {o : HO} (h : H p = none) : Same H (upd H p o) := fun b x e => by
  rw [upd_ne (ne_of_none e h)]; exact e
/-- a new object, frozen -/
theorem Bs.newF (b : Bs sa F H st) {p : Addr} (h : H p = none) (o : HO) : Stp sa F H (upd F p o) (upd H p o) st where
  fm := same_upd (b.ff h)
  fn := fun c hc n => by
    by_cases e : c = p
    · subst e; exact h
    · rw [upd_ne e] at n; exact absurd hc n
  pr := fun c x e _ => same_upd h c x e
  bs := by
    refine ⟨fun c x e => ?_, ?_, ?_⟩
    · by_cases z : c = p
      · subst z; rw [upd_same] at e ⊢; exact e
      · rw [upd_ne z] at e ⊢; exact b.sub c x e
    · rw [upd_ne (b.ne h).symm]; exact b.fsa
    · obtain ⟨sc, e1, e2⟩ := b.sr
      refine ⟨sc, by rw [upd_ne (b.ne h).symm]; exact e1, same_upd (b.ff h) _ _ e2⟩
/-- a new object, not frozen -/
theorem Bs.newU (b : Bs sa F H st) {p : Addr} (h : H p = none) (o : HO) : Stp sa F H F (upd H p o) st where
  fm := Same.refl _
  fn := fun c hc n => absurd hc n
  pr := fun c x e _ => same_upd h c x e
  bs := by
    refine ⟨fun c x e => same_upd h c x (b.sub c x e), b.fsa, ?_⟩
    obtain ⟨sc, e1, e2⟩ := b.sr
    exact ⟨sc, by rw [upd_ne (b.ne h).symm]; exact e1, e2⟩
end

/-! ### results -/
inductive R (α : Type) where
  | ok (a : α) (s : S)
  | ex (c : Str) (s : S)
  | bad
abbrev M (α : Type) := S → R α
@[reducible] def R.bind {α β : Type} (r : R α) (k : α → S → R β) : R β := match r with
  | .ok a s => k a s
  | .ex c s => .ex c s
  | .bad => .bad
@[simp] theorem R.bind_ok {α β : Type} (a : α) (s : S) (k : α → S → R β) : (R.ok a s).bind k = k a s := rfl
@[simp] theorem R.bind_ex {α β : Type} (c : Str) (s : S) (k : α → S → R β) : (R.ex c s : R α).bind k = .ex c s := rfl
@[simp] theorem R.bind_bad {α β : Type} (k : α → S → R β) : (R.bad : R α).bind k = .bad := rfl
def R.ofO {α : Type} (o : Option α) (s : S) : R α := match o with
  | some a => .ok a s
  | none => .bad
@[simp] theorem R.ofO_some {α : Type} (a : α) (s : S) : R.ofO (some a) s = .ok a s := rfl
@[simp] theorem R.ofO_none {α : Type} (s : S) : R.ofO (none : Option α) s = .bad := rfl

inductive Sl where
  | v (d : PD)
  | o (xs : List PD)
abbrev Env := List (Option Sl)

structure Sim (K : PySem.W.Frag) (sa : Addr) (F0 H0 F H : Hp) (σ : L2.St) (env : Env) (st : S) : Prop where
  s0 : H0 sa ≠ none
  stp : Stp sa F0 H0 F H st
  len : env.length = σ.length
  vals : ∀ (i : Nat) (d : PD), env[i]? = some (some (.v d)) → ∃ v, σ[i]? = some (some v) ∧ RD K sa F v d
  own : ∀ (i : Nat) (xs : List PD), env[i]? = some (some (.o xs)) → ∃ a vs, σ[i]? = some (some (.ref a)) ∧ H a = some (.lst vs) ∧ F a = none ∧ H0 a = none ∧ DVs K F vs xs
  dis : ∀ (i j : Nat) (xs ys : List PD) (a : Addr), env[i]? = some (some (.o xs)) → env[j]? = some (some (.o ys)) → σ[i]? = some (some (.ref a)) → σ[j]? = some (some (.ref a)) → i = j
section
variable {K : PySem.W.Frag} {sa : Addr} {F0 H0 F H F' H' : Hp} {σ : L2.St} {env : Env} {st st' : S}
theorem Sim.bs (s : Sim K sa F0 H0 F H σ env st) : Bs sa F H st := s.stp.bs
theorem Sim.ne (s : Sim K sa F0 H0 F H σ env st) {a : Addr} (h : H0 a = none) : a ≠ sa := fun z => by subst z; exact s.s0 h
theorem Sim.step (s : Sim K sa F0 H0 F H σ env st) (p : Stp sa F H F' H' st') : Sim K sa F0 H0 F' H' σ env st' where
  s0 := s.s0
  stp := s.stp.trans p
  len := s.len
  vals := fun i d e => let ⟨v, e1, r⟩ := s.vals i d e; ⟨v, e1, r.mono p.fm⟩
  own := fun i xs e => by
    obtain ⟨a, vs, e1, e2, e3, e4, r⟩ := s.own i xs e
    refine ⟨a, vs, e1, p.pr a _ e2 (s.ne e4), ?_, e4, r.mono p.fm⟩
    cases q : F' a with
    | none => rfl
    | some o =>
      have := p.fn a e3 (by rw [q]; exact fun z => nomatch z)
      rw [e2] at this; cases this
  dis := s.dis
end

/-! ### a reading and a function of data -/
section
variable {α β : Type}
/-- what is to be shown of what comes behind: rel H F' H' (a value) (a datum) -/
def Post (mg : Str → Option Value) (W : WX) (sa : Addr) (σ : L2.St) (F H : Hp) (rel : Hp → Hp → Hp → β → α → Prop) (r : R α) (Q : β → Hp → Prop) : Prop := match r with
  | .ok d st' => ∀ v F' H', Stp sa F H F' H' st' → rel H F' H' v d → Q v H'
  | .ex c st' => ∀ F' H' C, Stp sa F H F' H' st' → mg c = some (.ref C) → W (.ref C) none σ H'
  | .bad => False
def Ref (K : PySem.W.Frag) (mg : Str → Option Value) (W : WX) (rel : Addr → Hp → Hp → Hp → β → α → Prop) (t : L2.St → Hp → (β → Hp → Prop) → Prop) (f : Env → M α) : Prop :=
  ∀ sa F0 H0 F H σ env st Q, Sim K sa F0 H0 F H σ env st → Post mg W sa σ F H (rel sa) (f env st) Q → t σ H Q
def Mono (rel : Addr → Hp → Hp → Hp → β → α → Prop) : Prop := ∀ sa F H F1 H1 st1 F' H' x d, Bs sa F1 H1 st1 → Stp sa F H F1 H1 st1 → rel sa H1 F' H' x d → rel sa H F' H' x d
end
abbrev rE (K : PySem.W.Frag) : Addr → Hp → Hp → Hp → V → PD → Prop := fun sa _ F' _ v d => RD K sa F' v d
inductive RDs (K : PySem.W.Frag) (sa : Addr) (F : Hp) : List V → List PD → Prop
  | nil : RDs K sa F [] []
  | cons {v : V} {vs : List V} {d : PD} {ds : List PD} : RD K sa F v d → RDs K sa F vs ds → RDs K sa F (v :: vs) (d :: ds)
abbrev rA (K : PySem.W.Frag) : Addr → Hp → Hp → Hp → List V → List PD → Prop := fun sa _ F' _ vs ds => RDs K sa F' vs ds
abbrev rT : Addr → Hp → Hp → Hp → Bool → Bool → Prop := fun _ _ _ _ b c => b = c
/-- a new list -/
abbrev rN (K : PySem.W.Frag) : Addr → Hp → Hp → Hp → V → List PD → Prop := fun sa H F' H' v xs => ∃ a vs, v = .ref a ∧ H' a = some (.lst vs) ∧ F' a = none ∧ H a = none ∧ DVs K F' vs xs
theorem RDs.mono {K : PySem.W.Frag} {sa : Addr} {F F' : Hp} {vs : List V} {ds : List PD} (s : Same F F') (h : RDs K sa F vs ds) : RDs K sa F' vs ds := by
  induction h with
  | nil => exact .nil
  | cons h1 _ ih => exact .cons (h1.mono s) ih
theorem RDs.len {K : PySem.W.Frag} {sa : Addr} {F : Hp} {vs : List V} {ds : List PD} (h : RDs K sa F vs ds) : vs.length = ds.length := by
  induction h with
  | nil => rfl
  | cons h1 _ ih => rw [List.length_cons, List.length_cons, ih]
theorem mono_E {K : PySem.W.Frag} : Mono (rE K) := fun _ _ _ _ _ _ _ _ _ _ _ _ h => h
theorem mono_A {K : PySem.W.Frag} : Mono (rA K) := fun _ _ _ _ _ _ _ _ _ _ _ _ h => h
theorem mono_T : Mono rT := fun _ _ _ _ _ _ _ _ _ _ _ _ h => h
theorem mono_N {K : PySem.W.Frag} : Mono (rN K) := fun sa F H F1 H1 st1 F' H' x d b p ⟨a, vs, e, e1, e2, e3, e4⟩ => by
  refine ⟨a, vs, e, e1, e2, ?_, e4⟩
  cases q : H a with
  | none => rfl
  | some o => rw [p.pr a o q (b.ne e3)] at e3; cases e3
section
variable {α β γ δ : Type} {K : PySem.W.Frag} {mg : Str → Option Value} {W : WX} {sa : Addr} {F0 H0 F H F1 H1 : Hp} {σ : L2.St} {env : Env} {st st1 : S}
theorem Post.shift {rel : Addr → Hp → Hp → Hp → β → α → Prop} (m : Mono rel) {r : R α} {Q : β → Hp → Prop} (p : Stp sa F H F1 H1 st1) (h : Post mg W sa σ F H (rel sa) r Q) : Post mg W sa σ F1 H1 (rel sa) r Q := by
  cases r with
  | ok d st' => exact fun v F' H' q rl => h v F' H' (p.trans q) (m _ _ _ _ _ _ _ _ _ _ p.bs p rl)
  | ex c st' => exact fun F' H' C q e => h F' H' C (p.trans q) e
  | bad => exact h
/-- first the one, then what hangs on it -/
theorem Ref.bind {rel : Addr → Hp → Hp → Hp → β → α → Prop} {rel' : Addr → Hp → Hp → Hp → δ → γ → Prop} {ta : L2.St → Hp → (β → Hp → Prop) → Prop} {fa : Env → M α} {k : α → S → R γ} {Q : δ → Hp → Prop} {Q' : β → Hp → Prop}
    (m : Mono rel') (ha : Ref K mg W rel ta fa) (s : Sim K sa F0 H0 F H σ env st) (h : Post mg W sa σ F H (rel' sa) ((fa env st).bind k) Q)
    (hk : ∀ x F1 H1 d st1, Stp sa F H F1 H1 st1 → Sim K sa F0 H0 F1 H1 σ env st1 → rel sa H F1 H1 x d → Post mg W sa σ F1 H1 (rel' sa) (k d st1) Q → Q' x H1) : ta σ H Q' := by
  refine ha sa F0 H0 F H σ env st Q' s ?_
  cases e : fa env st with
  | ok d st1 =>
    rw [e] at h
    exact fun v F1 H1 p r => hk v F1 H1 d st1 p (s.step p) r (h.shift m p)
  | ex c st1 => rw [e] at h; exact h
  | bad => rw [e] at h; exact h
end
end DL
/-! DL2: expressions of data. -/
namespace DL
open PySem PySem.Spec PyProof.Rows L2

/-! ### what a datum says of its value -/
section
variable {K : PySem.W.Frag} {sa : Addr} {F : Hp} {v : V}
theorem RD.int {i : Int} (h : RD K sa F v (.int i)) : v = .int i := by
  rcases h with h | ⟨e, _⟩
  · cases h; rfl
  · cases e
theorem RD.bl {i : Bool} (h : RD K sa F v (.bool i)) : v = .bl i := by
  rcases h with h | ⟨e, _⟩
  · cases h; rfl
  · cases e
theorem RD.str {i : Str} (h : RD K sa F v (.str i)) : v = .str i := by
  rcases h with h | ⟨e, _⟩
  · cases h; rfl
  · cases e
theorem RD.non (h : RD K sa F v .none) : v = .non := by
  rcases h with h | ⟨e, _⟩
  · cases h; rfl
  · cases e
theorem RD.lst {ds : List PD} (h : RD K sa F v (.list ds)) : ∃ a xs, v = .ref a ∧ F a = some (.lst xs) ∧ DVs K F xs ds := by
  rcases h with h | ⟨e, _⟩
  · cases h with
    | lst h1 h2 => exact ⟨_, _, rfl, h1, h2⟩
  · cases e
theorem RD.tup {ds : List PD} (h : RD K sa F v (.tuple ds)) : ∃ a xs, v = .ref a ∧ SqT K F a xs ∧ DVs K F xs ds := by
  rcases h with h | ⟨e, _⟩
  · cases h with
    | tup h1 h2 => exact ⟨_, _, rfl, h1, h2⟩
  · cases e
theorem RD.stt (h : RD K sa F v STT) : v = .ref sa := by
  rcases h with h | ⟨_, e⟩
  · cases h
  · exact e
theorem RD.dv {d : PD} (h : RD K sa F v d) (hs : SeqAt.shaped d = true) : DV K F v d := by
  rcases h with h | ⟨e, _⟩
  · exact h
  · subst e; exact absurd hs (by decide)
end
theorem fst_eq {xs ys : List V} {p : Addr} {F : Hp} (h : F p = some (.lst xs)) (h' : F p = some (.lst ys)) : xs = ys := by
  rw [h] at h'; cases h'; rfl
/-- a datum without the state's mark -/
def isD : PD → Bool
  | .dict _ => false
  | _ => true
theorem RD.dv' {K : PySem.W.Frag} {sa : Addr} {F : Hp} {v : V} {d : PD} (h : RD K sa F v d) (hs : isD d = true) : DV K F v d := by
  rcases h with h | ⟨e, _⟩
  · exact h
  · subst e; exact absurd hs (by decide)
theorem RDs.dvs {K : PySem.W.Frag} {sa : Addr} {F : Hp} {vs : List V} {ds : List PD} (h : RDs K sa F vs ds) (hs : ds.all isD = true) : DVs K F vs ds := by
  induction h with
  | nil => exact .nil
  | cons h1 _ ih =>
    rw [List.all_cons, Bool.and_eq_true] at hs
    exact .cons (h1.dv' hs.1) (ih hs.2)

/-! ### derivations -/
structure OkX (X : Cx) (K : PySem.W.Frag) (mg : Str → Option Value) : Prop where
  hK : X.K = K
  hm : X.mg = mg
structure DE (X : Cx) (K : PySem.W.Frag) (mg : Str → Option Value) (W : WX) (e : Expr) (t : TE) (f : Env → M PD) : Prop where
  pe : PE X e t
  rf : Ref K mg W (rE K) t f
structure DN (X : Cx) (K : PySem.W.Frag) (mg : Str → Option Value) (W : WX) (e : Expr) (t : TE) (f : Env → M (List PD)) : Prop where
  pe : PE X e t
  rf : Ref K mg W (rN K) t f
structure DA (X : Cx) (K : PySem.W.Frag) (mg : Str → Option Value) (W : WX) (es : List Expr) (t : TA) (f : Env → M (List PD)) : Prop where
  pe : PA X es t
  rf : Ref K mg W (rA K) t f
structure DT (X : Cx) (K : PySem.W.Frag) (mg : Str → Option Value) (W : WX) (e : Expr) (t : TT) (f : Env → M Bool) : Prop where
  pe : PT X e t
  rf : Ref K mg W rT t f
structure DW (X : Cx) (K : PySem.W.Frag) (mg : Str → Option Value) (W : WX) (e : Expr) (t : TT) (f : Env → M Bool) : Prop where
  pe : PW X e t
  rf : Ref K mg W rT t f

/-! ### names, constants -/
def eC (d : PD) : Env → M PD := fun _ st => .ok d st
def eV (i : Nat) : Env → M PD := fun env st => match env[i]? with
  | some (some (.v d)) => .ok d st
  | _ => .bad
section
variable {X : Cx} {K : PySem.W.Frag} {mg : Str → Option Value} {W : WX}
theorem ref_tC {K : PySem.W.Frag} {mg : Str → Option Value} {v : V} {d : PD} (h : ∀ F, DV K F v d) : Ref K mg W (rE K) (tC v) (eC d) := fun sa F0 H0 F H σ env st Q s p => p v F H s.bs.refl (.inl (h F))
theorem de_int {i j pos} (ok : OkX X K mg := by exact ⟨rfl, rfl⟩) : DE X K mg W (.Constant (.int i) j pos) (tC (.int i)) (eC (.int i)) := by
  obtain ⟨rfl, rfl⟩ := ok
  exact ⟨pe_int, ref_tC fun _ => .int i⟩
theorem de_bl {i j pos} (ok : OkX X K mg := by exact ⟨rfl, rfl⟩) : DE X K mg W (.Constant (.bool i) j pos) (tC (.bl i)) (eC (.bool i)) := by
  obtain ⟨rfl, rfl⟩ := ok
  exact ⟨pe_bl, ref_tC fun _ => .bl i⟩
theorem de_str {i j pos} (ok : OkX X K mg := by exact ⟨rfl, rfl⟩) : DE X K mg W (.Constant (.str i) j pos) (tC (.str i)) (eC (.str i)) := by
  obtain ⟨rfl, rfl⟩ := ok
  exact ⟨pe_str, ref_tC fun _ => .str i⟩
theorem de_non {j pos} (ok : OkX X K mg := by exact ⟨rfl, rfl⟩) : DE X K mg W (.Constant .none j pos) (tC .non) (eC .none) := by
  obtain ⟨rfl, rfl⟩ := ok
  exact ⟨pe_non, ref_tC fun _ => .non⟩
theorem ref_tVar {K : PySem.W.Frag} {mg : Str → Option Value} {i : Nat} : Ref K mg W (rE K) (tVar i) (eV i) := fun sa F0 H0 F H σ env st Q s p => by
  unfold eV at p
  split at p
  · rename_i d e
    obtain ⟨v, e1, r⟩ := s.vals i d e
    exact ⟨v, e1, p v F H s.bs.refl r⟩
  · exact p.elim
theorem de_v (i : Nat) {x : Str} {pos : Pos} (hN : X.N[i]? = some x := by rfl) (hv : Vis X.env.scope x := by first | exact Or.inl rfl | exact Or.inr (Or.inl rfl) | exact Or.inr (Or.inr rfl)) (hd : (x == ("__debug__" : Str)) = false := by decide)
    (hcd : (x == ("__classdict__" : Str)) = false := by decide) (ok : OkX X K mg := by exact ⟨rfl, rfl⟩) : DE X K mg W (.Name x pos) (tVar i) (eV i) := by
  obtain ⟨rfl, rfl⟩ := ok
  exact ⟨pe_var hN hv hd hcd, ref_tVar⟩
theorem de_glI {x : Str} {i : Int} {t : Tok} {pos : Pos} (hm : mg x = some (.int i t)) (hg : Gl X x := by rfl) (hd : (x == ("__debug__" : Str)) = false := by decide) (ok : OkX X K mg := by exact ⟨rfl, rfl⟩) : DE X K mg W (.Name x pos) (tC (.int i)) (eC (.int i)) := by
  obtain ⟨rfl, rfl⟩ := ok
  exact ⟨pe_glob hg hm ⟨_, rfl⟩ hd, ref_tC fun _ => .int i⟩
/-- a module's constant -/
theorem de_gl {x : Str} {v : V} {d : PD} {u : Value} {pos : Pos} (hg : Gl X x) (hm : mg x = some u) (r : RelV v u) (h : ∀ F, DV K F v d) (hd : (x == ("__debug__" : Str)) = false := by decide) (ok : OkX X K mg := by exact ⟨rfl, rfl⟩) : DE X K mg W (.Name x pos) (tC v) (eC d) := by
  obtain ⟨rfl, rfl⟩ := ok
  exact ⟨pe_glob hg hm r hd, ref_tC h⟩
end

/-! ### operators -/
def OpRef (K : PySem.W.Frag) (r : R2) (op : S → PD → PD → Option PD) : Prop := ∀ sa F H st x y d e z Q, Bs sa F H st → RD K sa F x d → RD K sa F y e → op st d e = some z →
  (∀ v F' H', Stp sa F H F' H' st → RD K sa F' v z → Q v H') → r x y H Q
def e2 (op : S → PD → PD → Option PD) (fa fb : Env → M PD) : Env → M PD := fun env st => (fa env st).bind fun d s1 => (fb env s1).bind fun e s2 => R.ofO (op s2 d e) s2
def UnRef (K : PySem.W.Frag) (r : V → Hp → VK → Prop) (op : S → PD → Option PD) : Prop := ∀ sa F H st x d z Q, Bs sa F H st → RD K sa F x d → op st d = some z →
  (∀ v F' H', Stp sa F H F' H' st → RD K sa F' v z → Q v H') → r x H Q
def e1 (op : S → PD → Option PD) (fa : Env → M PD) : Env → M PD := fun env st => (fa env st).bind fun d s1 => R.ofO (op s1 d) s1
section
variable {K : PySem.W.Frag} {mg : Str → Option Value} {W : WX} {ta tb : TE} {fa fb : Env → M PD}
theorem ref_op {r : R2} {op : S → PD → PD → Option PD} (ho : OpRef K r op) (ha : Ref K mg W (rE K) ta fa) (hb : Ref K mg W (rE K) tb fb) : Ref K mg W (rE K) (tOp r ta tb) (e2 op fa fb) := fun sa F0 H0 F H σ env st Q s p => by
  refine Ref.bind (ta := ta) mono_E ha s p fun x F1 H1 d st1 p1 s1 r1 p => ?_
  refine Ref.bind (ta := tb) mono_E hb s1 p fun y F2 H2 e st2 p2 s2 r2 p => ?_
  cases hz : op st2 d e with
  | none => rw [hz] at p; exact p.elim
  | some z => rw [hz] at p; exact ho sa F2 H2 st2 x y d e z Q s2.bs (r1.mono p2.fm) r2 hz p
theorem ref_un {r : V → Hp → VK → Prop} {op : S → PD → Option PD} (ho : UnRef K r op) (ha : Ref K mg W (rE K) ta fa) : Ref K mg W (rE K) (tUn r ta) (e1 op fa) := fun sa F0 H0 F H σ env st Q s p => by
  refine Ref.bind (ta := ta) mono_E ha s p fun x F1 H1 d st1 p1 s1 r1 p => ?_
  cases hz : op st1 d with
  | none => rw [hz] at p; exact p.elim
  | some z => rw [hz] at p; exact ho sa F1 H1 st1 x d z Q s1.bs r1 hz p
/-- a value at hand -/
theorem Bs.val {sa : Addr} {F H : Hp} {st : S} {Q : VK} {z : PD} {v : V} (b : Bs sa F H st) (h : ∀ v F' H', Stp sa F H F' H' st → RD K sa F' v z → Q v H') (hv : DV K F v z) : Q v H := h v F H b.refl (.inl hv)
/-- a new frozen list, a new tuple -/
theorem Bs.list {sa : Addr} {F H : Hp} {st : S} {Q : VK} {zs : List PD} {vs : List V} {p : Addr} (b : Bs sa F H st) (hp : H p = none) (h : ∀ v F' H', Stp sa F H F' H' st → RD K sa F' v (.list zs) → Q v H') (hv : DVs K F vs zs) : Q (.ref p) (upd H p (.lst vs)) :=
  h _ _ _ (b.newF hp _) (.inl (.lst upd_same (hv.mono (b.newF hp (.lst vs)).fm)))
theorem Bs.tuple {sa : Addr} {F H : Hp} {st : S} {Q : VK} {zs : List PD} {vs : List V} {p : Addr} (b : Bs sa F H st) (hp : H p = none) (h : ∀ v F' H', Stp sa F H F' H' st → RD K sa F' v (.tuple zs) → Q v H') (hv : DVs K F vs zs) : Q (.ref p) (upd H p (.tup vs)) :=
  h _ _ _ (b.newF hp _) (.inl (.tup (SqT.of upd_same) (hv.mono (b.newF hp (.tup vs)).fm)))
end

/-! #### + - * // % ** -/
def opAdd : S → PD → PD → Option PD := fun _ d e => match d, e with
  | .int i, .int j => some (.int (i + j))
  | .str a, .str b => if a.length + b.length ≤ sizeLine then some (.str (a ++ b)) else none
  | .tuple a, .tuple b => if a.length + b.length ≤ sizeLine then some (.tuple (a ++ b)) else none
  | .list a, .list b => if a.length + b.length ≤ sizeLine then some (.list (a ++ b)) else none
  | _, _ => none
def rAddD (K : PySem.W.Frag) : R2 := fun x y H Q => (rI0 fun i j => .int (i + j)) x y H Q ∨ (∃ i j, x = .str i ∧ y = .str j ∧ i.length + j.length ≤ sizeLine ∧ Q (.str (i ++ j)) H) ∨ rCatA K x y H Q ∨ rCat x y H Q
theorem op_addD {X : Cx} : OpR X (binaryOp .Add) (rAddD X.K) := op_add.or (op_add_str.or (op_catA.or op_cat))
theorem addRef {K : PySem.W.Frag} : OpRef K (rAddD K) opAdd := by
  intro sa F H st x y d e z Q b rx ry hz q
  unfold opAdd at hz
  split at hz
  · cases hz
    rw [rx.int, ry.int]
    exact .inl ⟨_, _, rfl, rfl, b.val q (.int _)⟩
  · split at hz
    · cases hz
      rw [rx.str, ry.str]
      exact .inr (.inl ⟨_, _, rfl, rfl, by assumption, b.val q (.str _)⟩)
    · cases hz
  · rename_i a1 b1
    split at hz
    · rename_i hl
      cases hz
      obtain ⟨p1, xs, rfl, h1, h2⟩ := rx.tup
      obtain ⟨p2, ys, rfl, h3, h4⟩ := ry.tup
      refine .inr (.inr (.inl ⟨p1, p2, xs, ys, rfl, rfl, sqT_mono b.sub h1, sqT_mono b.sub h3, by rw [h2.len, h4.len]; exact hl, fun e => ?_, fun _ e => ?_, fun _ _ p hp => ?_⟩))
      · subst e
        have : a1 = [] := List.eq_nil_of_length_eq_zero h2.len.symm
        subst this
        exact b.val q (.tup h3 h4)
      · subst e
        have : b1 = [] := List.eq_nil_of_length_eq_zero h4.len.symm
        subst this
        rw [List.append_nil] at q
        exact b.val q (.tup h1 h2)
      · exact b.tuple hp q (h2.append h4)
    · cases hz
  · split at hz
    · rename_i hl
      cases hz
      obtain ⟨p1, xs, rfl, h1, h2⟩ := rx.lst
      obtain ⟨p2, ys, rfl, h3, h4⟩ := ry.lst
      exact .inr (.inr (.inr ⟨p1, p2, xs, ys, rfl, rfl, b.sub _ _ h1, b.sub _ _ h3, by rw [h2.len, h4.len]; exact hl, fun p hp => b.list hp q (h2.append h4)⟩))
    · cases hz
  · cases hz
def opSub : S → PD → PD → Option PD := fun _ d e => match d, e with
  | .int i, .int j => some (.int (i - j))
  | _, _ => none
theorem subRef {K : PySem.W.Frag} : OpRef K (rI0 fun i j => .int (i - j)) opSub := by
  intro sa F H st x y d e z Q b rx ry hz q
  unfold opSub at hz
  split at hz
  · cases hz
    rw [rx.int, ry.int]
    exact ⟨_, _, rfl, rfl, b.val q (.int _)⟩
  · cases hz
/-- text * int -/
def rMulS : R2 := fun x y H Q => ∃ a n, x = .str a ∧ y = .int n ∧ MulOk a n ∧ Q (.str (Txt.mul a n)) H
theorem op_mulS {X : Cx} : OpR X (binaryOp .Mult) rMulS := by
  intro pins s σ H x y v u Q I rx ry h
  obtain ⟨a, n, rfl, rfl, hk, q⟩ := h
  obtain ⟨t, rfl⟩ := rx
  obtain ⟨t', rfl⟩ := ry
  exact SB.mul hk fun t' k => ⟨.str _, H, I.kept (h' := s.heap) (fun b o e => e), ⟨_, rfl⟩, q⟩
/-- small factors of a text, of a list -/
def smallRep (n : Nat) (k : Int) : Bool := decide (0 ≤ k) && decide (k ≤ 1000000) && decide (n * k.toNat ≤ 1000000)
theorem mulOk_of {a : Str} {n : Int} (h : smallRep a.length n = true) : MulOk a n := by
  unfold smallRep at h
  rw [Bool.and_eq_true, Bool.and_eq_true] at h
  have h0 := of_decide_eq_true h.1.1
  have h1 := of_decide_eq_true h.1.2
  have h2 := of_decide_eq_true h.2
  refine ⟨?_, fun h3 _ h4 => ?_, fun _ _ => ?_⟩
  · rw [Bool.or_eq_false_iff]
    exact ⟨decide_eq_false (by omega), decide_eq_false (by omega)⟩
  · have h5 : (a.length : Int) * n ≤ 1000000 := by
      have e : n = (n.toNat : Int) := by omega
      rw [e, ← Int.natCast_mul]
      omega
    have h6 : (a.length : Int) ≤ (2 ^ 63 - 1) / n := (Int.le_ediv_iff_mul_le (by omega)).mpr (Int.le_trans h5 (by decide))
    omega
  · unfold Builtin.Str.tooLong
    refine decide_eq_false ?_
    rw [sizeLine_eq]
    omega
def opMul : S → PD → PD → Option PD := fun _ d e => match d, e with
  | .int i, .int j => if i.natAbs.log2 + j.natAbs.log2 < 1000000 then some (.int (i * j)) else none
  | .str a, .int n => if smallRep a.length n = true then some (.str (Txt.mul a n)) else none
  | .list a, .int n => if smallRep a.length n = true then some (.list (List.replicate n.toNat a).flatten) else none
  | _, _ => none
def rMulD : R2 := fun x y H Q => (rI CMulW fun i j => .int (i * j)) x y H Q ∨ rMulS x y H Q ∨ rRep x y H Q
theorem op_mulD {X : Cx} : OpR X (binaryOp .Mult) rMulD := op_mulW.or (op_mulS.or op_rep)
theorem DVs.flat {K : PySem.W.Frag} {F : Hp} {vs : List V} {ds : List PD} (h : DVs K F vs ds) : ∀ n : Nat, DVs K F (List.replicate n vs).flatten (List.replicate n ds).flatten
  | 0 => .nil
  | n + 1 => by
    rw [List.replicate_succ, List.replicate_succ, List.flatten_cons, List.flatten_cons]
    exact h.append (DVs.flat h n)
theorem mulRef {K : PySem.W.Frag} : OpRef K rMulD opMul := by
  intro sa F H st x y d e z Q b rx ry hz q
  unfold opMul at hz
  split at hz
  · split at hz
    · rename_i hl
      cases hz
      rw [rx.int, ry.int]
      exact .inl ⟨_, _, rfl, rfl, hl, b.val q (.int _)⟩
    · cases hz
  · split at hz
    · rename_i hl
      cases hz
      rw [rx.str, ry.int]
      exact .inr (.inl ⟨_, _, rfl, rfl, mulOk_of hl, b.val q (.str _)⟩)
    · cases hz
  · split at hz
    · rename_i hl
      cases hz
      obtain ⟨p1, xs, rfl, h1, h2⟩ := rx.lst
      unfold smallRep at hl
      rw [Bool.and_eq_true, Bool.and_eq_true] at hl
      have l0 := of_decide_eq_true hl.1.1
      have l1 := of_decide_eq_true hl.1.2
      have l2 := of_decide_eq_true hl.2
      rw [ry.int]
      exact .inr (.inr ⟨p1, _, xs, rfl, rfl, b.sub _ _ h1, by omega, by omega, by rw [h2.len, sizeLine_eq]; omega, fun p hp => b.list hp q (h2.flat _)⟩)
    · cases hz
  · cases hz
def opDiv : S → PD → PD → Option PD := fun _ d e => match d, e with
  | .int i, .int j => if j ≠ 0 ∧ (j.natAbs < 1073741824 ∨ (0 < j ∧ j.natAbs.log2 < 9000)) then some (.int (i.fdiv j)) else none
  | _, _ => none
def rDivD : R2 := fun x y H Q => (rI CDivN fun i j => .int (i.fdiv j)) x y H Q ∨ (rI CDivW fun i j => .int (i / j)) x y H Q
theorem op_divD {X : Cx} : OpR X (binaryOp .FloorDiv) rDivD := op_fdivN.or op_fdivW
theorem divRef {K : PySem.W.Frag} : OpRef K rDivD opDiv := by
  intro sa F H st x y d e z Q b rx ry hz q
  unfold opDiv at hz
  split at hz
  · split at hz
    · rename_i i j hl
      cases hz
      rw [rx.int, ry.int]
      rcases hl.2 with h | h
      · exact .inl ⟨_, _, rfl, rfl, ⟨hl.1, h⟩, b.val q (.int _)⟩
      · refine .inr ⟨_, _, rfl, rfl, h, ?_⟩
        show Q (.int (i / j)) H
        rw [← Int.fdiv_eq_ediv_of_nonneg i (Int.le_of_lt h.1)]
        exact b.val q (.int _)
    · cases hz
  · cases hz
def opMod : S → PD → PD → Option PD := fun _ d e => match d, e with
  | .int i, .int j => if j ≠ 0 then some (.int (i.fmod j)) else none
  | _, _ => none
theorem modRef {K : PySem.W.Frag} : OpRef K (rI (fun _ j => j ≠ 0) fun i j => .int (i.fmod j)) opMod := by
  intro sa F H st x y d e z Q b rx ry hz q
  unfold opMod at hz
  split at hz
  · split at hz
    · rename_i hl
      cases hz
      rw [rx.int, ry.int]
      exact ⟨_, _, rfl, rfl, hl, b.val q (.int _)⟩
    · cases hz
  · cases hz
def opPow : S → PD → PD → Option PD := fun _ d e => match d, e with
  | .int i, .int j => if 0 ≤ j ∧ j ≤ 1000000 ∧ i.natAbs < 2 ^ 64 then some (.int (i ^ j.toNat)) else none
  | _, _ => none
theorem powRef {K : PySem.W.Frag} : OpRef K (rI CPow fun i j => .int (i ^ j.toNat)) opPow := by
  intro sa F H st x y d e z Q b rx ry hz q
  unfold opPow at hz
  split at hz
  · split at hz
    · rename_i hl
      cases hz
      rw [rx.int, ry.int]
      exact ⟨_, _, rfl, rfl, hl, b.val q (.int _)⟩
    · cases hz
  · cases hz
def opNeg : S → PD → Option PD := fun _ d => match d with
  | .int i => some (.int (-i))
  | _ => none
theorem negRef {K : PySem.W.Frag} : UnRef K (rU fun i => .int (-i)) opNeg := by
  intro sa F H st x d z Q b rx hz q
  unfold opNeg at hz
  split at hz
  · cases hz
    rw [rx.int]
    exact ⟨_, rfl, b.val q (.int _)⟩
  · cases hz

/-! #### comparisons -/
def opEq : S → PD → PD → Option PD := fun _ d e => if SeqAt.shaped d = true ∧ SeqAt.shaped e = true then some (.bool (PyData.eqv d e)) else none
theorem eqRef {K : PySem.W.Frag} : OpRef K (rEqD K) opEq := by
  intro sa F H st x y d e z Q b rx ry hz q
  unfold opEq at hz
  split at hz
  · rename_i hl
    cases hz
    exact ⟨d, e, ((rx.dv hl.1).mono b.sub).dp, ((ry.dv hl.2).mono b.sub).dp, hl.1, hl.2, b.val q (.bl _)⟩
  · cases hz
def opNe : S → PD → PD → Option PD := fun _ d e => if SeqAt.shaped d = true ∧ SeqAt.shaped e = true then some (.bool (!PyData.eqv d e)) else none
theorem neRef {K : PySem.W.Frag} : OpRef K (rNeD K) opNe := by
  intro sa F H st x y d e z Q b rx ry hz q
  unfold opNe at hz
  split at hz
  · rename_i hl
    cases hz
    exact ⟨d, e, ((rx.dv hl.1).mono b.sub).dp, ((ry.dv hl.2).mono b.sub).dp, hl.1, hl.2, b.val q (.bl _)⟩
  · cases hz
def opCmp (g : Int → Int → Bool) : S → PD → PD → Option PD := fun _ d e => match d, e with
  | .int i, .int j => some (.bool (g i j))
  | _, _ => none
theorem cmpRef {K : PySem.W.Frag} {g : Int → Int → Bool} : OpRef K (rI0 fun i j => .bl (g i j)) (opCmp g) := by
  intro sa F H st x y d e z Q b rx ry hz q
  unfold opCmp at hz
  split at hz
  · cases hz
    rw [rx.int, ry.int]
    exact ⟨_, _, rfl, rfl, b.val q (.bl _)⟩
  · cases hz
abbrev opLt := opCmp fun i j => decide (i < j)
abbrev opLe := opCmp fun i j => decide (i ≤ j)
abbrev opGt := opCmp fun i j => decide (j < i)
abbrev opGe := opCmp fun i j => decide (j ≤ i)
def isNon : PD → Bool
  | .none => true
  | _ => false
/-- is, is not: of None, of two bools -/
def opIs (neg : Bool) : S → PD → PD → Option PD := fun _ d e => match d, e with
  | .bool a, .bool b => some (.bool (if neg then !decide (a = b) else decide (a = b)))
  | d, .none => if isD d then some (.bool (if neg then !isNon d else isNon d)) else none
  | _, _ => none
def rIs : R2 := fun x y H Q => (y = .non ∧ Q (.bl (decide (x = .non))) H) ∨ (∃ a b : Bool, x = .bl a ∧ y = .bl b ∧ Q (.bl (decide (a = b))) H)
def rIsNt : R2 := fun x y H Q => (y = .non ∧ Q (.bl (!decide (x = .non))) H) ∨ (∃ a b : Bool, x = .bl a ∧ y = .bl b ∧ Q (.bl (!decide (a = b))) H)
theorem op_isD {X : Cx} : OpR X (compareOp .Is) rIs := op_isN.or op_isBl
theorem op_isNtD {X : Cx} : OpR X (compareOp .IsNot) rIsNt := op_notN.or op_notBl
theorem DV.isNon {K : PySem.W.Frag} {F : Hp} {x : V} {d : PD} (h : DV K F x d) : decide (x = V.non) = DL.isNon d := by
  cases h <;> first | rfl | simp [DL.isNon]
theorem isRef {K : PySem.W.Frag} : OpRef K rIs (opIs false) := by
  intro sa F H st x y d e z Q b rx ry hz q
  unfold opIs at hz
  split at hz
  · cases hz
    rw [rx.bl, ry.bl]
    exact .inr ⟨_, _, rfl, rfl, b.val q (.bl _)⟩
  · split at hz
    · rename_i h
      cases hz
      refine .inl ⟨ry.non, ?_⟩
      rw [(rx.dv' h).isNon]
      exact b.val q (.bl _)
    · cases hz
  · cases hz
theorem isNtRef {K : PySem.W.Frag} : OpRef K rIsNt (opIs true) := by
  intro sa F H st x y d e z Q b rx ry hz q
  unfold opIs at hz
  split at hz
  · cases hz
    rw [rx.bl, ry.bl]
    exact .inr ⟨_, _, rfl, rfl, b.val q (.bl _)⟩
  · split at hz
    · rename_i h
      cases hz
      refine .inl ⟨ry.non, ?_⟩
      rw [(rx.dv' h).isNon]
      exact b.val q (.bl _)
    · cases hz
  · cases hz
/-! #### in -/
def flatD : PD → Bool
  | .none => true
  | .bool _ => true
  | .int _ => true
  | .str _ => true
  | _ => false
def opIn (neg : Bool) : S → PD → PD → Option PD := fun _ d e => match e with
  | .list ds => if SeqAt.shaped d = true ∧ SeqAt.shaped (.list ds) = true then some (.bool (if neg then !ds.any fun z => PyData.eqv z d else ds.any fun z => PyData.eqv z d)) else none
  | .tuple ds => if flatD d = true ∧ ds.all flatD = true then some (.bool (if neg then !ds.any fun z => PyData.eqv z d else ds.any fun z => PyData.eqv z d)) else none
  | _ => none
def rInT (K : PySem.W.Frag) : R2 := fun x y H Q => rInD K x y H Q ∨ rIn K false x y H Q
def rNotInT (K : PySem.W.Frag) : R2 := fun x y H Q => rNotInD K x y H Q ∨ rIn K true x y H Q
theorem op_inT {X : Cx} (hu : X.A.units + 65 < cLine) : OpR X (compareOp .In) (rInT X.K) := (op_inD hu).or op_in_seq
theorem op_notInT {X : Cx} (hu : X.A.units + 65 < cLine) : OpR X (compareOp .NotIn) (rNotInT X.K) := (op_notInD hu).or op_notIn_seq
theorem DV.flat {K : PySem.W.Frag} {F : Hp} {x : V} {d : PD} (h : DV K F x d) (hf : flatD d = true) : flatV x = true := by
  cases h <;> first | rfl | cases hf
theorem DV.eqV {K : PySem.W.Frag} {F : Hp} {x y : V} {d e : PD} (h : DV K F x d) (h' : DV K F y e) (hf : flatD d = true) (hf' : flatD e = true) : L2.eqV x y = PyData.eqv d e := by
  cases h <;> first | (cases h' <;> first | rfl | cases hf') | cases hf
theorem DVs.flatAll {K : PySem.W.Frag} {F : Hp} : ∀ {xs : List V} {ds : List PD}, DVs K F xs ds → ds.all flatD = true → xs.all flatV = true
  | _, [], h, _ => by cases h; rfl
  | _, d :: ds, h, hf => by
    cases h with
    | cons h1 h2 =>
      rw [List.all_cons, Bool.and_eq_true] at hf
      rw [List.all_cons, Bool.and_eq_true]
      exact ⟨h1.flat hf.1, DVs.flatAll h2 hf.2⟩
theorem DVs.inV {K : PySem.W.Frag} {F : Hp} {y : V} {e : PD} (hy : DV K F y e) (fe : flatD e = true) : ∀ {xs : List V} {ds : List PD}, DVs K F xs ds → ds.all flatD = true → L2.inV y xs = ds.any fun z => PyData.eqv z e
  | _, [], h, _ => by cases h; rfl
  | _, d :: ds, h, hf => by
    cases h with
    | cons h1 h2 =>
      rw [List.all_cons, Bool.and_eq_true] at hf
      unfold L2.inV
      rw [List.any_cons, List.any_cons, h1.eqV hy hf.1 fe]
      exact congrArg _ (DVs.inV hy fe h2 hf.2)
theorem inRef {K : PySem.W.Frag} : OpRef K (rInT K) (opIn false) := by
  intro sa F H st x y d e z Q b rx ry hz q
  unfold opIn at hz
  split at hz
  · split at hz
    · rename_i hl
      cases hz
      exact .inl ⟨d, _, ((rx.dv hl.1).mono b.sub).dp, ((ry.dv hl.2).mono b.sub).dp, hl.1, hl.2, b.val q (.bl _)⟩
    · cases hz
  · split at hz
    · rename_i hl
      cases hz
      obtain ⟨p, xs, rfl, h1, h2⟩ := ry.tup
      have hx : DV K F x d := rx.dv' (by have := hl.1; cases d <;> first | rfl | cases this)
      refine .inr ⟨p, xs, rfl, .inr (sqT_mono b.sub h1), hx.flat hl.1, h2.flatAll hl.2, ?_⟩
      show Q (.bl (L2.inV x xs)) H
      rw [DVs.inV hx hl.1 h2 hl.2]
      exact b.val q (.bl _)
    · cases hz
  · cases hz
theorem notInRef {K : PySem.W.Frag} : OpRef K (rNotInT K) (opIn true) := by
  intro sa F H st x y d e z Q b rx ry hz q
  unfold opIn at hz
  split at hz
  · split at hz
    · rename_i hl
      cases hz
      exact .inl ⟨d, _, ((rx.dv hl.1).mono b.sub).dp, ((ry.dv hl.2).mono b.sub).dp, hl.1, hl.2, b.val q (.bl _)⟩
    · cases hz
  · split at hz
    · rename_i hl
      cases hz
      obtain ⟨p, xs, rfl, h1, h2⟩ := ry.tup
      have hx : DV K F x d := rx.dv' (by have := hl.1; cases d <;> first | rfl | cases this)
      refine .inr ⟨p, xs, rfl, .inr (sqT_mono b.sub h1), hx.flat hl.1, h2.flatAll hl.2, ?_⟩
      show Q (.bl (!L2.inV x xs)) H
      rw [DVs.inV hx hl.1 h2 hl.2]
      exact b.val q (.bl _)
    · cases hz
  · cases hz

/-! #### subscripts -/
theorem DVs.atI {K : PySem.W.Frag} {F : Hp} {xs : List V} {ds : List PD} {i : Int} {d : PD} (h : DVs K F xs ds) (e : L2.atI ds i = some d) : ∃ v, L2.atI xs i = some v ∧ DV K F v d := by
  unfold L2.atI at e ⊢
  rw [h.len]
  cases q : ixN ds.length i with
  | none => rw [q] at e; cases e
  | some j =>
    rw [q] at e
    obtain ⟨v, e1, e2⟩ := h.get (i := j) e
    exact ⟨v, e1, e2⟩
/-- a field of the law's state -/
def stAt (st : S) (i : Int) : Option PD :=
  if i = 0 then some (.list (st.cells.map .int)) else if i = 1 then some (.int st.pos) else if i = 2 then some (.int st.cell) else if i = 3 then some (.int st.left) else if i = 4 then some (.bool st.big) else none
def opIx : S → PD → PD → Option PD := fun st d e => match d, e with
  | .list ds, .int i => L2.atI ds i
  | .tuple ds, .int i => L2.atI ds i
  | .str z, .int i => if z.length ≤ sizeLine then (L2.atI z.cps.toList i).map fun c => .str ⟨#[c]⟩ else none
  | .dict [], .int i => stAt st i
  | _, _ => none
theorem ixRef {K : PySem.W.Frag} : OpRef K (rIx K) opIx := by
  intro sa F H st x y d e z Q b rx ry hz q
  unfold opIx at hz
  split at hz
  · obtain ⟨p, xs, rfl, h1, h2⟩ := rx.lst
    rw [ry.int]
    obtain ⟨v, e1, e2⟩ := h2.atI hz
    exact .inl ⟨p, xs, _, v, rfl, rfl, SqL.of (b.sub _ _ h1), e1, b.val q e2⟩
  · obtain ⟨p, xs, rfl, h1, h2⟩ := rx.tup
    rw [ry.int]
    obtain ⟨v, e1, e2⟩ := h2.atI hz
    exact .inr (.inl ⟨p, xs, _, v, rfl, rfl, sqT_mono b.sub h1, e1, b.val q e2⟩)
  · split at hz
    · rename_i z0 i hl
      rw [rx.str, ry.int]
      cases e : L2.atI z0.cps.toList i with
      | none => rw [e] at hz; cases hz
      | some c =>
        rw [e] at hz
        cases hz
        exact .inr (.inr ⟨_, _, c, rfl, rfl, hl, e, b.val q (.str _)⟩)
    · cases hz
  · rename_i i
    rw [rx.stt, ry.int]
    obtain ⟨sc, e1, e2⟩ := b.sr
    unfold stAt at hz
    have go : ∀ (j : Nat) v d, (stV sc st)[j]? = some v → DV K F v d → some d = some z → i = j → rIx K (V.ref sa) (V.int i) H Q := fun j v d h1 h2 h3 h4 => by
      cases h3
      subst h4
      exact .inl ⟨sa, _, _, v, rfl, rfl, SqL.of e1, atI_nat h1, b.val q h2⟩
    split at hz
    · exact go 0 _ _ rfl (.lst e2 DVs.of_ints) hz (by assumption)
    · split at hz
      · exact go 1 _ _ rfl (.int _) hz (by assumption)
      · split at hz
        · exact go 2 _ _ rfl (.int _) hz (by assumption)
        · split at hz
          · exact go 3 _ _ rfl (.int _) hz (by assumption)
          · split at hz
            · exact go 4 _ _ rfl (.bl _) hz (by assumption)
            · cases hz
  · cases hz
section
variable {X : Cx} {K : PySem.W.Frag} {mg : Str → Option Value} {W : WX} {a b : Expr} {ta tb : TE} {fa fb : Env → M PD} {pos : Pos}
theorem de_add (ha : DE X K mg W a ta fa) (hb : DE X K mg W b tb fb) (ok : OkX X K mg := by exact ⟨rfl, rfl⟩) : DE X K mg W (.BinOp a .Add b pos) (tOp (rAddD K) ta tb) (e2 opAdd fa fb) := by
  obtain ⟨rfl, rfl⟩ := ok
  exact ⟨pe_op op_addD ha.pe hb.pe, ref_op addRef ha.rf hb.rf⟩
theorem de_sub (ha : DE X K mg W a ta fa) (hb : DE X K mg W b tb fb) (ok : OkX X K mg := by exact ⟨rfl, rfl⟩) : DE X K mg W (.BinOp a .Sub b pos) (tOp (rI0 fun i j => .int (i - j)) ta tb) (e2 opSub fa fb) := by
  obtain ⟨rfl, rfl⟩ := ok
  exact ⟨pe_op op_sub ha.pe hb.pe, ref_op subRef ha.rf hb.rf⟩
theorem de_mul (ha : DE X K mg W a ta fa) (hb : DE X K mg W b tb fb) (ok : OkX X K mg := by exact ⟨rfl, rfl⟩) : DE X K mg W (.BinOp a .Mult b pos) (tOp rMulD ta tb) (e2 opMul fa fb) := by
  obtain ⟨rfl, rfl⟩ := ok
  exact ⟨pe_op op_mulD ha.pe hb.pe, ref_op mulRef ha.rf hb.rf⟩
theorem de_div (ha : DE X K mg W a ta fa) (hb : DE X K mg W b tb fb) (ok : OkX X K mg := by exact ⟨rfl, rfl⟩) : DE X K mg W (.BinOp a .FloorDiv b pos) (tOp rDivD ta tb) (e2 opDiv fa fb) := by
  obtain ⟨rfl, rfl⟩ := ok
  exact ⟨pe_op op_divD ha.pe hb.pe, ref_op divRef ha.rf hb.rf⟩
theorem de_mod (ha : DE X K mg W a ta fa) (hb : DE X K mg W b tb fb) (ok : OkX X K mg := by exact ⟨rfl, rfl⟩) : DE X K mg W (.BinOp a .Mod b pos) (tOp (rI (fun _ j => j ≠ 0) fun i j => .int (i.fmod j)) ta tb) (e2 opMod fa fb) := by
  obtain ⟨rfl, rfl⟩ := ok
  exact ⟨pe_op op_modN ha.pe hb.pe, ref_op modRef ha.rf hb.rf⟩
theorem de_pow (ha : DE X K mg W a ta fa) (hb : DE X K mg W b tb fb) (ok : OkX X K mg := by exact ⟨rfl, rfl⟩) : DE X K mg W (.BinOp a .Pow b pos) (tOp (rI CPow fun i j => .int (i ^ j.toNat)) ta tb) (e2 opPow fa fb) := by
  obtain ⟨rfl, rfl⟩ := ok
  exact ⟨pe_op op_pow ha.pe hb.pe, ref_op powRef ha.rf hb.rf⟩
theorem de_neg (ha : DE X K mg W a ta fa) (ok : OkX X K mg := by exact ⟨rfl, rfl⟩) : DE X K mg W (.UnaryOp .USub a pos) (tUn (rU fun i => .int (-i)) ta) (e1 opNeg fa) := by
  obtain ⟨rfl, rfl⟩ := ok
  exact ⟨pe_un un_neg ha.pe, ref_un negRef ha.rf⟩
theorem de_cmp {op : CmpOp} {r : R2} {dop : S → PD → PD → Option PD} (ho : OpR X (compareOp op) r ∧ OpRef K r dop) (ha : DE X K mg W a ta fa) (hb : DE X K mg W b tb fb) (hm : behindInMarks op b = false) (ok : OkX X K mg := by exact ⟨rfl, rfl⟩) : DE X K mg W (.Compare a [op] [b] pos) (tOp r ta tb) (e2 dop fa fb) := by
  obtain ⟨rfl, rfl⟩ := ok
  exact ⟨pe_cmpR ho.1 ha.pe hb.pe hm, ref_op ho.2 ha.rf hb.rf⟩
theorem c_eq {k : Nat} (hr : Room k X.A) (ok : OkX X K mg := by exact ⟨rfl, rfl⟩) : OpR X (compareOp .Eq) (rEqD K) ∧ OpRef K (rEqD K) opEq := by
  obtain ⟨rfl, rfl⟩ := ok
  exact ⟨op_eqD hr.units, eqRef⟩
theorem c_ne {k : Nat} (hr : Room k X.A) (ok : OkX X K mg := by exact ⟨rfl, rfl⟩) : OpR X (compareOp .NotEq) (rNeD K) ∧ OpRef K (rNeD K) opNe := by
  obtain ⟨rfl, rfl⟩ := ok
  exact ⟨op_neD hr.units, neRef⟩
theorem c_lt (ok : OkX X K mg := by exact ⟨rfl, rfl⟩) : OpR X (compareOp .Lt) (rI0 fun i j => .bl (decide (i < j))) ∧ OpRef K (rI0 fun i j => .bl (decide (i < j))) opLt := by
  obtain ⟨rfl, rfl⟩ := ok
  exact ⟨op_lt, cmpRef⟩
theorem c_le (ok : OkX X K mg := by exact ⟨rfl, rfl⟩) : OpR X (compareOp .LtE) (rI0 fun i j => .bl (decide (i ≤ j))) ∧ OpRef K (rI0 fun i j => .bl (decide (i ≤ j))) opLe := by
  obtain ⟨rfl, rfl⟩ := ok
  exact ⟨op_le, cmpRef⟩
theorem c_gt (ok : OkX X K mg := by exact ⟨rfl, rfl⟩) : OpR X (compareOp .Gt) (rI0 fun i j => .bl (decide (j < i))) ∧ OpRef K (rI0 fun i j => .bl (decide (j < i))) opGt := by
  obtain ⟨rfl, rfl⟩ := ok
  exact ⟨op_gt, cmpRef⟩
theorem c_ge (ok : OkX X K mg := by exact ⟨rfl, rfl⟩) : OpR X (compareOp .GtE) (rI0 fun i j => .bl (decide (j ≤ i))) ∧ OpRef K (rI0 fun i j => .bl (decide (j ≤ i))) opGe := by
  obtain ⟨rfl, rfl⟩ := ok
  exact ⟨op_ge, cmpRef⟩
theorem c_is (ok : OkX X K mg := by exact ⟨rfl, rfl⟩) : OpR X (compareOp .Is) rIs ∧ OpRef K rIs (opIs false) := by
  obtain ⟨rfl, rfl⟩ := ok
  exact ⟨op_isD, isRef⟩
theorem c_isNt (ok : OkX X K mg := by exact ⟨rfl, rfl⟩) : OpR X (compareOp .IsNot) rIsNt ∧ OpRef K rIsNt (opIs true) := by
  obtain ⟨rfl, rfl⟩ := ok
  exact ⟨op_isNtD, isNtRef⟩
theorem room65 {k : Nat} {A : Around} (hr : Room k A) : A.units + 65 < cLine := by have := hr.un; omega
theorem c_in {k : Nat} (hr : Room k X.A) (ok : OkX X K mg := by exact ⟨rfl, rfl⟩) : OpR X (compareOp .In) (rInT K) ∧ OpRef K (rInT K) (opIn false) := by
  obtain ⟨rfl, rfl⟩ := ok
  exact ⟨op_inT (room65 hr), inRef⟩
theorem c_notIn {k : Nat} (hr : Room k X.A) (ok : OkX X K mg := by exact ⟨rfl, rfl⟩) : OpR X (compareOp .NotIn) (rNotInT K) ∧ OpRef K (rNotInT K) (opIn true) := by
  obtain ⟨rfl, rfl⟩ := ok
  exact ⟨op_notInT (room65 hr), notInRef⟩
theorem de_ix (ha : DE X K mg W a ta fa) (hb : DE X K mg W b tb fb) (hs : PlainIx b) (ok : OkX X K mg := by exact ⟨rfl, rfl⟩) : DE X K mg W (.Subscript a b pos) (tOp (rIx K) ta tb) (e2 opIx fa fb) := by
  obtain ⟨rfl, rfl⟩ := ok
  exact ⟨pe_ix ix_seq ha.pe hb.pe hs, ref_op ixRef ha.rf hb.rf⟩
end
end DL
/-! DL3: displays, calls, built-ins, tests, comprehensions. -/
namespace DL
open PySem PySem.Spec PyProof.Rows L2

/-! ### what is read: a datum, or a list that is still one's own -/
def RP (K : PySem.W.Frag) (sa : Addr) (F H : Hp) (v : V) (d : PD) : Prop := (∃ a vs xs, v = .ref a ∧ d = .list xs ∧ a ≠ sa ∧ H a = some (.lst vs) ∧ DVs K F vs xs) ∨ RD K sa F v d
abbrev rP (K : PySem.W.Frag) : Addr → Hp → Hp → Hp → V → PD → Prop := fun sa _ F' H' v d => RP K sa F' H' v d
theorem mono_P {K : PySem.W.Frag} : Mono (rP K) := fun _ _ _ _ _ _ _ _ _ _ _ _ h => h
theorem RP.step {K : PySem.W.Frag} {sa : Addr} {F H F' H' : Hp} {st' : S} {v : V} {d : PD} (p : Stp sa F H F' H' st') (h : RP K sa F H v d) : RP K sa F' H' v d := by
  rcases h with ⟨a, vs, xs, e1, e2, e3, e4, e5⟩ | h
  · exact .inl ⟨a, vs, xs, e1, e2, e3, p.pr _ _ e4 e3, e5.mono p.fm⟩
  · exact .inr (h.mono p.fm)
theorem RP.int {K : PySem.W.Frag} {sa : Addr} {F H : Hp} {v : V} {i : Int} (h : RP K sa F H v (.int i)) : v = .int i := by
  rcases h with ⟨_, _, _, _, e, _⟩ | h
  · cases e
  · exact h.int
theorem RP.bl {K : PySem.W.Frag} {sa : Addr} {F H : Hp} {v : V} {i : Bool} (h : RP K sa F H v (.bool i)) : v = .bl i := by
  rcases h with ⟨_, _, _, _, e, _⟩ | h
  · cases e
  · exact h.bl
theorem RP.str {K : PySem.W.Frag} {sa : Addr} {F H : Hp} {v : V} {i : Str} (h : RP K sa F H v (.str i)) : v = .str i := by
  rcases h with ⟨_, _, _, _, e, _⟩ | h
  · cases e
  · exact h.str
theorem RP.tup {K : PySem.W.Frag} {sa : Addr} {F H : Hp} {v : V} {ds : List PD} (h : RP K sa F H v (.tuple ds)) : ∃ a xs, v = .ref a ∧ SqT K F a xs ∧ DVs K F xs ds := by
  rcases h with ⟨_, _, _, _, e, _⟩ | h
  · cases e
  · exact h.tup
theorem RP.lst {K : PySem.W.Frag} {sa : Addr} {F H : Hp} {st : S} {v : V} {ds : List PD} (b : Bs sa F H st) (h : RP K sa F H v (.list ds)) : ∃ a xs, v = .ref a ∧ H a = some (.lst xs) ∧ DVs K F xs ds := by
  rcases h with ⟨a, vs, xs, e1, e2, e3, e4, e5⟩ | h
  · cases e2; exact ⟨a, vs, e1, e4, e5⟩
  · obtain ⟨a, xs, e1, e2, e3⟩ := h.lst
    exact ⟨a, xs, e1, b.sub _ _ e2, e3⟩
structure DP (X : Cx) (K : PySem.W.Frag) (mg : Str → Option Value) (W : WX) (e : Expr) (t : TE) (f : Env → M PD) : Prop where
  pe : PE X e t
  rf : Ref K mg W (rP K) t f
def ePk (i : Nat) : Env → M PD := fun env st => match env[i]? with
  | some (some (.v d)) => .ok d st
  | some (some (.o xs)) => .ok (.list xs) st
  | _ => .bad
section
variable {X : Cx} {K : PySem.W.Frag} {mg : Str → Option Value} {W : WX}
theorem dp_of {e : Expr} {t : TE} {f : Env → M PD} (h : DE X K mg W e t f) (ok : OkX X K mg := by exact ⟨rfl, rfl⟩) : DP X K mg W e t f := by
  obtain ⟨rfl, rfl⟩ := ok
  exact ⟨h.pe, fun sa F0 H0 F H σ env st Q s p => by
  refine h.rf sa F0 H0 F H σ env st Q s ?_
  cases q : f env st with
  | ok d st' => rw [q] at p; exact fun v F' H' p1 r => p v F' H' p1 (.inr r)
  | ex c st' => rw [q] at p; exact p
  | bad => rw [q] at p; exact p⟩
theorem dp_pk (i : Nat) {x : Str} {pos : Pos} (hN : X.N[i]? = some x := by rfl) (hv : Vis X.env.scope x := by first | exact Or.inl rfl | exact Or.inr (Or.inl rfl) | exact Or.inr (Or.inr rfl)) (hd : (x == ("__debug__" : Str)) = false := by decide)
    (hcd : (x == ("__classdict__" : Str)) = false := by decide) (ok : OkX X K mg := by exact ⟨rfl, rfl⟩) : DP X K mg W (.Name x pos) (tVar i) (ePk i) := by
  obtain ⟨rfl, rfl⟩ := ok
  exact ⟨pe_var hN hv hd hcd, fun sa F0 H0 F H σ env st Q s p => by
  unfold ePk at p
  split at p
  · rename_i d e
    obtain ⟨v, e1, r⟩ := s.vals i d e
    exact ⟨v, e1, p v F H s.bs.refl (.inr r)⟩
  · rename_i xs e
    obtain ⟨a, vs, e1, e2, e3, e4, r⟩ := s.own i xs e
    exact ⟨_, e1, p _ F H s.bs.refl (.inl ⟨a, vs, xs, rfl, rfl, s.ne e4, e2, r⟩)⟩
  · exact p.elim⟩
end
def OpRefP (K : PySem.W.Frag) (r : R2) (op : S → PD → PD → Option PD) : Prop := ∀ sa F H st x y d e z Q, Bs sa F H st → RP K sa F H x d → RP K sa F H y e → op st d e = some z →
  (∀ v F' H', Stp sa F H F' H' st → RD K sa F' v z → Q v H') → r x y H Q
theorem ref_opP {K : PySem.W.Frag} {mg : Str → Option Value} {W : WX} {ta tb : TE} {fa fb : Env → M PD} {r : R2} {op : S → PD → PD → Option PD} (ho : OpRefP K r op) (ha : Ref K mg W (rP K) ta fa) (hb : Ref K mg W (rP K) tb fb) : Ref K mg W (rE K) (tOp r ta tb) (e2 op fa fb) := fun sa F0 H0 F H σ env st Q s p => by
  refine Ref.bind (ta := ta) mono_E ha s p fun x F1 H1 d st1 p1 s1 r1 p => ?_
  refine Ref.bind (ta := tb) mono_E hb s1 p fun y F2 H2 e st2 p2 s2 r2 p => ?_
  cases hz : op st2 d e with
  | none => rw [hz] at p; exact p.elim
  | some z => rw [hz] at p; exact ho sa F2 H2 st2 x y d e z Q s2.bs (RP.step p2 r1) r2 hz p
theorem ixRefP {K : PySem.W.Frag} : OpRefP K (rIx K) opIx := by
  intro sa F H st x y d e z Q b rx ry hz q
  rcases rx with ⟨a, vs, xs, rfl, rfl, e3, e4, e5⟩ | rx
  · unfold opIx at hz
    split at hz
    · rename_i ds i e6
      cases e6
      rw [ry.int]
      obtain ⟨v, e1, e2⟩ := e5.atI hz
      exact .inl ⟨a, vs, _, v, rfl, rfl, SqL.of e4, e1, b.val q e2⟩
    all_goals first | (rename_i e6; cases e6; done) | (rename_i e6 _; cases e6; done) | cases hz
  · have ry' : ∀ i, e = .int i → RD K sa F y (.int i) := fun i ei => by subst ei; rw [ry.int]; exact .inl (.int i)
    unfold opIx at hz
    have hz' : opIx st d e = some z := hz
    cases e with
    | int i => exact ixRef sa F H st x y d _ z Q b rx (ry' i rfl) hz' q
    | _ => cases d <;> first | cases hz | (rename_i kv; cases kv <;> cases hz)
theorem de_ixP {X : Cx} {K : PySem.W.Frag} {mg : Str → Option Value} {W : WX} {a b : Expr} {ta tb : TE} {fa fb : Env → M PD} {pos : Pos} (ha : DP X K mg W a ta fa) (hb : DP X K mg W b tb fb) (hs : PlainIx b) (ok : OkX X K mg := by exact ⟨rfl, rfl⟩) : DE X K mg W (.Subscript a b pos) (tOp (rIx K) ta tb) (e2 opIx fa fb) := by
  obtain ⟨rfl, rfl⟩ := ok
  exact ⟨pe_ix ix_seq ha.pe hb.pe hs, ref_opP ixRefP ha.rf hb.rf⟩

/-! ### arguments, displays -/
def aNil : Env → M (List PD) := fun _ st => .ok [] st
def aCons (fa : Env → M PD) (fr : Env → M (List PD)) : Env → M (List PD) := fun env st => (fa env st).bind fun d s1 => (fr env s1).bind fun ds s2 => .ok (d :: ds) s2
inductive RPs (K : PySem.W.Frag) (sa : Addr) (F H : Hp) : List V → List PD → Prop
  | nil : RPs K sa F H [] []
  | cons {v : V} {vs : List V} {d : PD} {ds : List PD} : RP K sa F H v d → RPs K sa F H vs ds → RPs K sa F H (v :: vs) (d :: ds)
abbrev rAP (K : PySem.W.Frag) : Addr → Hp → Hp → Hp → List V → List PD → Prop := fun sa _ F' H' vs ds => RPs K sa F' H' vs ds
theorem mono_AP {K : PySem.W.Frag} : Mono (rAP K) := fun _ _ _ _ _ _ _ _ _ _ _ _ h => h
structure DAP (X : Cx) (K : PySem.W.Frag) (mg : Str → Option Value) (W : WX) (es : List Expr) (t : TA) (f : Env → M (List PD)) : Prop where
  pe : PA X es t
  rf : Ref K mg W (rAP K) t f
section
variable {X : Cx} {K : PySem.W.Frag} {mg : Str → Option Value} {W : WX} {e : Expr} {es : List Expr} {te : TE} {t : TA} {fa : Env → M PD} {fr : Env → M (List PD)} {pos : Pos}
theorem da_nil (ok : OkX X K mg := by exact ⟨rfl, rfl⟩) : DA X K mg W [] tNil aNil := by
  obtain ⟨rfl, rfl⟩ := ok
  exact ⟨pa_nil, fun sa F0 H0 F H σ env st Q s p => p [] F H s.bs.refl .nil⟩
theorem da_cons (ha : DE X K mg W e te fa) (hr : DA X K mg W es t fr) (hs : starEach (e :: es) X.env = (false, eval e X.env) :: starEach es X.env := by rfl) (ok : OkX X K mg := by exact ⟨rfl, rfl⟩) : DA X K mg W (e :: es) (tCons te t) (aCons fa fr) := by
  obtain ⟨rfl, rfl⟩ := ok
  exact ⟨pa_cons ha.pe hr.pe hs, fun sa F0 H0 F H σ env st Q s p => by
  refine Ref.bind (ta := te) mono_A ha.rf s p fun x F1 H1 d st1 p1 s1 r1 p => ?_
  refine Ref.bind (ta := t) mono_A hr.rf s1 p fun xs F2 H2 ds st2 p2 s2 r2 p => ?_
  exact p _ F2 H2 s2.bs.refl (.cons (r1.mono p2.fm) r2)⟩
theorem dap_nil (ok : OkX X K mg := by exact ⟨rfl, rfl⟩) : DAP X K mg W [] tNil aNil := by
  obtain ⟨rfl, rfl⟩ := ok
  exact ⟨pa_nil, fun sa F0 H0 F H σ env st Q s p => p [] F H s.bs.refl .nil⟩
theorem dap_cons (ha : DP X K mg W e te fa) (hr : DAP X K mg W es t fr) (hs : starEach (e :: es) X.env = (false, eval e X.env) :: starEach es X.env := by rfl) (ok : OkX X K mg := by exact ⟨rfl, rfl⟩) : DAP X K mg W (e :: es) (tCons te t) (aCons fa fr) := by
  obtain ⟨rfl, rfl⟩ := ok
  exact ⟨pa_cons ha.pe hr.pe hs, fun sa F0 H0 F H σ env st Q s p => by
  refine Ref.bind (ta := te) mono_AP ha.rf s p fun x F1 H1 d st1 p1 s1 r1 p => ?_
  refine Ref.bind (ta := t) mono_AP hr.rf s1 p fun xs F2 H2 ds st2 p2 s2 r2 p => ?_
  exact p _ F2 H2 s2.bs.refl (.cons (RP.step p2 r1) r2)⟩
theorem le_line {n : Nat} (h : n ≤ 10000) : n ≤ sizeLine := by rw [sizeLine_eq]; omega
def eTup (fa : Env → M (List PD)) : Env → M PD := fun env st => (fa env st).bind fun ds s => if (ds.all isD && decide (ds.length ≤ 10000)) = true then .ok (.tuple ds) s else .bad
theorem de_tup {x1} (h : DA X K mg W es t fr) (ok : OkX X K mg := by exact ⟨rfl, rfl⟩) : DE X K mg W (.Tuple es x1 pos) (tTup t) (eTup fr) := by
  obtain ⟨rfl, rfl⟩ := ok
  exact ⟨pe_tup h.pe, fun sa F0 H0 F H σ env st Q s p => by
  refine Ref.bind (ta := t) mono_E h.rf s p fun xs F1 H1 ds st1 p1 s1 r1 p => ?_
  split at p
  · rename_i c
    rw [Bool.and_eq_true] at c
    have hl := of_decide_eq_true c.2
    exact ⟨by rw [r1.len]; exact le_line hl, fun q hq => s1.bs.tuple hq p (r1.dvs c.1)⟩
  · exact p.elim⟩
def nLst (fa : Env → M (List PD)) : Env → M (List PD) := fun env st => (fa env st).bind fun ds s => if (ds.all isD && decide (ds.length ≤ 10000)) = true then .ok ds s else .bad
theorem dn_lst (h : DA X K mg W es t fr) (ok : OkX X K mg := by exact ⟨rfl, rfl⟩) : DN X K mg W (.List es pos) (tLst t) (nLst fr) := by
  obtain ⟨rfl, rfl⟩ := ok
  exact ⟨pe_lst h.pe, fun sa F0 H0 F H σ env st Q s p => by
  refine Ref.bind (ta := t) mono_N h.rf s p fun xs F1 H1 ds st1 p1 s1 r1 p => ?_
  split at p
  · rename_i c
    rw [Bool.and_eq_true] at c
    have hl := of_decide_eq_true c.2
    exact ⟨by rw [r1.len]; exact le_line hl, fun q hq => p _ _ _ (s1.bs.newU hq _) ⟨q, xs, rfl, upd_same, s1.bs.ff hq, hq, r1.dvs c.1⟩⟩
  · exact p.elim⟩
end
/-- a list of one's own, from now on frozen -/
theorem Stp.freeze {sa : Addr} {F H F' H' : Hp} {st' : S} {a : Addr} {o : HO} (p : Stp sa F H F' H' st') (e : H' a = some o) (f : F' a = none) (n : H a = none) (ne : a ≠ sa) : Stp sa F H (upd F' a o) H' st' where
  fm := fun b x h => same_upd f _ _ (p.fm b x h)
  fn := fun b hb hn => by
    by_cases z : b = a
    · subst z; exact n
    · rw [upd_ne z] at hn; exact p.fn b hb hn
  pr := p.pr
  bs := by
    refine ⟨fun b x h => ?_, ?_, ?_⟩
    · by_cases z : b = a
      · subst z; rw [upd_same] at h; cases h; exact e
      · rw [upd_ne z] at h; exact p.bs.sub b x h
    · rw [upd_ne ne.symm]; exact p.bs.fsa
    · obtain ⟨sc, e1, e2⟩ := p.bs.sr
      exact ⟨sc, e1, same_upd f _ _ e2⟩
def eL (f : Env → M (List PD)) : Env → M PD := fun env st => (f env st).bind fun xs s => .ok (.list xs) s
theorem de_n {X : Cx} {K : PySem.W.Frag} {mg : Str → Option Value} {W : WX} {e : Expr} {t : TE} {f : Env → M (List PD)} (h : DN X K mg W e t f) (ok : OkX X K mg := by exact ⟨rfl, rfl⟩) : DE X K mg W e t (eL f) := by
  obtain ⟨rfl, rfl⟩ := ok
  exact ⟨h.pe, fun sa F0 H0 F H σ env st Q s p => by
  refine h.rf sa F0 H0 F H σ env st Q s ?_
  unfold eL at p
  cases q : f env st with
  | ok xs st' =>
    rw [q] at p
    refine fun v F' H' p1 r1 => ?_
    obtain ⟨a, vs, rfl, e1, e2, e3, e4⟩ := r1
    have fz := p1.freeze e1 e2 e3 (s.bs.ne e3)
    exact p _ _ _ fz (.inl (.lst upd_same (e4.mono (same_upd e2))))
  | ex c st' => rw [q] at p; exact p
  | bad => rw [q] at p; exact p⟩

/-! ### calls of defs -/
def spD (K : PySem.W.Frag) (mg : Str → Option Value) (n : Nat) (f : List PD → M PD) : Sp := fun vs H Q E => ∃ sa F ds st, ds.length = n ∧ Bs sa F H st ∧ RDs K sa F vs ds ∧ Post mg (fun c d _ H' => E c d H') sa [] F H (rE K sa) (f ds st) Q
def callF (n : Nat) (f : List PD → M PD) (fa : Env → M (List PD)) : Env → M PD := fun env st => (fa env st).bind fun ds s => if ds.length = n then f ds s else .bad
/-- a def that may be called -/
structure Cal (P : Program) (w : World) (K : PySem.W.Frag) (mg : Str → Option Value) (base : Heap) (k : Nat) (x : Str) (ps : List Str) (m : List PD → M PD) : Prop where
  ex : ∃ f fd, FnOk P w K mg base (L2.CX P w) k f fd ps (spD K mg ps.length m) ∧ mg x = some (.ref f) ∧ PySem.W.keepIn K (.ref f) = true ∧ Binds K fd ps []
theorem Cal.mono {P : Program} {w : World} {K : PySem.W.Frag} {mg : Str → Option Value} {base : Heap} {j k : Nat} {x : Str} {ps : List Str} {m : List PD → M PD} (C : Cal P w K mg base j x ps m) (h : j ≤ k) : Cal P w K mg base k x ps m := by
  obtain ⟨f, fd, h1, h2⟩ := C.ex
  exact ⟨f, fd, h1.mono h, h2⟩
section
variable {X : Cx} {K : PySem.W.Frag} {mg : Str → Option Value} {W : WX} {k : Nat} {x : Str} {ps : List Str} {m : List PD → M PD} {e : Expr} {es : List Expr} {t : TA} {fa : Env → M (List PD)} {p pos : Pos}
theorem de_call {n : Nat} (C : Cal X.prog X.w K mg X.base k x ps m) (hr : Room k X.A) (tk : Takes X W) (ha : DA X K mg W (e :: es) t fa) (hn : ps.length = n := by rfl) (hg : Gl X x := by rfl) (hdb : (x == ("__debug__" : Str)) = false := by decide)
    (he : starEach (e :: es) X.env = (false, eval e X.env) :: starEach es X.env := by rfl) (hpl : (backTo pos (starEach es X.env)).any (·.1) = false := by rfl) (ok : OkX X K mg := by exact ⟨rfl, rfl⟩) :
    DE X K mg W (.Call (.Name x p) (e :: es) [] pos) (tCallS (spD K mg n m) (WE W) t) (callF n m fa) := by
  obtain ⟨rfl, rfl⟩ := ok
  subst hn
  obtain ⟨f, fd, h1, h2, h3, h4⟩ := C.ex
  refine ⟨pe_callS h1 hr hg h2 h3 h4 (fun σ => passAt tk σ) ha.pe hdb he hpl, fun sa F0 H0 F H σ env st Q s p => ?_⟩
  refine Ref.bind (ta := t) mono_E ha.rf s p fun vs F1 H1 ds st1 p1 s1 r1 p => ?_
  split at p
  · rename_i hl
    refine ⟨sa, F1, ds, st1, hl, s1.bs, r1, ?_⟩
    cases q : m ds st1 with
    | ok d st' => rw [q] at p; exact p
    | ex c st' => rw [q] at p; exact p
    | bad => rw [q] at p; exact p
  · exact p.elim
end

/-! ### built-ins -/
def BRef (K : PySem.W.Frag) (r : List V → Hp → VK → Prop) (op : S → List PD → Option PD) : Prop := ∀ sa F H st vs ds z Q, Bs sa F H st → RPs K sa F H vs ds → op st ds = some z →
  (∀ v F' H', Stp sa F H F' H' st → RD K sa F' v z → Q v H') → r vs H Q
def NRef (K : PySem.W.Frag) (r : List V → Hp → VK → Prop) (op : S → List PD → Option (List PD)) : Prop := ∀ sa F H st vs ds zs (Q : VK), Bs sa F H st → RPs K sa F H vs ds → op st ds = some zs →
  (∀ p us, H p = none → DVs K F us zs → Q (.ref p) (upd H p (.lst us))) → r vs H Q
def eB (op : S → List PD → Option PD) (fa : Env → M (List PD)) : Env → M PD := fun env st => (fa env st).bind fun ds s => R.ofO (op s ds) s
def nB (op : S → List PD → Option (List PD)) (fa : Env → M (List PD)) : Env → M (List PD) := fun env st => (fa env st).bind fun ds s => R.ofO (op s ds) s
theorem RPs.one {K : PySem.W.Frag} {sa : Addr} {F H : Hp} {vs : List V} {d : PD} (h : RPs K sa F H vs [d]) : ∃ v, vs = [v] ∧ RP K sa F H v d := by
  cases h with
  | cons h1 h2 => cases h2; exact ⟨_, rfl, h1⟩
theorem RPs.two {K : PySem.W.Frag} {sa : Addr} {F H : Hp} {vs : List V} {d e : PD} (h : RPs K sa F H vs [d, e]) : ∃ v u, vs = [v, u] ∧ RP K sa F H v d ∧ RP K sa F H u e := by
  cases h with
  | cons h1 h2 =>
    obtain ⟨u, rfl, h3⟩ := h2.one
    exact ⟨_, _, rfl, h1, h3⟩
section
variable {X : Cx} {K : PySem.W.Frag} {mg : Str → Option Value} {W : WX} {x id T : Str} {e : Expr} {es : List Expr} {t : TA} {fa : Env → M (List PD)} {p pos : Pos} {r : List V → Hp → VK → Prop}
theorem ref_B {K : PySem.W.Frag} {mg : Str → Option Value} {op : S → List PD → Option PD} (ho : BRef K r op) (ha : Ref K mg W (rAP K) t fa) : Ref K mg W (rE K) (tCB r t) (eB op fa) := fun sa F0 H0 F H σ env st Q s p => by
  refine Ref.bind (ta := t) mono_E ha s p fun vs F1 H1 ds st1 p1 s1 r1 p => ?_
  cases hz : op st1 ds with
  | none => rw [hz] at p; exact p.elim
  | some z => rw [hz] at p; exact ho sa F1 H1 st1 vs ds z Q s1.bs r1 hz p
theorem ref_NB {K : PySem.W.Frag} {mg : Str → Option Value} {op : S → List PD → Option (List PD)} (ho : NRef K r op) (ha : Ref K mg W (rAP K) t fa) : Ref K mg W (rN K) (tCB r t) (nB op fa) := fun sa F0 H0 F H σ env st Q s p => by
  refine Ref.bind (ta := t) mono_N ha s p fun vs F1 H1 ds st1 p1 s1 r1 p => ?_
  cases hz : op st1 ds with
  | none => rw [hz] at p; exact p.elim
  | some z =>
    rw [hz] at p
    exact ho sa F1 H1 st1 vs ds z Q s1.bs r1 hz fun q us hq hd => p _ _ _ (s1.bs.newU hq _) ⟨q, us, rfl, upd_same, s1.bs.ff hq, hq, hd⟩
end
section
variable {X : Cx} {K : PySem.W.Frag} {mg : Str → Option Value} {W : WX} {x : Str} {id T : String} {e : Expr} {es : List Expr} {t : TA} {fa : Env → M (List PD)} {p pos : Pos} {r : List V → Hp → VK → Prop}
theorem de_B {op : S → List PD → Option PD} (ho : CallR X (.builtin id) r ∧ BRef K r op) (hm : mg x = none) (hv : bootBuiltins x = some (.builtin id)) (ha : DAP X K mg W (e :: es) t fa) (hg : Gl X x := by rfl) (hn : x ≠ "__name__" := by decide) (hdb : (x == ("__debug__" : Str)) = false := by decide)
    (he : starEach (e :: es) X.env = (false, eval e X.env) :: starEach es X.env := by rfl) (hpl : (backTo pos (starEach es X.env)).any (·.1) = false := by rfl) (ok : OkX X K mg := by exact ⟨rfl, rfl⟩) : DE X K mg W (.Call (.Name x p) (e :: es) [] pos) (tCB r t) (eB op fa) := by
  obtain ⟨rfl, rfl⟩ := ok
  exact ⟨pe_callB ho.1 hg hm hv ha.pe hn hdb he hpl, ref_B ho.2 ha.rf⟩
theorem de_T {op : S → List PD → Option PD} (ho : CallR X (.type T) r ∧ BRef K r op) (hm : mg x = none) (hv : bootBuiltins x = some (.type T)) (ha : DAP X K mg W (e :: es) t fa) (hg : Gl X x := by rfl) (hn : x ≠ "__name__" := by decide) (hdb : (x == ("__debug__" : Str)) = false := by decide)
    (he : starEach (e :: es) X.env = (false, eval e X.env) :: starEach es X.env := by rfl) (hpl : (backTo pos (starEach es X.env)).any (·.1) = false := by rfl) (ok : OkX X K mg := by exact ⟨rfl, rfl⟩) : DE X K mg W (.Call (.Name x p) (e :: es) [] pos) (tCB r t) (eB op fa) := by
  obtain ⟨rfl, rfl⟩ := ok
  exact ⟨pe_callTy ho.1 hg hm hv ha.pe hn hdb he hpl, ref_B ho.2 ha.rf⟩
theorem dn_B {op : S → List PD → Option (List PD)} (ho : CallR X (.builtin id) r ∧ NRef K r op) (hm : mg x = none) (hv : bootBuiltins x = some (.builtin id)) (ha : DAP X K mg W (e :: es) t fa) (hg : Gl X x := by rfl) (hn : x ≠ "__name__" := by decide) (hdb : (x == ("__debug__" : Str)) = false := by decide)
    (he : starEach (e :: es) X.env = (false, eval e X.env) :: starEach es X.env := by rfl) (hpl : (backTo pos (starEach es X.env)).any (·.1) = false := by rfl) (ok : OkX X K mg := by exact ⟨rfl, rfl⟩) : DN X K mg W (.Call (.Name x p) (e :: es) [] pos) (tCB r t) (nB op fa) := by
  obtain ⟨rfl, rfl⟩ := ok
  exact ⟨pe_callB ho.1 hg hm hv ha.pe hn hdb he hpl, ref_NB ho.2 ha.rf⟩
theorem dn_T {op : S → List PD → Option (List PD)} (ho : CallR X (.type T) r ∧ NRef K r op) (hm : mg x = none) (hv : bootBuiltins x = some (.type T)) (ha : DAP X K mg W (e :: es) t fa) (hg : Gl X x := by rfl) (hn : x ≠ "__name__" := by decide) (hdb : (x == ("__debug__" : Str)) = false := by decide)
    (he : starEach (e :: es) X.env = (false, eval e X.env) :: starEach es X.env := by rfl) (hpl : (backTo pos (starEach es X.env)).any (·.1) = false := by rfl) (ok : OkX X K mg := by exact ⟨rfl, rfl⟩) : DN X K mg W (.Call (.Name x p) (e :: es) [] pos) (tCB r t) (nB op fa) := by
  obtain ⟨rfl, rfl⟩ := ok
  exact ⟨pe_callTy ho.1 hg hm hv ha.pe hn hdb he hpl, ref_NB ho.2 ha.rf⟩
end
/-! #### len abs min max int sum all tuple list sorted str -/
def opLen : S → List PD → Option PD := fun _ ds => match ds with
  | [.list xs] => some (.int xs.length)
  | [.tuple xs] => some (.int xs.length)
  | [.str z] => if z.length ≤ sizeLine then some (.int z.length) else none
  | _ => none
theorem b_len {X : Cx} {K : PySem.W.Frag} {mg : Str → Option Value} (ok : OkX X K mg := by exact ⟨rfl, rfl⟩) : CallR X (.builtin "len") (fun xs H Q => ∃ x n, xs = [x] ∧ LenV K x H n ∧ Q (.int n) H) ∧ BRef K (fun xs H Q => ∃ x n, xs = [x] ∧ LenV K x H n ∧ Q (.int n) H) opLen := by
  obtain ⟨rfl, rfl⟩ := ok
  refine ⟨call_len, fun sa F H st vs ds z Q b r hz q => ?_⟩
  unfold opLen at hz
  split at hz
  · cases hz
    obtain ⟨v, rfl, r1⟩ := r.one
    obtain ⟨a, xs, rfl, h1, h2⟩ := RP.lst b r1
    exact ⟨_, _, rfl, .inl ⟨xs, SqL.of h1, h2.len.symm⟩, b.val q (.int _)⟩
  · cases hz
    obtain ⟨v, rfl, r1⟩ := r.one
    obtain ⟨a, xs, rfl, h1, h2⟩ := r1.tup
    exact ⟨_, _, rfl, .inr ⟨xs, sqT_mono b.sub h1, h2.len.symm⟩, b.val q (.int _)⟩
  · split at hz
    · rename_i hl
      cases hz
      obtain ⟨v, rfl, r1⟩ := r.one
      rw [r1.str]
      exact ⟨_, _, rfl, ⟨hl, rfl⟩, b.val q (.int _)⟩
    · cases hz
  · cases hz
def opAbs : S → List PD → Option PD := fun _ ds => match ds with
  | [.int i] => some (.int (i.natAbs : Int))
  | _ => none
theorem b_abs {X : Cx} {K : PySem.W.Frag} {mg : Str → Option Value} (ok : OkX X K mg := by exact ⟨rfl, rfl⟩) : CallR X (.builtin "abs") (fun xs H Q => ∃ i, xs = [.int i] ∧ Q (.int (if i < 0 then -i else i)) H) ∧ BRef K (fun xs H Q => ∃ i, xs = [.int i] ∧ Q (.int (if i < 0 then -i else i)) H) opAbs := by
  obtain ⟨rfl, rfl⟩ := ok
  refine ⟨call_abs, fun sa F H st vs ds z Q b r hz q => ?_⟩
  unfold opAbs at hz
  split at hz
  · rename_i i
    cases hz
    obtain ⟨v, rfl, r1⟩ := r.one
    rw [r1.int]
    refine ⟨_, rfl, ?_⟩
    have e : (if i < 0 then -i else i) = (i.natAbs : Int) := by split <;> omega
    rw [e]
    exact b.val q (.int _)
  · cases hz
def opMin2 : S → List PD → Option PD := fun _ ds => match ds with
  | [.int i, .int j] => some (.int (min i j))
  | _ => none
def opMax2 : S → List PD → Option PD := fun _ ds => match ds with
  | [.int i, .int j] => some (.int (max i j))
  | _ => none
theorem b_min2 {X : Cx} {K : PySem.W.Frag} {mg : Str → Option Value} (hc : X.calm = true := by rfl) (ok : OkX X K mg := by exact ⟨rfl, rfl⟩) : CallR X (.builtin "min") (fun xs H Q => ∃ i j, xs = [.int i, .int j] ∧ Q (.int (if j < i then j else i)) H) ∧ BRef K (fun xs H Q => ∃ i j, xs = [.int i, .int j] ∧ Q (.int (if j < i then j else i)) H) opMin2 := by
  obtain ⟨rfl, rfl⟩ := ok
  refine ⟨call_min2 hc, fun sa F H st vs ds z Q b r hz q => ?_⟩
  unfold opMin2 at hz
  split at hz
  · rename_i i j
    cases hz
    obtain ⟨v, u, rfl, r1, r2⟩ := r.two
    rw [r1.int, r2.int]
    refine ⟨_, _, rfl, ?_⟩
    have e : (if j < i then j else i) = min i j := by split <;> omega
    rw [e]
    exact b.val q (.int _)
  · cases hz
theorem b_max2 {X : Cx} {K : PySem.W.Frag} {mg : Str → Option Value} (hc : X.calm = true := by rfl) (ok : OkX X K mg := by exact ⟨rfl, rfl⟩) : CallR X (.builtin "max") (fun xs H Q => ∃ i j, xs = [.int i, .int j] ∧ Q (.int (if j > i then j else i)) H) ∧ BRef K (fun xs H Q => ∃ i j, xs = [.int i, .int j] ∧ Q (.int (if j > i then j else i)) H) opMax2 := by
  obtain ⟨rfl, rfl⟩ := ok
  refine ⟨call_max2 hc, fun sa F H st vs ds z Q b r hz q => ?_⟩
  unfold opMax2 at hz
  split at hz
  · rename_i i j
    cases hz
    obtain ⟨v, u, rfl, r1, r2⟩ := r.two
    rw [r1.int, r2.int]
    refine ⟨_, _, rfl, ?_⟩
    have e : (if j > i then j else i) = max i j := by split <;> omega
    rw [e]
    exact b.val q (.int _)
  · cases hz
def opInt : S → List PD → Option PD := fun _ ds => match ds with
  | [.int i] => some (.int i)
  | [.bool k] => some (.int (if k then 1 else 0))
  | _ => none
theorem b_int {X : Cx} {K : PySem.W.Frag} {mg : Str → Option Value} (ok : OkX X K mg := by exact ⟨rfl, rfl⟩) : CallR X (.type "int") (fun xs H Q => (∃ i, xs = [.int i] ∧ Q (.int i) H) ∨ ∃ k, xs = [.bl k] ∧ Q (.int (if k then 1 else 0)) H) ∧ BRef K (fun xs H Q => (∃ i, xs = [.int i] ∧ Q (.int i) H) ∨ ∃ k, xs = [.bl k] ∧ Q (.int (if k then 1 else 0)) H) opInt := by
  obtain ⟨rfl, rfl⟩ := ok
  refine ⟨call_int1, fun sa F H st vs ds z Q b r hz q => ?_⟩
  unfold opInt at hz
  split at hz
  · cases hz
    obtain ⟨v, rfl, r1⟩ := r.one
    rw [r1.int]
    exact .inl ⟨_, rfl, b.val q (.int _)⟩
  · cases hz
    obtain ⟨v, rfl, r1⟩ := r.one
    rw [r1.bl]
    exact .inr ⟨_, rfl, b.val q (.int _)⟩
  · cases hz
def asInt : PD → Option Int
  | .int i => some i
  | _ => none
def asBool : PD → Option Bool
  | .bool i => some i
  | _ => none
def asStr : PD → Option Str
  | .str i => some i
  | _ => none
def allInts : List PD → Option (List Int)
  | [] => some []
  | d :: ds => match asInt d, allInts ds with
    | some i, some r => some (i :: r)
    | _, _ => none
def allBools : List PD → Option (List Bool)
  | [] => some []
  | d :: ds => match asBool d, allBools ds with
    | some i, some r => some (i :: r)
    | _, _ => none
def allStrs : List PD → Option (List Str)
  | [] => some []
  | d :: ds => match asStr d, allStrs ds with
    | some i, some r => some (i :: r)
    | _, _ => none
theorem allInts_eq : ∀ {ds : List PD} {ns : List Int}, allInts ds = some ns → ds = ns.map PyData.int
  | [], ns, h => by cases h; rfl
  | d :: ds, ns, h => by
    unfold allInts at h
    split at h
    · rename_i i r e1 e2
      cases h
      rw [allInts_eq e2]
      cases d <;> first | (cases e1; rfl) | cases e1
    · cases h
theorem allBools_eq : ∀ {ds : List PD} {ns : List Bool}, allBools ds = some ns → ds = ns.map PyData.bool
  | [], ns, h => by cases h; rfl
  | d :: ds, ns, h => by
    unfold allBools at h
    split at h
    · rename_i i r e1 e2
      cases h
      rw [allBools_eq e2]
      cases d <;> first | (cases e1; rfl) | cases e1
    · cases h
theorem allStrs_eq : ∀ {ds : List PD} {ns : List Str}, allStrs ds = some ns → ds = ns.map PyData.str
  | [], ns, h => by cases h; rfl
  | d :: ds, ns, h => by
    unfold allStrs at h
    split at h
    · rename_i i r e1 e2
      cases h
      rw [allStrs_eq e2]
      cases d <;> first | (cases e1; rfl) | cases e1
    · cases h
theorem allInts_map (ns : List Int) : allInts (ns.map PyData.int) = some ns := by
  induction ns with
  | nil => rfl
  | cons n ns ih => simp only [List.map_cons, allInts, asInt, ih]
theorem allBools_map (ns : List Bool) : allBools (ns.map PyData.bool) = some ns := by
  induction ns with
  | nil => rfl
  | cons n ns ih => simp only [List.map_cons, allBools, asBool, ih]
theorem allStrs_map (ns : List Str) : allStrs (ns.map PyData.str) = some ns := by
  induction ns with
  | nil => rfl
  | cons n ns ih => simp only [List.map_cons, allStrs, asStr, ih]
theorem DVs.of_bools {K : PySem.W.Frag} {F : Hp} : ∀ {ns : List Bool}, DVs K F (ns.map V.bl) (ns.map PyData.bool)
  | [] => .nil
  | n :: ns => .cons (.bl n) DVs.of_bools
theorem DVs.of_strs {K : PySem.W.Frag} {F : Hp} : ∀ {ns : List Str}, DVs K F (ns.map V.str) (ns.map PyData.str)
  | [] => .nil
  | n :: ns => .cons (.str n) DVs.of_strs
def opSum : S → List PD → Option PD := fun _ ds => match ds with
  | [.list xs] => (allInts xs).map fun ns => .int ns.sum
  | _ => none
theorem b_sum {X : Cx} {K : PySem.W.Frag} {mg : Str → Option Value} (hc : X.calm = true := by rfl) (ok : OkX X K mg := by exact ⟨rfl, rfl⟩) : CallR X (.builtin "sum") (rSum K) ∧ BRef K (rSum K) opSum := by
  obtain ⟨rfl, rfl⟩ := ok
  refine ⟨cr_sum hc, fun sa F H st vs ds z Q b r hz q => ?_⟩
  unfold opSum at hz
  split at hz
  · rename_i xs
    cases e : allInts xs with
    | none => rw [e] at hz; cases hz
    | some ns =>
      rw [e] at hz
      cases hz
      obtain ⟨v, rfl, r1⟩ := r.one
      obtain ⟨a, us, rfl, h1, h2⟩ := RP.lst b r1
      rw [allInts_eq e] at h2
      rw [h2.ints] at h1
      exact ⟨a, ns, rfl, SqL.of h1, b.val q (.int _)⟩
  · cases hz
def opAll : S → List PD → Option PD := fun _ ds => match ds with
  | [.list xs] => (allBools xs).map fun ns => .bool (ns.all id)
  | _ => none
theorem b_all {X : Cx} {K : PySem.W.Frag} {mg : Str → Option Value} (hc : X.calm = true := by rfl) (ok : OkX X K mg := by exact ⟨rfl, rfl⟩) : CallR X (.builtin "all") (rAll K) ∧ BRef K (rAll K) opAll := by
  obtain ⟨rfl, rfl⟩ := ok
  refine ⟨cr_all hc, fun sa F H st vs ds z Q b r hz q => ?_⟩
  unfold opAll at hz
  split at hz
  · rename_i xs
    cases e : allBools xs with
    | none => rw [e] at hz; cases hz
    | some ns =>
      rw [e] at hz
      cases hz
      obtain ⟨v, rfl, r1⟩ := r.one
      obtain ⟨a, us, rfl, h1, h2⟩ := RP.lst b r1
      rw [allBools_eq e] at h2
      rw [h2.bools] at h1
      exact ⟨a, ns, rfl, SqL.of h1, b.val q (.bl _)⟩
  · cases hz
def opTuple : S → List PD → Option PD := fun _ ds => match ds with
  | [.list xs] => some (.tuple xs)
  | [.tuple xs] => some (.tuple xs)
  | _ => none
theorem b_tuple {X : Cx} {K : PySem.W.Frag} {mg : Str → Option Value} (ok : OkX X K mg := by exact ⟨rfl, rfl⟩) : CallR X (.type "tuple") (fun xs H Q => ∃ p ys, xs = [.ref p] ∧ ((SqL K H p ys ∧ ∀ l, H l = none → Q (.ref l) (upd H l (.tup ys))) ∨ (SqT K H p ys ∧ Q (.ref p) H))) ∧
    BRef K (fun xs H Q => ∃ p ys, xs = [.ref p] ∧ ((SqL K H p ys ∧ ∀ l, H l = none → Q (.ref l) (upd H l (.tup ys))) ∨ (SqT K H p ys ∧ Q (.ref p) H))) opTuple := by
  obtain ⟨rfl, rfl⟩ := ok
  refine ⟨call_tuple_of, fun sa F H st vs ds z Q b r hz q => ?_⟩
  unfold opTuple at hz
  split at hz
  · cases hz
    obtain ⟨v, rfl, r1⟩ := r.one
    obtain ⟨a, us, rfl, h1, h2⟩ := RP.lst b r1
    exact ⟨a, us, rfl, .inl ⟨SqL.of h1, fun l hl => b.tuple hl q h2⟩⟩
  · cases hz
    obtain ⟨v, rfl, r1⟩ := r.one
    obtain ⟨a, us, rfl, h1, h2⟩ := r1.tup
    exact ⟨a, us, rfl, .inr ⟨sqT_mono b.sub h1, b.val q (.tup h1 h2)⟩⟩
  · cases hz
def opList : S → List PD → Option (List PD) := fun _ ds => match ds with
  | [.list xs] => some xs
  | [.tuple xs] => some xs
  | _ => none
theorem n_list {X : Cx} {K : PySem.W.Frag} {mg : Str → Option Value} (ok : OkX X K mg := by exact ⟨rfl, rfl⟩) : CallR X (.type "list") (fun xs H Q => ∃ p ys, xs = [.ref p] ∧ (SqL K H p ys ∨ SqT K H p ys) ∧ ∀ l, H l = none → Q (.ref l) (upd H l (.lst ys))) ∧
    NRef K (fun xs H Q => ∃ p ys, xs = [.ref p] ∧ (SqL K H p ys ∨ SqT K H p ys) ∧ ∀ l, H l = none → Q (.ref l) (upd H l (.lst ys))) opList := by
  obtain ⟨rfl, rfl⟩ := ok
  refine ⟨call_list_of, fun sa F H st vs ds z Q b r hz q => ?_⟩
  unfold opList at hz
  split at hz
  · cases hz
    obtain ⟨v, rfl, r1⟩ := r.one
    obtain ⟨a, us, rfl, h1, h2⟩ := RP.lst b r1
    exact ⟨a, us, rfl, .inl (SqL.of h1), fun l hl => q l us hl h2⟩
  · cases hz
    obtain ⟨v, rfl, r1⟩ := r.one
    obtain ⟨a, us, rfl, h1, h2⟩ := r1.tup
    exact ⟨a, us, rfl, .inr (sqT_mono b.sub h1), fun l hl => q l us hl h2⟩
  · cases hz
/-- insertion -/
def ins (n : Int) : List Int → List Int
  | [] => [n]
  | x :: r => if n ≤ x then n :: x :: r else x :: ins n r
def isort : List Int → List Int
  | [] => []
  | n :: r => ins n (isort r)
theorem ins_perm (n : Int) : ∀ l : List Int, (ins n l).Perm (n :: l)
  | [] => .refl _
  | x :: r => by
    unfold ins
    split
    · exact .refl _
    · exact ((ins_perm n r).cons x).trans (.swap n x r)
theorem isort_perm : ∀ l : List Int, (isort l).Perm l
  | [] => .refl _
  | n :: r => (ins_perm n _).trans ((isort_perm r).cons n)
theorem ins_sorted {n : Int} : ∀ {l : List Int}, l.Pairwise (· ≤ ·) → (ins n l).Pairwise (· ≤ ·)
  | [], _ => List.pairwise_singleton _ _
  | x :: r, h => by
    have h' := List.pairwise_cons.mp h
    unfold ins
    split
    · refine List.pairwise_cons.mpr ⟨fun y hy => ?_, h⟩
      rcases List.mem_cons.mp hy with rfl | hy
      · assumption
      · have := h'.1 y hy
        omega
    · refine List.pairwise_cons.mpr ⟨fun y hy => ?_, ins_sorted h'.2⟩
      rcases List.mem_cons.mp ((ins_perm n r).mem_iff.mp hy) with rfl | hy
      · omega
      · exact h'.1 y hy
theorem isort_sorted : ∀ l : List Int, (isort l).Pairwise (· ≤ ·)
  | [] => .nil
  | n :: r => ins_sorted (isort_sorted r)
def opSortI : S → List PD → Option (List PD) := fun _ ds => match ds with
  | [.list xs] => (allInts xs).map fun ns => (isort ns).map .int
  | _ => none
theorem n_sortI {X : Cx} {K : PySem.W.Frag} {mg : Str → Option Value} (ok : OkX X K mg := by exact ⟨rfl, rfl⟩) : CallR X (.builtin "sorted") (rSortedI K) ∧ NRef K (rSortedI K) opSortI := by
  obtain ⟨rfl, rfl⟩ := ok
  refine ⟨cr_sortedI, fun sa F H st vs ds z Q b r hz q => ?_⟩
  unfold opSortI at hz
  split at hz
  · rename_i xs
    cases e : allInts xs with
    | none => rw [e] at hz; cases hz
    | some ns =>
      rw [e] at hz
      cases hz
      obtain ⟨v, rfl, r1⟩ := r.one
      obtain ⟨a, us, rfl, h1, h2⟩ := RP.lst b r1
      rw [allInts_eq e] at h2
      rw [h2.ints] at h1
      refine ⟨a, ns, rfl, SqL.of h1, fun ns' p hp hs hn => ?_⟩
      have e3 : ns' = isort ns := PySem.W.ksm_same (hp.trans (isort_perm ns).symm) hs (isort_sorted ns)
      subst e3
      exact q p _ hn DVs.of_ints
  · cases hz
def opStr : S → List PD → Option PD := fun _ ds => match ds with
  | [.int i] => if i.natAbs.log2 < 1920 then some (.str (toString i)) else none
  | _ => none
theorem b_str {X : Cx} {K : PySem.W.Frag} {mg : Str → Option Value} (ok : OkX X K mg := by exact ⟨rfl, rfl⟩) : CallR X (.type "str") (fun xs H Q => ∃ i, xs = [.int i] ∧ i.natAbs.log2 < 1920 ∧ Q (.str (toString i)) H) ∧ BRef K (fun xs H Q => ∃ i, xs = [.int i] ∧ i.natAbs.log2 < 1920 ∧ Q (.str (toString i)) H) opStr := by
  obtain ⟨rfl, rfl⟩ := ok
  refine ⟨call_str_int, fun sa F H st vs ds z Q b r hz q => ?_⟩
  unfold opStr at hz
  split at hz
  · split at hz
    · rename_i hl
      cases hz
      obtain ⟨v, rfl, r1⟩ := r.one
      rw [r1.int]
      exact ⟨_, rfl, hl, b.val q (.str _)⟩
    · cases hz
  · cases hz

/-! ### tests -/
def tV (f : Env → M PD) : Env → M Bool := fun env st => (f env st).bind fun d s => R.ofO (asBool d) s
def tNotF (f : Env → M Bool) : Env → M Bool := fun env st => (f env st).bind fun b s => .ok (!b) s
def tAndF (f g : Env → M Bool) : Env → M Bool := fun env st => (f env st).bind fun b s => match b with
  | true => g env s
  | false => .ok false s
def tOrF (f g : Env → M Bool) : Env → M Bool := fun env st => (f env st).bind fun b s => match b with
  | true => .ok true s
  | false => g env s
def eAnd (f g : Env → M PD) : Env → M PD := fun env st => (tV f env st).bind fun b s => match b with
  | true => g env s
  | false => .ok (.bool false) s
def eOr (f g : Env → M PD) : Env → M PD := fun env st => (tV f env st).bind fun b s => match b with
  | true => .ok (.bool true) s
  | false => g env s
def eNot (f : Env → M PD) : Env → M PD := fun env st => (tV f env st).bind fun b s => .ok (.bool (!b)) s
def eIf (c : Env → M Bool) (f g : Env → M PD) : Env → M PD := fun env st => (c env st).bind fun b s => match b with
  | true => f env s
  | false => g env s
theorem asBool_eq {d : PD} {b : Bool} (h : asBool d = some b) : d = .bool b := by
  cases d <;> first | (cases h; rfl) | cases h
theorem ref_tV {K : PySem.W.Frag} {mg : Str → Option Value} {W : WX} {t : TE} {f : Env → M PD} (h : Ref K mg W (rE K) t f) : Ref K mg W rT (tB t) (tV f) := fun sa F0 H0 F H σ env st Q s p => by
  refine Ref.bind (ta := t) mono_T h s p fun x F1 H1 d st1 p1 s1 r1 p => ?_
  cases e : asBool d with
  | none => rw [e] at p; exact p.elim
  | some b =>
    rw [e] at p
    rw [asBool_eq e] at r1
    exact ⟨b, r1.bl, p b F1 H1 s1.bs.refl rfl⟩
section
variable {X : Cx} {K : PySem.W.Frag} {mg : Str → Option Value} {W : WX} {a b c : Expr} {rest : List Expr} {ta tb tc : TE} {tA tB' : TT} {fa fb fc : Env → M PD} {gA gB : Env → M Bool} {pos : Pos}
theorem dt_val (h : DE X K mg W a ta fa) (he : ∀ whole, isTrue a X.env whole = (do let v ← whole; standAt a.pos; holding [v] (truthy v)) := by intro _; rfl) (ok : OkX X K mg := by exact ⟨rfl, rfl⟩) : DT X K mg W a (tB ta) (tV fa) := by
  obtain ⟨rfl, rfl⟩ := ok
  exact ⟨pt_val h.pe he, ref_tV h.rf⟩
theorem dt_cmp {op : CmpOp} {r : R2} {dop : S → PD → PD → Option PD} (ho : OpR X (compareOp op) r ∧ OpRef K r dop) (ha : DE X K mg W a ta fa) (hb : DE X K mg W b tb fb) (hm : behindInMarks op b = false) (ok : OkX X K mg := by exact ⟨rfl, rfl⟩) : DT X K mg W (.Compare a [op] [b] pos) (tTest (tOp r ta tb)) (tV (e2 dop fa fb)) := by
  obtain ⟨rfl, rfl⟩ := ok
  exact ⟨pt_cmpR ho.1 ha.pe hb.pe hm, ref_tV (ref_op ho.2 ha.rf hb.rf)⟩
def eChain (op op' : S → PD → PD → Option PD) (fa fb fc : Env → M PD) : Env → M PD := fun env st => (fa env st).bind fun d s1 => (fb env s1).bind fun e s2 => (R.ofO (op s2 d e) s2).bind fun z s3 => (R.ofO (asBool z) s3).bind fun k s4 => match k with
  | true => (fc env s4).bind fun g s5 => R.ofO (op' s5 e g) s5
  | false => .ok (.bool false) s4
theorem ref_chain {K : PySem.W.Frag} {mg : Str → Option Value} {r r' : R2} {op op' : S → PD → PD → Option PD} (ho : OpRef K r op) (ho' : OpRef K r' op') (ha : Ref K mg W (rE K) ta fa) (hb : Ref K mg W (rE K) tb fb) (hc : Ref K mg W (rE K) tc fc) :
    Ref K mg W (rE K) (tChain r r' ta tb tc) (eChain op op' fa fb fc) := fun sa F0 H0 F H σ env st Q s p => by
  refine Ref.bind (ta := ta) mono_E ha s p fun x F1 H1 d st1 p1 s1 r1 p => ?_
  refine Ref.bind (ta := tb) mono_E hb s1 p fun y F2 H2 e st2 p2 s2 r2 p => ?_
  cases hz : op st2 d e with
  | none => rw [hz] at p; exact p.elim
  | some z =>
    rw [hz] at p
    refine ho sa F2 H2 st2 x y d e z _ s2.bs (r1.mono p2.fm) r2 hz fun v F3 H3 p3 rv => ?_
    have s3 := s2.step p3
    cases hk : asBool z with
    | none => rw [R.ofO_some, R.bind_ok, hk] at p; exact p.elim
    | some k =>
      rw [R.ofO_some, R.bind_ok, hk, R.ofO_some, R.bind_ok] at p
      rw [asBool_eq hk] at rv
      refine ⟨k, rv.bl, ?_⟩
      cases k with
      | false => exact iteF (p _ F3 H3 p3 (.inl (.bl _)))
      | true =>
        refine iteT ?_
        refine Ref.bind (ta := tc) mono_E hc s3 (p.shift mono_E p3) fun w F4 H4 g st4 p4 s4 r4 p => ?_
        cases hz' : op' st4 e g with
        | none => rw [hz'] at p; exact p.elim
        | some z' => rw [hz'] at p; exact ho' sa F4 H4 st4 y w e g z' Q s4.bs ((r2.mono p3.fm).mono p4.fm) r4 hz' p
theorem de_chain {op op' : CmpOp} {r r' : R2} {dop dop' : S → PD → PD → Option PD} (ho : OpR X (compareOp op) r ∧ OpRef K r dop) (ho' : OpR X (compareOp op') r' ∧ OpRef K r' dop') (ha : DE X K mg W a ta fa) (hb : DE X K mg W b tb fb) (hc : DE X K mg W c tc fc)
    (hm : lastMarks [op, op'] [b, c] = false := by with_unfolding_all rfl) (ok : OkX X K mg := by exact ⟨rfl, rfl⟩) : DE X K mg W (.Compare a [op, op'] [b, c] pos) (tChain r r' ta tb tc) (eChain dop dop' fa fb fc) := by
  obtain ⟨rfl, rfl⟩ := ok
  exact ⟨pe_chain ho.1 ho'.1 ha.pe hb.pe hc.pe hm, ref_chain ho.2 ho'.2 ha.rf hb.rf hc.rf⟩
theorem dt_chain {op op' : CmpOp} {r r' : R2} {dop dop' : S → PD → PD → Option PD} (ho : OpR X (compareOp op) r ∧ OpRef K r dop) (ho' : OpR X (compareOp op') r' ∧ OpRef K r' dop') (ha : DE X K mg W a ta fa) (hb : DE X K mg W b tb fb) (hc : DE X K mg W c tc fc)
    (hm : lastMarks [op, op'] [b, c] = false := by with_unfolding_all rfl) (ok : OkX X K mg := by exact ⟨rfl, rfl⟩) : DT X K mg W (.Compare a [op, op'] [b, c] pos) (tTest (tChain r r' ta tb tc)) (tV (eChain dop dop' fa fb fc)) := by
  obtain ⟨rfl, rfl⟩ := ok
  exact ⟨pt_chain ho.1 ho'.1 ha.pe hb.pe hc.pe hm, ref_tV (ref_chain ho.2 ho'.2 ha.rf hb.rf hc.rf)⟩
theorem dt_not (h : DT X K mg W a tA gA) (ok : OkX X K mg := by exact ⟨rfl, rfl⟩) : DT X K mg W (.UnaryOp .Not a pos) (tNot tA) (tNotF gA) := by
  obtain ⟨rfl, rfl⟩ := ok
  exact ⟨pt_not h.pe, fun sa F0 H0 F H σ env st Q s p => by
  refine Ref.bind (ta := tA) mono_T h.rf s p fun x F1 H1 d st1 p1 s1 r1 p => ?_
  have r1' : x = d := r1
  subst r1'
  exact p _ F1 H1 s1.bs.refl rfl⟩
theorem dw_and1 (h : DT X K mg W a tA gA) (ok : OkX X K mg := by exact ⟨rfl, rfl⟩) : DW X K mg W (.BoolOp .And [a] pos) tA gA := by
  obtain ⟨rfl, rfl⟩ := ok
  exact ⟨pw_and1 h.pe, h.rf⟩
theorem dw_or1 (h : DT X K mg W a tA gA) (ok : OkX X K mg := by exact ⟨rfl, rfl⟩) : DW X K mg W (.BoolOp .Or [a] pos) tA gA := by
  obtain ⟨rfl, rfl⟩ := ok
  exact ⟨pw_or1 h.pe, h.rf⟩
theorem dw_and (ha : DT X K mg W a tA gA) (hb : DW X K mg W (.BoolOp .And (b :: rest) pos) tB' gB) (ok : OkX X K mg := by exact ⟨rfl, rfl⟩) : DW X K mg W (.BoolOp .And (a :: b :: rest) pos) (tAnd tA tB') (tAndF gA gB) := by
  obtain ⟨rfl, rfl⟩ := ok
  exact ⟨pw_and ha.pe hb.pe, fun sa F0 H0 F H σ env st Q s p => by
  refine Ref.bind (ta := tA) mono_T ha.rf s p fun x F1 H1 d st1 p1 s1 r1 p => ?_
  have r1' : x = d := r1
  subst r1'
  cases x with
  | true => exact iteT (hb.rf sa F0 H0 F1 H1 σ env st1 Q s1 p)
  | false => exact iteF (p _ F1 H1 s1.bs.refl rfl)⟩
theorem dw_or (ha : DT X K mg W a tA gA) (hb : DW X K mg W (.BoolOp .Or (b :: rest) pos) tB' gB) (ok : OkX X K mg := by exact ⟨rfl, rfl⟩) : DW X K mg W (.BoolOp .Or (a :: b :: rest) pos) (tOr tA tB') (tOrF gA gB) := by
  obtain ⟨rfl, rfl⟩ := ok
  exact ⟨pw_or ha.pe hb.pe, fun sa F0 H0 F H σ env st Q s p => by
  refine Ref.bind (ta := tA) mono_T ha.rf s p fun x F1 H1 d st1 p1 s1 r1 p => ?_
  have r1' : x = d := r1
  subst r1'
  cases x with
  | true => exact iteT (p _ F1 H1 s1.bs.refl rfl)
  | false => exact iteF (hb.rf sa F0 H0 F1 H1 σ env st1 Q s1 p)⟩
theorem DW.dt (h : DW X K mg W a tA gA) (ok : OkX X K mg := by exact ⟨rfl, rfl⟩) : DT X K mg W a tA gA := by
  obtain ⟨rfl, rfl⟩ := ok
  exact ⟨h.pe.pt, h.rf⟩
theorem de_one {op} (h : DE X K mg W a ta fa) (ok : OkX X K mg := by exact ⟨rfl, rfl⟩) : DE X K mg W (.BoolOp op [a] pos) ta fa := by
  obtain ⟨rfl, rfl⟩ := ok
  exact ⟨pe_one h.pe, h.rf⟩
theorem de_and (ha : DE X K mg W a ta fa) (hb : DE X K mg W (.BoolOp .And (b :: rest) pos) tb fb) (ok : OkX X K mg := by exact ⟨rfl, rfl⟩) : DE X K mg W (.BoolOp .And (a :: b :: rest) pos) (tAndV ta tb) (eAnd fa fb) := by
  obtain ⟨rfl, rfl⟩ := ok
  exact ⟨pe_and ha.pe hb.pe, fun sa F0 H0 F H σ env st Q s p => by
  refine Ref.bind (ta := tB ta) (Q' := fun c H1 => if c = true then tb σ H1 Q else Q (.bl false) H1) mono_E (ref_tV ha.rf) s p fun x F1 H1 d st1 p1 s1 r1 p => ?_
  have r1' : x = d := r1
  subst r1'
  cases x with
  | true => exact iteT (hb.rf sa F0 H0 F1 H1 σ env st1 Q s1 p)
  | false => exact iteF (p _ F1 H1 s1.bs.refl (.inl (.bl _)))⟩
theorem de_or (ha : DE X K mg W a ta fa) (hb : DE X K mg W (.BoolOp .Or (b :: rest) pos) tb fb) (ok : OkX X K mg := by exact ⟨rfl, rfl⟩) : DE X K mg W (.BoolOp .Or (a :: b :: rest) pos) (tOrV ta tb) (eOr fa fb) := by
  obtain ⟨rfl, rfl⟩ := ok
  exact ⟨pe_or ha.pe hb.pe, fun sa F0 H0 F H σ env st Q s p => by
  refine Ref.bind (ta := tB ta) (Q' := fun c H1 => if c = true then Q (.bl true) H1 else tb σ H1 Q) mono_E (ref_tV ha.rf) s p fun x F1 H1 d st1 p1 s1 r1 p => ?_
  have r1' : x = d := r1
  subst r1'
  cases x with
  | true => exact iteT (p _ F1 H1 s1.bs.refl (.inl (.bl _)))
  | false => exact iteF (hb.rf sa F0 H0 F1 H1 σ env st1 Q s1 p)⟩
theorem de_not (ha : DE X K mg W a ta fa) (ok : OkX X K mg := by exact ⟨rfl, rfl⟩) : DE X K mg W (.UnaryOp .Not a pos) (tNotV ta) (eNot fa) := by
  obtain ⟨rfl, rfl⟩ := ok
  exact ⟨pe_not ha.pe, fun sa F0 H0 F H σ env st Q s p => by
  refine Ref.bind (ta := tB ta) (Q' := fun c H1 => Q (.bl (!c)) H1) mono_E (ref_tV ha.rf) s p fun x F1 H1 d st1 p1 s1 r1 p => ?_
  have r1' : x = d := r1
  subst r1'
  exact p _ F1 H1 s1.bs.refl (.inl (.bl _))⟩
theorem de_if (hc : DT X K mg W c tA gA) (ha : DE X K mg W a ta fa) (hb : DE X K mg W b tb fb) (ok : OkX X K mg := by exact ⟨rfl, rfl⟩) : DE X K mg W (.IfExp c a b pos) (tIf tA ta tb) (eIf gA fa fb) := by
  obtain ⟨rfl, rfl⟩ := ok
  exact ⟨pe_ifExp hc.pe ha.pe hb.pe, fun sa F0 H0 F H σ env st Q s p => by
  refine Ref.bind (ta := tA) mono_E hc.rf s p fun x F1 H1 d st1 p1 s1 r1 p => ?_
  have r1' : x = d := r1
  subst r1'
  cases x with
  | true => exact iteT (ha.rf sa F0 H0 F1 H1 σ env st1 Q s1 p)
  | false => exact iteF (hb.rf sa F0 H0 F1 H1 σ env st1 Q s1 p)⟩
end
end DL
/-! DL4: slices, what is walked, targets, comprehensions. -/
namespace DL
open PySem PySem.Spec PyProof.Rows L2

/-! ### slices -/
abbrev rO : Addr → Hp → Hp → Hp → Option Int → Option Int → Prop := fun _ _ _ _ b c => b = c
theorem mono_O : Mono rO := fun _ _ _ _ _ _ _ _ _ _ _ _ h => h
structure DO (X : Cx) (K : PySem.W.Frag) (mg : Str → Option Value) (W : WX) (e : Option Expr) (t : TO) (f : Env → M (Option Int)) : Prop where
  po : PO X e t
  rf : Ref K mg W rO t f
def oNo : Env → M (Option Int) := fun _ st => .ok none st
def oSo (f : Env → M PD) : Env → M (Option Int) := fun env st => (f env st).bind fun d s => R.ofO ((asInt d).map some) s
theorem asInt_eq {d : PD} {b : Int} (h : asInt d = some b) : d = .int b := by
  cases d <;> first | (cases h; rfl) | cases h
def cutD (xs : List PD) (lo hi : Option Int) : List PD := (xs.drop (HT.sIx xs.length 0 lo)).take (HT.sIx xs.length xs.length hi - HT.sIx xs.length 0 lo)
def opSl (d : PD) (lo hi : Option Int) : Option PD := match d with
  | .list xs => some (.list (cutD xs lo hi))
  | .tuple xs => some (.tuple (cutD xs lo hi))
  | .str z => if z.length ≤ sizeLine then some (.str (cutS z lo hi)) else none
  | _ => none
def eSl (f : Env → M PD) (l h : Env → M (Option Int)) : Env → M PD := fun env st => (f env st).bind fun d s1 => (l env s1).bind fun lo s2 => (h env s2).bind fun hi s3 => R.ofO (opSl d lo hi) s3
theorem DVs.cut {K : PySem.W.Frag} {F : Hp} {vs : List V} {ds : List PD} (h : DVs K F vs ds) (lo hi : Option Int) : DVs K F (cutV vs lo hi) (cutD ds lo hi) := by
  unfold cutV cutD
  rw [h.len]
  exact (h.drop _).take _
theorem cutD_whole {ds : List PD} {lo hi : Option Int} (h : HT.sIx ds.length 0 lo = 0 ∧ HT.sIx ds.length ds.length hi = ds.length) : cutD ds lo hi = ds := by
  unfold cutD
  rw [h.1, h.2, List.drop_zero, Nat.sub_zero, List.take_length]
def rSlD (K : PySem.W.Frag) : V → Option Int → Option Int → Hp → VK → Prop := fun x lo hi H Q => rSlL K x lo hi H Q ∨ rSlA K x lo hi H Q ∨ rSlS x lo hi H Q
section
variable {X : Cx} {K : PySem.W.Frag} {mg : Str → Option Value} {W : WX} {e : Expr} {lo hi : Option Expr} {te : TE} {tl th : TO} {fe : Env → M PD} {fl fh : Env → M (Option Int)} {p2 pos : Pos}
theorem do_no (ok : OkX X K mg := by exact ⟨rfl, rfl⟩) : DO X K mg W none tNoPart oNo := by
  obtain ⟨rfl, rfl⟩ := ok
  exact ⟨po_none, fun sa F0 H0 F H σ env st Q s p => p none F H s.bs.refl rfl⟩
theorem do_so {a : Expr} (h : DE X K mg W a te fe) (ok : OkX X K mg := by exact ⟨rfl, rfl⟩) : DO X K mg W (some a) (tPart te) (oSo fe) := by
  obtain ⟨rfl, rfl⟩ := ok
  exact ⟨po_some h.pe, fun sa F0 H0 F H σ env st Q s p => by
  refine Ref.bind (ta := te) mono_O h.rf s p fun x F1 H1 d st1 p1 s1 r1 p => ?_
  cases e : asInt d with
  | none => rw [e] at p; exact p.elim
  | some i =>
    rw [e] at p
    rw [asInt_eq e] at r1
    exact ⟨i, r1.int, p (some i) F1 H1 s1.bs.refl rfl⟩⟩
theorem de_sl (he : DP X K mg W e te fe) (hl : DO X K mg W lo tl fl) (hu : DO X K mg W hi th fh) (ok : OkX X K mg := by exact ⟨rfl, rfl⟩) : DE X K mg W (.Subscript e (.Slice lo hi none p2) pos) (tSl (rSlD K) te tl th) (eSl fe fl fh) := by
  obtain ⟨rfl, rfl⟩ := ok
  exact ⟨pe_slice (sl_list.or (sl_tupA.or sl_str)) he.pe hl.po hu.po, fun sa F0 H0 F H σ env st Q s p => by
  refine Ref.bind (ta := te) mono_E he.rf s p fun x F1 H1 d st1 p1 s1 r1 p => ?_
  refine Ref.bind (ta := tl) mono_E hl.rf s1 p fun l F2 H2 l' st2 p2 s2 e2 p => ?_
  refine Ref.bind (ta := th) mono_E hu.rf s2 p fun u F3 H3 u' st3 p3 s3 e3 p => ?_
  have e2' : l = l' := e2
  have e3' : u = u' := e3
  subst e2' e3'
  have r3 := RP.step p3 (RP.step p2 r1)
  have b := s3.bs
  show rSlD X.K x l u H3 Q
  cases hz : opSl d l u with
  | none => rw [hz] at p; exact p.elim
  | some z =>
    rw [hz] at p
    unfold opSl at hz
    split at hz
    · cases hz
      obtain ⟨a, us, rfl, h1, h2⟩ := RP.lst b r3
      exact .inl ⟨a, us, rfl, SqL.of h1, fun q hq => b.list hq p (h2.cut l u)⟩
    · cases hz
      obtain ⟨a, us, rfl, h1, h2⟩ := r3.tup
      refine .inr (.inl ⟨a, us, rfl, sqT_mono b.sub h1, fun w => ?_, fun _ q hq => b.tuple hq p (h2.cut l u)⟩)
      rw [h2.len] at w
      rw [cutD_whole w] at p
      exact b.val p (.tup h1 h2)
    · split at hz
      · rename_i hl
        cases hz
        rw [r3.str]
        exact .inr (.inr ⟨_, rfl, hl, b.val p (.str _)⟩)
      · cases hz
    · cases hz⟩
end

/-! ### what is walked -/
def IterOk (K : PySem.W.Frag) (sa : Addr) (J : It) (F : Hp) (ds : List PD) : Prop := ∀ (i : Nat) F1 H1 st, Same F F1 → Bs sa F1 H1 st → (i = ds.length → J.stop i H1) ∧
  ∀ d, ds[i]? = some d → J.go i H1 ∧ ∀ x H', J.yld i H1 x H' → ∃ F', Stp sa F1 H1 F' H' st ∧ RD K sa F' x d
abbrev rIt (K : PySem.W.Frag) : Addr → Hp → Hp → Hp → It → List PD → Prop := fun sa _ F' _ J ds => IterOk K sa J F' ds
theorem mono_I {K : PySem.W.Frag} : Mono (rIt K) := fun _ _ _ _ _ _ _ _ _ _ _ _ h => h
structure DI (X : Cx) (K : PySem.W.Frag) (mg : Str → Option Value) (W : WX) (tg iter : Expr) (wi : TI) (f : Env → M (List PD)) : Prop where
  pi : PI X tg iter wi
  rf : Ref K mg W (rIt K) wi f
section
variable {K : PySem.W.Frag} {sa : Addr} {F H : Hp} {st : S} {a : Addr} {vs : List V} {ds : List PD}
theorem sqL_inj (b : Bs sa F H st) (h : F a = some (.lst vs)) {xs : List V} (h' : H a = some (.lst xs)) : xs = vs := by
  have := b.sub _ _ h
  rw [this] at h'; cases h'; rfl
end
/-- a list that is read at an address has one content (the written part does not speak of tracked addresses: by the heap that holds both) -/
theorem iter_list {K : PySem.W.Frag} {sa : Addr} {F : Hp} {a : Addr} {vs : List V} {ds : List PD} (h : F a = some (.lst vs)) (hd : DVs K F vs ds) : IterOk K sa ⟨fun i H => (∃ xs x, SqL K H a xs ∧ xs[i]? = some x), fun i H x H' => H' = H ∧ ∀ xs, SqL K H a xs → xs[i]? = some x, fun i H => ∃ xs, SqL K H a xs ∧ xs.length ≤ i⟩ F ds := by
  intro i F1 H1 st sm b
  have h1 : H1 a = some (.lst vs) := b.sub _ _ (sm _ _ h)
  refine ⟨fun e => ⟨vs, SqL.of h1, by rw [hd.len]; omega⟩, fun d e => ?_⟩
  obtain ⟨v, e1, e2⟩ := hd.get e
  refine ⟨⟨vs, v, SqL.of h1, e1⟩, fun x H' y => ?_⟩
  obtain ⟨rfl, y⟩ := y
  have := y vs (SqL.of h1)
  rw [e1] at this; cases this
  exact ⟨F1, b.refl, .inl (e2.mono sm)⟩
theorem iter_tup {K : PySem.W.Frag} {sa : Addr} {F : Hp} {a : Addr} {vs : List V} {ds : List PD} (h : SqT K F a vs) (hd : DVs K F vs ds) : IterOk K sa (Itt K a) F ds := by
  intro i F1 H1 st sm b
  have h1 : SqT K H1 a vs := sqT_mono b.sub (sqT_mono sm h)
  refine ⟨fun e => ⟨vs, h1, by rw [hd.len]; omega⟩, fun d e => ?_⟩
  obtain ⟨v, e1, e2⟩ := hd.get e
  refine ⟨⟨vs, v, h1, e1⟩, fun x H' y => ?_⟩
  obtain ⟨rfl, y⟩ := y
  have := y vs h1
  rw [e1] at this; cases this
  exact ⟨F1, b.refl, .inl (e2.mono sm)⟩
def chars (z : Str) : List PD := z.cps.toList.map fun c => .str ⟨#[c]⟩
theorem iter_str {K : PySem.W.Frag} {sa : Addr} {F : Hp} {z : Str} : IterOk K sa (Its z) F (chars z) := by
  intro i F1 H1 st sm b
  have hl : (chars z).length = z.cps.size := by unfold chars; simp
  refine ⟨fun e => by show z.cps.size ≤ i; omega, fun d e => ?_⟩
  unfold chars at e
  rw [List.getElem?_map] at e
  cases q : z.cps.toList[i]? with
  | none => rw [q] at e; cases e
  | some c =>
    rw [q] at e
    cases e
    have q' : z.cps[i]? = some c := by simpa using q
    refine ⟨(Array.getElem?_eq_some_iff.mp q').1, fun x H' y => ?_⟩
    obtain ⟨rfl, c', e1, rfl⟩ := y
    rw [q'] at e1; cases e1
    exact ⟨F1, b.refl, .inl (.str _)⟩
def rangeL (lo c : Int) (n : Nat) : List PD := (List.range n).map fun i : Nat => .int (lo + (i : Int) * c)
theorem rangeL_len (lo c : Int) (n : Nat) : (rangeL lo c n).length = n := by unfold rangeL; simp
theorem rangeL_get {lo c : Int} {n i : Nat} {d : PD} (h : (rangeL lo c n)[i]? = some d) : i < n ∧ d = .int (lo + (i : Int) * c) := by
  unfold rangeL at h
  rw [List.getElem?_map] at h
  by_cases hi : i < n
  · rw [List.getElem?_range hi] at h
    cases h
    exact ⟨hi, rfl⟩
  · rw [List.getElem?_eq_none (by simpa using hi)] at h; cases h
theorem iter_rng {K : PySem.W.Frag} {sa : Addr} {F : Hp} {lo : Int} {n : Nat} : IterOk K sa (Itr lo n) F (rangeL lo 1 n) := by
  intro i F1 H1 st sm b
  refine ⟨fun e => by rw [rangeL_len] at e; exact Nat.le_of_eq e.symm, fun d e => ?_⟩
  obtain ⟨hi, rfl⟩ := rangeL_get e
  refine ⟨hi, fun x H' y => ?_⟩
  obtain ⟨rfl, rfl⟩ := y
  rw [Int.mul_one]
  exact ⟨F1, b.refl, .inl (.int _)⟩
theorem iter_rngC {K : PySem.W.Frag} {sa : Addr} {F : Hp} {lo c : Int} {n : Nat} : IterOk K sa (Itc lo c n) F (rangeL lo c n) := by
  intro i F1 H1 st sm b
  refine ⟨fun e => by rw [rangeL_len] at e; exact Nat.le_of_eq e.symm, fun d e => ?_⟩
  obtain ⟨hi, rfl⟩ := rangeL_get e
  refine ⟨hi, fun x H' y => ?_⟩
  obtain ⟨rfl, rfl⟩ := y
  exact ⟨F1, b.refl, .inl (.int _)⟩
def itemsD : PD → Option (List PD)
  | .list ds => some ds
  | .tuple ds => some ds
  | .str z => some (chars z)
  | _ => none
def iAny (f : Env → M PD) : Env → M (List PD) := fun env st => (f env st).bind fun d s => R.ofO (itemsD d) s
def rngOk (i : Int) : Bool := decide (-(2 ^ 62) ≤ i) && decide (i < 2 ^ 62)
def rng1D : List PD → Option (List PD)
  | [.int j] => if rngOk j = true then some (rangeL 0 1 j.toNat) else none
  | _ => none
def rng2D : List PD → Option (List PD)
  | [.int i, .int j] => if (rngOk i && rngOk j) = true then some (rangeL i 1 (j - i).toNat) else none
  | _ => none
def rng3D : List PD → Option (List PD)
  | [.int i, .int j, .int c] => if c ≠ 0 ∧ c.natAbs < 1073741824 ∧ Builtin.Range.small i j c = true ∧ 0 ≤ Builtin.Range.rangeSize i j c then some (rangeL i c (Builtin.Range.rangeSize i j c).toNat) else none
  | _ => none
def iRng (g : List PD → Option (List PD)) (f : Env → M (List PD)) : Env → M (List PD) := fun env st => (f env st).bind fun ds s => R.ofO (g ds) s
theorem pi_or {X : Cx} {tg iter : Expr} {w1 w2 : TI} (a : PI X tg iter w1) (b : PI X tg iter w2) : PI X tg iter (fun σ H R => w1 σ H R ∨ w2 σ H R) := ⟨fun pins s σ H R I h => by
  rcases h with h | h
  · exact a.run pins s σ H R I h
  · exact b.run pins s σ H R I h⟩
def iAnyT (K : PySem.W.Frag) (t : TE) : TI := fun σ H R => iList K t σ H R ∨ iTup K t σ H R ∨ iStr t σ H R
theorem RDs.one {K : PySem.W.Frag} {sa : Addr} {F : Hp} {vs : List V} {d : PD} (h : RDs K sa F vs [d]) : ∃ v, vs = [v] ∧ RD K sa F v d := by
  cases h with
  | cons h1 h2 => cases h2; exact ⟨_, rfl, h1⟩
theorem rngOk_iff {i : Int} (h : rngOk i = true) : -(2 ^ 62) ≤ i ∧ i < 2 ^ 62 := by
  unfold rngOk at h
  rw [Bool.and_eq_true] at h
  exact ⟨of_decide_eq_true h.1, of_decide_eq_true h.2⟩
section
variable {X : Cx} {K : PySem.W.Frag} {mg : Str → Option Value} {W : WX} {tg e a b c : Expr} {te : TE} {fe : Env → M PD} {ta : TA} {fa : Env → M (List PD)} {p pos : Pos}
theorem di_any (h : DE X K mg W e te fe) (ok : OkX X K mg := by exact ⟨rfl, rfl⟩) : DI X K mg W tg e (iAnyT K te) (iAny fe) := by
  obtain ⟨rfl, rfl⟩ := ok
  exact ⟨pi_or (pi_list h.pe) (pi_or (pi_tup h.pe) (pi_str h.pe)), fun sa F0 H0 F H σ env st R s p => by
  have tryL : Post X.mg W sa σ F H (rE X.K sa) (fe env st) (fun x H1 => ∃ a, x = .ref a ∧ (∃ xs, SqL X.K H1 a xs) ∧ R (Itl X.K a) H1) → iAnyT X.K te σ H R := fun q => .inl (h.rf sa F0 H0 F H σ env st _ s q)
  have tryT : Post X.mg W sa σ F H (rE X.K sa) (fe env st) (fun x H1 => ∃ a, x = .ref a ∧ (∃ xs, SqT X.K H1 a xs) ∧ R (Itt X.K a) H1) → iAnyT X.K te σ H R := fun q => .inr (.inl (h.rf sa F0 H0 F H σ env st _ s q))
  have tryS : Post X.mg W sa σ F H (rE X.K sa) (fe env st) (fun v H1 => ∃ x, v = .str x ∧ R (Its x) H1) → iAnyT X.K te σ H R := fun q => .inr (.inr (h.rf sa F0 H0 F H σ env st _ s q))
  unfold iAny at p
  cases q : fe env st with
  | ex c st' => rw [q] at p tryL; exact tryL p
  | bad => rw [q] at p; exact p.elim
  | ok d st' =>
    rw [q] at p tryL tryT tryS
    cases d with
    | list ds =>
      refine tryL fun v F' H' p1 r1 => ?_
      obtain ⟨a, us, rfl, h1, h2⟩ := r1.lst
      exact ⟨a, rfl, ⟨us, SqL.of (p1.bs.sub _ _ h1)⟩, p _ F' H' p1 (iter_list h1 h2)⟩
    | tuple ds =>
      refine tryT fun v F' H' p1 r1 => ?_
      obtain ⟨a, us, rfl, h1, h2⟩ := r1.tup
      exact ⟨a, rfl, ⟨us, sqT_mono p1.bs.sub h1⟩, p _ F' H' p1 (iter_tup h1 h2)⟩
    | str z => exact tryS fun v F' H' p1 r1 => ⟨z, r1.str, p _ F' H' p1 iter_str⟩
    | none => exact p.elim
    | bool b => exact p.elim
    | int b => exact p.elim
    | dict b => exact p.elim⟩
theorem di_rng1 (hm : mg "range" = none) (ha : DA X K mg W [a] ta fa) (hg : Gl X "range" := by rfl) (hs : starEach [a] X.env = [(false, eval a X.env)] := by rfl) (ok : OkX X K mg := by exact ⟨rfl, rfl⟩) : DI X K mg W tg (.Call (.Name "range" p) [a] [] pos) (iRng1 ta) (iRng rng1D fa) := by
  obtain ⟨rfl, rfl⟩ := ok
  exact ⟨pi_range1 hg hm ha.pe hs, fun sa F0 H0 F H σ env st R s p => by
  refine Ref.bind (ta := ta) mono_I ha.rf s p fun x F1 H1 ds st1 p1 s1 r1 p => ?_
  cases hz : rng1D ds with
  | none => rw [hz] at p; exact p.elim
  | some z =>
    rw [hz] at p
    unfold rng1D at hz
    split at hz
    · split at hz
      · rename_i hk
        cases hz
        obtain ⟨v, rfl, r⟩ := r1.one
        have := rngOk_iff hk
        exact ⟨_, by rw [r.int], this.1, this.2, p _ F1 H1 s1.bs.refl iter_rng⟩
      · cases hz
    · cases hz⟩
theorem di_rng2 (hm : mg "range" = none) (ha : DA X K mg W [a, b] ta fa) (hg : Gl X "range" := by rfl) (hs : starEach [a, b] X.env = [(false, eval a X.env), (false, eval b X.env)] := by rfl) (hs2 : starEach [b] X.env = [(false, eval b X.env)] := by rfl) (ok : OkX X K mg := by exact ⟨rfl, rfl⟩) :
    DI X K mg W tg (.Call (.Name "range" p) [a, b] [] pos) (iRng2 ta) (iRng rng2D fa) := by
  obtain ⟨rfl, rfl⟩ := ok
  exact ⟨pi_range2 hg hm ha.pe hs hs2, fun sa F0 H0 F H σ env st R s p => by
  refine Ref.bind (ta := ta) mono_I ha.rf s p fun x F1 H1 ds st1 p1 s1 r1 p => ?_
  cases hz : rng2D ds with
  | none => rw [hz] at p; exact p.elim
  | some z =>
    rw [hz] at p
    unfold rng2D at hz
    split at hz
    · split at hz
      · rename_i hk
        cases hz
        cases r1 with
        | cons q1 q2 =>
          obtain ⟨v, rfl, r⟩ := q2.one
          rw [Bool.and_eq_true] at hk
          have h1 := rngOk_iff hk.1
          have h2 := rngOk_iff hk.2
          exact ⟨_, _, by rw [q1.int, r.int], ⟨h1.1, h1.2, h2.1, h2.2⟩, p _ F1 H1 s1.bs.refl iter_rng⟩
      · cases hz
    · cases hz⟩
theorem di_rng3 (hm : mg "range" = none) (ha : DA X K mg W [a, b, c] ta fa) (hg : Gl X "range" := by rfl) (hs : starEach [a, b, c] X.env = (false, eval a X.env) :: starEach [b, c] X.env := by rfl) (hpl : (backTo pos (starEach [b, c] X.env)).any (·.1) = false := by rfl) (ok : OkX X K mg := by exact ⟨rfl, rfl⟩) :
    DI X K mg W tg (.Call (.Name "range" p) [a, b, c] [] pos) (iRng3 ta) (iRng rng3D fa) := by
  obtain ⟨rfl, rfl⟩ := ok
  exact ⟨pi_range3 hg hm ha.pe hs hpl, fun sa F0 H0 F H σ env st R s p => by
  refine Ref.bind (ta := ta) mono_I ha.rf s p fun x F1 H1 ds st1 p1 s1 r1 p => ?_
  cases hz : rng3D ds with
  | none => rw [hz] at p; exact p.elim
  | some z =>
    rw [hz] at p
    unfold rng3D at hz
    split at hz
    · split at hz
      · rename_i hk
        cases hz
        cases r1 with
        | cons q1 q2 =>
          cases q2 with
          | cons q2 q3 =>
            obtain ⟨v, rfl, r⟩ := q3.one
            exact ⟨_, _, _, _, by rw [q1.int, q2.int, r.int], ⟨hk.1, hk.2.1, hk.2.2.1, by omega⟩, p _ F1 H1 s1.bs.refl iter_rngC⟩
      · cases hz
    · cases hz⟩
end

/-! ### targets -/
def RefG (K : PySem.W.Frag) (g : TG) (f : PD → Env → Option Env) (sl : List Nat) : Prop := ∀ sa F0 H0 F H σ env st x d (Q : L2.St → Hp → Prop) env', Sim K sa F0 H0 F H σ env st → RD K sa F x d → f d env = some env' →
  (∀ σ', Sim K sa F0 H0 F H σ' env' st → (∀ vs : List Nat, (∀ i ∈ sl, i ∈ vs) → wipe σ' vs = wipe σ vs) → Q σ' H) → g x σ H Q
def RefGs (K : PySem.W.Frag) (g : TGs) (f : List PD → Env → Option Env) (sl : List Nat) : Prop := ∀ sa F0 H0 F H σ env st xs ds (Q : L2.St → Hp → Prop) env', Sim K sa F0 H0 F H σ env st → DVs K F xs ds → f ds env = some env' →
  (∀ σ', Sim K sa F0 H0 F H σ' env' st → (∀ vs : List Nat, (∀ i ∈ sl, i ∈ vs) → wipe σ' vs = wipe σ vs) → Q σ' H) → g xs σ H Q
structure DG (X : Cx) (K : PySem.W.Frag) (tg : Expr) (g : TG) (f : PD → Env → Option Env) (sl : List Nat) : Prop where
  pg : PG X tg g
  rf : RefG K g f sl
structure DGs (X : Cx) (K : PySem.W.Frag) (tg : List Expr) (g : TGs) (f : List PD → Env → Option Env) (sl : List Nat) : Prop where
  pg : PGs X tg g
  rf : RefGs K g f sl
theorem Sim.setV {K : PySem.W.Frag} {sa : Addr} {F0 H0 F H : Hp} {σ : L2.St} {env : Env} {st : S} {i : Nat} {v : V} {d : PD} (s : Sim K sa F0 H0 F H σ env st) (r : RD K sa F v d) : Sim K sa F0 H0 F H (σ.set i (some v)) (env.set i (some (.v d))) st where
  s0 := s.s0
  stp := s.stp
  len := by rw [List.length_set, List.length_set]; exact s.len
  vals := fun j d' e => by
    by_cases hj : i = j
    · subst hj
      by_cases hl : i < env.length
      · rw [List.getElem?_set_self hl] at e
        cases e
        exact ⟨v, List.getElem?_set_self (by rw [← s.len]; exact hl), r⟩
      · rw [List.getElem?_eq_none (by simpa using hl)] at e; cases e
    · rw [List.getElem?_set_ne hj] at e ⊢
      exact s.vals j d' e
  own := fun j xs e => by
    by_cases hj : i = j
    · subst hj
      by_cases hl : i < env.length
      · rw [List.getElem?_set_self hl] at e; cases e
      · rw [List.getElem?_eq_none (by simpa using hl)] at e; cases e
    · rw [List.getElem?_set_ne hj] at e ⊢
      exact s.own j xs e
  dis := fun j k xs ys a e1 e2 e3 e4 => by
    have nj : i ≠ j := fun z => by
      subst z
      by_cases hl : i < env.length
      · rw [List.getElem?_set_self hl] at e1; cases e1
      · rw [List.getElem?_eq_none (by simpa using hl)] at e1; cases e1
    have nk : i ≠ k := fun z => by
      subst z
      by_cases hl : i < env.length
      · rw [List.getElem?_set_self hl] at e2; cases e2
      · rw [List.getElem?_eq_none (by simpa using hl)] at e2; cases e2
    rw [List.getElem?_set_ne nj] at e1 e3
    rw [List.getElem?_set_ne nk] at e2 e4
    exact s.dis j k xs ys a e1 e2 e3 e4
theorem wipe_set {i : Nat} {x : Option V} : ∀ {vs : List Nat} {σ : L2.St}, i ∈ vs → wipe (σ.set i x) vs = wipe σ vs
  | [], _, h => absurd h (by simp)
  | v :: vs, σ, h => by
    show (wipe (σ.set i x) vs).set v none = (wipe σ vs).set v none
    by_cases hm : i ∈ vs
    · rw [wipe_set hm]
    · have e : v = i := by
        rcases List.mem_cons.mp h with e | e
        · exact e.symm
        · exact absurd e hm
      subst e
      have comm : ∀ (us : List Nat) (σ : L2.St), v ∉ us → wipe (σ.set v x) us = (wipe σ us).set v x := by
        intro us
        induction us with
        | nil => intro σ _; rfl
        | cons u us ih =>
          intro σ hn
          show (wipe (σ.set v x) us).set u none = ((wipe σ us).set u none).set v x
          rw [ih σ (fun z => hn (List.mem_cons_of_mem _ z)), List.set_comm _ _ (fun z => hn (by rw [z]; exact List.mem_cons_self))]
      rw [comm vs σ hm, List.set_set]
def tgN (i : Nat) : PD → Env → Option Env := fun d env => some (env.set i (some (.v d)))
def tgsNil : List PD → Env → Option Env := fun ds env => match ds with
  | [] => some env
  | _ :: _ => none
def tgsCons (f : PD → Env → Option Env) (g : List PD → Env → Option Env) : List PD → Env → Option Env := fun ds env => match ds with
  | [] => none
  | d :: r => (f d env).bind fun env1 => g r env1
def tgT (n : Nat) (g : List PD → Env → Option Env) : PD → Env → Option Env := fun d env => match d with
  | .tuple ds => if ds.length = n then g ds env else none
  | .list ds => if ds.length = n then g ds env else none
  | _ => none
def gTL (K : PySem.W.Frag) (n : Nat) (t : TGs) : TG := fun v σ H Q => gTup K n t v σ H Q ∨ gUnl K n t v σ H Q
section
variable {X : Cx} {K : PySem.W.Frag} {mg : Str → Option Value} {pos : Pos}
theorem dg_name {i : Nat} {x : Str} (hN : X.N.Nodup) (hi : X.N[i]? = some x := by rfl) (hx : Loc X.env.scope x := by first | exact Or.inl rfl | exact Or.inr rfl) (hf : X.fn x = true ∨ X.env.scope.names.lookup x = some .local := by first | exact .inl rfl | exact .inr rfl | assumption) (ok : X.K = K := by rfl) :
    DG X K (.Name x pos) (gName i) (tgN i) [i] := by
  subst ok
  exact ⟨pg_name hN hi hx hf, fun sa F0 H0 F H σ env st x d Q env' s r e k => by
  cases e
  exact k _ (s.setV r) fun vs h => wipe_set (h i (by simp))⟩
theorem dgs_nil (ok : X.K = K := by rfl) : DGs X K [] gNil tgsNil [] := by
  subst ok
  exact ⟨pgs_nil, fun sa F0 H0 F H σ env st xs ds Q env' s r e k => by
  unfold tgsNil at e
  split at e
  · cases e
    cases r
    exact ⟨rfl, k σ s fun _ _ => rfl⟩
  · cases e⟩
theorem dgs_cons {a : Expr} {es : List Expr} {t : TG} {u : TGs} {f : PD → Env → Option Env} {g : List PD → Env → Option Env} {sl sr : List Nat} (h1 : DG X K a t f sl) (h2 : DGs X K es u g sr)
    (hs : (assignEach (a :: es) X.env).map (·.2) = assign a X.env :: (assignEach es X.env).map (·.2) := by rfl) (ok : X.K = K := by rfl) : DGs X K (a :: es) (gCons t u) (tgsCons f g) (sl ++ sr) := by
  subst ok
  exact ⟨pgs_cons h1.pg h2.pg hs, fun sa F0 H0 F H σ env st xs ds Q env' s r e k => by
  unfold tgsCons at e
  split at e
  · cases e
  · rename_i d rr
    cases r with
    | cons r1 r2 =>
      cases q : f d env with
      | none => rw [q] at e; cases e
      | some env1 =>
        rw [q] at e
        refine ⟨_, _, rfl, h1.rf sa F0 H0 F H σ env st _ d _ env1 s (.inl r1) q fun σ1 s1 w1 => ?_⟩
        exact h2.rf sa F0 H0 F H σ1 env1 st _ rr Q env' s1 r2 e fun σ2 s2 w2 => k σ2 s2 fun vs h => by
          rw [w2 vs fun i hi => h i (List.mem_append_right _ hi), w1 vs fun i hi => h i (List.mem_append_left _ hi)]⟩
theorem dg_tup {es : List Expr} {kk : Nat} {t : TGs} {n : Nat} {g : List PD → Env → Option Env} {sl : List Nat} (h : DGs X K es t g sl) (hc : X.calm = true := by rfl) (hn : (assignEach es X.env).length = n := by rfl) (hst : (assignEach es X.env).findIdx? (·.1) = none := by rfl) (ok : X.K = K := by rfl) :
    DG X K (.Tuple es kk pos) (gTL K n t) (tgT n g) sl := by
  subst ok
  exact ⟨⟨fun pins s σ H v u Q I r hw => hw.elim ((pg_tup hc h.pg hn hst).run pins s σ H v u Q I r) ((pg_unl hc h.pg hn hst).run pins s σ H v u Q I r)⟩, fun sa F0 H0 F H σ env st x d Q env' s r e k => by
  unfold tgT at e
  split at e
  · split at e
    · rename_i hl
      obtain ⟨a, us, rfl, h1, h2⟩ := r.tup
      exact .inl ⟨a, us, rfl, sqT_mono s.bs.sub h1, by rw [h2.len]; exact hl, h.rf sa F0 H0 F H σ env st us _ Q env' s h2 e k⟩
    · cases e
  · split at e
    · rename_i hl
      obtain ⟨a, us, rfl, h1, h2⟩ := r.lst
      exact .inr ⟨a, us, rfl, SqL.of (s.bs.sub _ _ h1), by rw [h2.len]; exact hl, h.rf sa F0 H0 F H σ env st us _ Q env' s h2 e k⟩
    · cases e
  · cases e⟩
end

/-! ### list comprehensions -/
def wipeE (env : Env) : List Nat → Env
  | [] => env
  | v :: vs => (wipeE env vs).set v none
theorem wipeE_some {env : Env} {i : Nat} {x : Sl} : ∀ {vs : List Nat}, (wipeE env vs)[i]? = some (some x) → env[i]? = some (some x) ∧ i ∉ vs
  | [], h => ⟨h, by simp⟩
  | v :: vs, h => by
    unfold wipeE at h
    by_cases hi : v = i
    · subst hi
      by_cases hv : v < (wipeE env vs).length
      · rw [List.getElem?_set_self hv] at h; cases h
      · rw [List.getElem?_eq_none (by simpa using hv)] at h; cases h
    · rw [List.getElem?_set_ne hi] at h
      obtain ⟨h1, h2⟩ := wipeE_some h
      exact ⟨h1, by simp only [List.mem_cons, not_or]; exact ⟨fun e => hi e.symm, h2⟩⟩
theorem wipeE_length (env : Env) : ∀ vs : List Nat, (wipeE env vs).length = env.length
  | [] => rfl
  | v :: vs => by unfold wipeE; rw [List.length_set, wipeE_length env vs]
theorem wipe_out {σ : L2.St} {i : Nat} : ∀ {vs : List Nat}, i ∉ vs → (wipe σ vs)[i]? = σ[i]?
  | [], _ => rfl
  | v :: vs, h => by
    show ((wipe σ vs).set v none)[i]? = _
    rw [List.getElem?_set_ne (fun z => h (by rw [z]; exact List.mem_cons_self)), wipe_out (fun z => h (List.mem_cons_of_mem _ z))]
theorem wipe_in {σ : L2.St} {i : Nat} : ∀ {vs : List Nat}, i ∈ vs → (wipe σ vs)[i]? = if i < σ.length then some none else none
  | [], h => absurd h (by simp)
  | v :: vs, h => by
    show ((wipe σ vs).set v none)[i]? = _
    by_cases e : v = i
    · subst e
      by_cases hl : v < σ.length
      · rw [if_pos hl, List.getElem?_set_self (by rw [wipe_length]; exact hl)]
      · rw [if_neg hl, List.getElem?_eq_none (by rw [List.length_set, wipe_length]; omega)]
    · rw [List.getElem?_set_ne e, wipe_in (by
        rcases List.mem_cons.mp h with z | z
        · exact absurd z.symm e
        · exact z)]
theorem wipe_idem (σ : L2.St) (vs : List Nat) : wipe (wipe σ vs) vs = wipe σ vs := by
  refine List.ext_getElem? fun i => ?_
  by_cases h : i ∈ vs
  · rw [wipe_in h, wipe_in h, wipe_length]
  · rw [wipe_out h, wipe_out h]
theorem Sim.wipe {K : PySem.W.Frag} {sa : Addr} {F0 H0 F H : Hp} {σ : L2.St} {env : Env} {st : S} (s : Sim K sa F0 H0 F H σ env st) (vs : List Nat) : Sim K sa F0 H0 F H (L2.wipe σ vs) (wipeE env vs) st where
  s0 := s.s0
  stp := s.stp
  len := by rw [wipeE_length, wipe_length]; exact s.len
  vals := fun i d e => by
    obtain ⟨e1, e2⟩ := wipeE_some e
    rw [wipe_out e2]
    exact s.vals i d e1
  own := fun i xs e => by
    obtain ⟨e1, e2⟩ := wipeE_some e
    rw [wipe_out e2]
    exact s.own i xs e1
  dis := fun i j xs ys a e1 e2 e3 e4 => by
    obtain ⟨e1, n1⟩ := wipeE_some e1
    obtain ⟨e2, n2⟩ := wipeE_some e2
    rw [wipe_out n1] at e3
    rw [wipe_out n2] at e4
    exact s.dis i j xs ys a e1 e2 e3 e4
theorem Sim.updFree {K : PySem.W.Frag} {sa : Addr} {F0 H0 F H : Hp} {σ : L2.St} {env : Env} {st : S} {D : Addr} (o : HO) (s : Sim K sa F0 H0 F H σ env st) (hF : F D = none) (h0 : H0 D = none)
    (no : ∀ (i : Nat) (xs : List PD), env[i]? = some (some (.o xs)) → σ[i]? ≠ some (some (.ref D))) : Sim K sa F0 H0 F (upd H D o) σ env st where
  s0 := s.s0
  stp := by
    have ne := s.ne h0
    refine ⟨s.stp.fm, s.stp.fn, fun b x e nb => ?_, fun b x e => ?_, s.bs.fsa, ?_⟩
    · rw [upd_ne (ne_of_none e h0)]; exact s.stp.pr b x e nb
    · rw [upd_ne (ne_of_none e hF)]; exact s.bs.sub b x e
    · obtain ⟨sc, e1, e2⟩ := s.bs.sr
      exact ⟨sc, by rw [upd_ne ne.symm]; exact e1, e2⟩
  len := s.len
  vals := s.vals
  own := fun i xs e => by
    obtain ⟨a, vs, e1, e2, e3, e4, r⟩ := s.own i xs e
    refine ⟨a, vs, e1, ?_, e3, e4, r⟩
    rw [upd_ne fun z => no i xs e (by rw [e1, z])]
    exact e2
  dis := s.dis
def R.noex {α : Type} (r : R α) : R α := match r with
  | .ex _ _ => .bad
  | r => r
@[simp] theorem R.noex_ok {α : Type} (a : α) (s : S) : (R.ok a s).noex = .ok a s := rfl
def compGo (env : Env) (tg : PD → Env → Option Env) (tf : Env → M Bool) (ef : Env → M PD) : List PD → M (List PD)
  | [], s => .ok [] s
  | d :: ds, s => (R.ofO (tg d env) s).bind fun env2 s1 => (tf env2 s1).noex.bind fun b s2 => match b with
    | true => (ef env2 s2).noex.bind fun y s3 => if isD y = true then (compGo env tg tf ef ds s3).bind fun r s4 => .ok (y :: r) s4 else .bad
    | false => compGo env tg tf ef ds s2
def nComp (itf : Env → M (List PD)) (tg : PD → Env → Option Env) (tf : Env → M Bool) (ef : Env → M PD) (vs : List Nat) : Env → M (List PD) := fun env st => (itf env st).bind fun ds s => if ds.length ≤ 10000000 then compGo (wipeE env vs) tg tf ef ds s else .bad
def tYesF : Env → M Bool := fun _ st => .ok true st
structure DTs (X : Cx) (K : PySem.W.Frag) (mg : Str → Option Value) (W : WX) (ifs : List Expr) (t : TT) (f : Env → M Bool) : Prop where
  pt : PTs X ifs t
  rf : Ref K mg W rT t f
theorem dts_nil {X : Cx} {K : PySem.W.Frag} {mg : Str → Option Value} {W : WX} (ok : OkX X K mg := by exact ⟨rfl, rfl⟩) : DTs X K mg W [] tYes tYesF := by
  obtain ⟨rfl, rfl⟩ := ok
  exact ⟨pts_nil, fun sa F0 H0 F H σ env st Q s p => p true F H s.bs.refl rfl⟩
theorem dts_one {X : Cx} {K : PySem.W.Frag} {mg : Str → Option Value} {W : WX} {c : Expr} {t : TT} {f : Env → M Bool} (h : DT X K mg W c t f) (ok : OkX X K mg := by exact ⟨rfl, rfl⟩) : DTs X K mg W [c] t f := by
  obtain ⟨rfl, rfl⟩ := ok
  exact ⟨pts_one h.pe, h.rf⟩
abbrev W0 : WX := fun _ _ _ _ => False
theorem Post.noex {α β : Type} {mg : Str → Option Value} {sa : Addr} {σ : L2.St} {F H : Hp} {rel : Hp → Hp → Hp → β → α → Prop} {r : R α} {Q : β → Hp → Prop} (h : ∀ a s', r = .ok a s' → ∀ v F' H', Stp sa F H F' H' s' → rel H F' H' v a → Q v H') (hn : r.noex ≠ .bad) : Post mg W0 sa σ F H rel r Q := by
  cases r with
  | ok a s' => exact h a s' rfl
  | ex c s' => exact absurd rfl hn
  | bad => exact absurd rfl hn
theorem ref_comp {K : PySem.W.Frag} {mg : Str → Option Value} {W : WX} {wi : TI} {itf : Env → M (List PD)} {g : TG} {tgf : PD → Env → Option Env} {sl : List Nat} {tt : TT} {tf : Env → M Bool} {te : TE} {ef : Env → M PD} {vs : List Nat}
    (hi : Ref K mg W (rIt K) wi itf) (hg : RefG K g tgf sl) (ht : Ref K mg W0 rT tt tf) (he : Ref K mg W0 (rE K) te ef) (hsl : ∀ i ∈ sl, i ∈ vs) : Ref K mg W (rN K) (tLc wi g tt te vs) (nComp itf tgf tf ef vs) := fun sa F0 H0 F H σ env st Q s p => by
  refine Ref.bind (ta := wi) mono_N hi s p fun J F1 H1 ds st1 p1 s1 r1 p => ?_
  intro D hD
  split at p
  · rename_i hlen
    have hD0 : H0 D = none := by
      cases q : H0 D with
      | none => rfl
      | some o =>
        have := s1.stp.pr D o q (s1.bs.ne hD)
        rw [hD] at this; cases this
    have nown : ∀ (i : Nat) (xs : List PD), (wipeE env vs)[i]? = some (some (.o xs)) → (L2.wipe σ vs)[i]? ≠ some (some (.ref D)) := fun i xs e z => by
      obtain ⟨a, us, e1, e2, _⟩ := (s1.wipe vs).own i xs e
      rw [z] at e1; cases e1
      rw [hD] at e2; cases e2
    refine ⟨fun i m H' => ∃ F' st' acc us, m = ds.length - i ∧ i ≤ ds.length ∧ acc.length ≤ i ∧ Sim K sa F0 H0 F' H' (L2.wipe σ vs) (wipeE env vs) st' ∧ Stp sa F1 H1 F' H' st' ∧ H' D = some (.lst us) ∧ F' D = none ∧ DVs K F' us acc ∧
        Post mg W sa σ F1 H1 (rN K sa) ((compGo (wipeE env vs) tgf tf ef (ds.drop i) st').bind fun r s4 => .ok (acc ++ r) s4) Q, ⟨ds.length, F1, st1, [], [], rfl, Nat.zero_le _, Nat.le_refl _, (s1.wipe vs).updFree _ (s1.bs.ff hD) hD0 nown, s1.bs.newU hD _, upd_same, s1.bs.ff hD, .nil, ?_⟩, ?_⟩
    · rw [List.drop_zero]
      cases q : compGo (wipeE env vs) tgf tf ef ds st1 with
      | ok a s' => rw [q] at p; exact p
      | ex c s' => rw [q] at p; exact p
      | bad => rw [q] at p; exact p
    · rintro i m H2 ⟨F2, st2, acc, us, rfl, hi, ha, s2, p2, e1, e2, e3, p⟩
      obtain ⟨stop, go⟩ := r1 i F2 H2 st2 p2.fm s2.bs
      by_cases hlt : i < ds.length
      · obtain ⟨jgo, yld⟩ := go ds[i] (List.getElem?_eq_getElem hlt)
        rw [List.drop_eq_getElem_cons hlt] at p
        unfold compGo at p
        refine .inr ⟨jgo, _, fun H' h => ⟨ds.length - (i + 1), by omega, h⟩, fun x H3 hy => ?_⟩
        obtain ⟨F3, p3, rx⟩ := yld x H3 hy
        have s3 := s2.step p3
        cases q1 : tgf ds[i] (wipeE env vs) with
        | none => rw [q1] at p; exact p.elim
        | some env2 =>
          rw [q1, R.ofO_some, R.bind_ok] at p
          refine hg sa F0 H0 F3 H3 _ _ st2 x ds[i] _ env2 s3 rx q1 fun σ2 s4 w4 => ⟨?_, ?_⟩
          · rw [w4 vs hsl, wipe_idem]
          · refine ht sa F0 H0 F3 H3 σ2 env2 st2 _ s4 ?_
            cases q2 : tf env2 st2 with
            | bad => rw [q2] at p; exact p.elim
            | ex c s' => rw [q2] at p; exact p.elim
            | ok b st4 =>
              rw [q2, R.noex_ok, R.bind_ok] at p
              intro b' F4 H4 p4 eb
              have eb' : b' = b := eb
              subst eb'
              have s5 := s4.step p4
              -- what a turn comes to
              have dn : ∀ {F' H' st'}, Stp sa F3 H3 F' H' st' → Stp sa F2 H2 F' H' st' := fun q => p3.trans q
              have keepD : ∀ {F' H' st'}, Stp sa F3 H3 F' H' st' → H' D = some (.lst us) ∧ F' D = none := fun {F' H' st'} q => by
                have q' := dn q
                have hd : H' D = some (.lst us) := q'.pr D _ e1 (s2.ne hD0)
                refine ⟨hd, ?_⟩
                cases z : F' D with
                | none => rfl
                | some o =>
                  have := q'.fn D e2 (by rw [z]; exact fun y => nomatch y)
                  rw [e1] at this; cases this
              cases b' with
              | false =>
                refine iteF ?_
                obtain ⟨k1, k2⟩ := keepD p4
                exact ⟨F4, st4, acc, us, rfl, hlt, by omega, s2.step (dn p4), p2.trans (dn p4), k1, k2, e3.mono (dn p4).fm, p⟩
              | true =>
                refine iteT ?_
                refine he sa F0 H0 F4 H4 σ2 env2 st4 _ s5 ?_
                cases q3 : ef env2 st4 with
                | bad => rw [q3] at p; exact p.elim
                | ex c s' => rw [q3] at p; exact p.elim
                | ok y st5 =>
                  rw [q3, R.noex_ok, R.bind_ok] at p
                  intro yv F5 H5 p5 ry
                  by_cases hy2 : isD y = true
                  · rw [if_pos hy2] at p
                    have p45 := p4.trans p5
                    obtain ⟨k1, k2⟩ := keepD p45
                    have l1 : us.length = acc.length := e3.len
                    refine ⟨us, k1, by rw [l1, sizeLine_eq]; omega, F5, st5, acc ++ [y], us ++ [yv], rfl, hlt, by rw [List.length_append]; simp; omega, (s2.step (dn p45)).updFree _ k2 hD0 nown, ?_, upd_same, k2, (e3.mono (dn p45).fm).append (.cons (ry.dv' hy2) .nil), ?_⟩
                    · have t := p2.trans (dn p45)
                      refine ⟨t.fm, t.fn, fun b x e nb => ?_, ((s2.step (dn p45)).updFree (.lst (us ++ [yv])) k2 hD0 nown).bs⟩
                      rw [upd_ne (ne_of_none e hD)]
                      exact t.pr b x e nb
                    · cases q4 : compGo (wipeE env vs) tgf tf ef (ds.drop (i + 1)) st5 with
                      | ok a s' =>
                        rw [q4] at p
                        show Post mg W sa σ F1 H1 (rN K sa) (R.ok ((acc ++ [y]) ++ a) s') Q
                        rw [List.append_assoc]
                        exact p
                      | ex c s' => rw [q4] at p; exact p
                      | bad => rw [q4] at p; exact p
                  · rw [if_neg hy2] at p
                    exact p.elim
      · have ei : i = ds.length := by omega
        refine .inl ⟨stop ei, ?_⟩
        rw [ei, List.drop_length] at p
        unfold compGo at p
        rw [R.bind_ok, List.append_nil] at p
        exact p _ F2 H2 p2 ⟨D, us, rfl, e1, e2, hD, e3⟩
  · exact p.elim
section
variable {X : Cx} {K : PySem.W.Frag} {mg : Str → Option Value} {W : WX} {elt tg iter : Expr} {ifs : List Expr} {scope : Scope} {own : List (Str × Nat)} {pos : Pos} {wi : TI} {g : TG} {tt : TT} {te : TE} {itf : Env → M (List PD)} {tgf : PD → Env → Option Env} {sl : List Nat} {tf : Env → M Bool} {ef : Env → M PD}
theorem dn_comp {vs : List Nat} (hN : X.N.Nodup) (ok : BlkOk X.N X.env.scope scope own) (hi : DI X K mg W tg iter wi itf)
    (hg : ∀ (s : Shared) (H : Hp) (C : Addr) (cl : List (Str × Addr)) (fp : List Addr), DG (X.blk s H scope (compEnvC scope cl C X.env) fp) K tg g tgf sl)
    (ht : ∀ (s : Shared) (H : Hp) (C : Addr) (cl : List (Str × Addr)) (fp : List Addr), DTs (X.blk s H scope (compEnvC scope cl C X.env) fp) K mg W0 ifs tt tf)
    (he : ∀ (s : Shared) (H : Hp) (C : Addr) (cl : List (Str × Addr)) (fp : List Addr), DE (X.blk s H scope (compEnvC scope cl C X.env) fp) K mg W0 elt te ef)
    (hsl : ∀ i ∈ sl, i ∈ vs) (inh : Shared) (hvs : own.map (·.2) = vs := by rfl) (hc : X.calm = true := by rfl) (hs : ∀ x, foldedSetIterable iter X.env x = pure x := by intro _; rfl) (ok : OkX X K mg := by exact ⟨rfl, rfl⟩) :
    DN X K mg W (.ListComp elt [⟨tg, iter, ifs, 0⟩] scope pos) (tLc wi g tt te vs) (nComp itf tgf tf ef vs) := by
  obtain ⟨rfl, rfl⟩ := ok
  subst hvs
  exact ⟨pe_lc hc hN hi.pi ok (fun s H C cl fp => (hg s H C cl fp).pg) (fun s H C cl fp => (ht s H C cl fp).pt) (fun s H C cl fp => (he s H C cl fp).pe) hs,
   ref_comp hi.rf (hg inh (fun _ => none) 0 [] []).rf (ht inh (fun _ => none) 0 [] []).rf (he inh (fun _ => none) 0 [] []).rf hsl⟩
end
end DL
/-! DL5: statements and defs. -/
namespace DL
open PySem PySem.Spec PyProof.Rows L2

inductive Out where
  | nx (env : Env)
  | rt (d : PD)
  | bk (env : Env)
  | ct (env : Env)
  | ex (c : Str) (env : Env)
inductive RS where
  | ok (o : Out) (s : S)
  | bad
abbrev MS := Env → S → RS
@[reducible] def RS.of {α : Type} (env : Env) (r : R α) (k : α → S → RS) : RS := match r with
  | .ok a s => k a s
  | .ex c s => .ok (.ex c env) s
  | .bad => .bad
@[simp] theorem RS.of_ok {α : Type} (env : Env) (a : α) (s : S) (k : α → S → RS) : RS.of env (.ok a s) k = k a s := rfl
@[simp] theorem RS.of_ex {α : Type} (env : Env) (c : Str) (s : S) (k : α → S → RS) : RS.of env (.ex c s : R α) k = .ok (.ex c env) s := rfl
@[simp] theorem RS.of_bad {α : Type} (env : Env) (k : α → S → RS) : RS.of env (.bad : R α) k = .bad := rfl

def PostS (K : PySem.W.Frag) (mg : Str → Option Value) (W : WX) (sa : Addr) (F0 H0 : Hp) (D : Ends) (r : RS) : Prop := match r with
  | .ok (.nx env) st => ∀ F H σ, Sim K sa F0 H0 F H σ env st → D.nx σ H
  | .ok (.bk env) st => ∀ F H σ, Sim K sa F0 H0 F H σ env st → D.bk σ H
  | .ok (.ct env) st => ∀ F H σ, Sim K sa F0 H0 F H σ env st → D.ct σ H
  | .ok (.rt d) st => ∀ v F H, Stp sa F0 H0 F H st → RD K sa F v d → D.rt v H
  | .ok (.ex c env) st => ∀ F H σ C, Sim K sa F0 H0 F H σ env st → mg c = some (.ref C) → W (.ref C) none σ H
  | .bad => False
def RefS (K : PySem.W.Frag) (mg : Str → Option Value) (W : WX) (t : TS) (g : MS) : Prop :=
  ∀ sa F0 H0 F H σ env st D, Sim K sa F0 H0 F H σ env st → PostS K mg W sa F0 H0 D (g env st) → t D σ H
structure DS (X : Cx) (K : PySem.W.Frag) (mg : Str → Option Value) (W : WX) (st : Stmt) (t : TS) (g : MS) : Prop where
  ps : PS X st t
  rf : RefS K mg W t g
structure DSs (X : Cx) (K : PySem.W.Frag) (mg : Str → Option Value) (W : WX) (st : List Stmt) (t : TS) (g : MS) : Prop where
  ps : PSs X st t
  rf : RefS K mg W t g
theorem Ref.stm {α β : Type} {K : PySem.W.Frag} {mg : Str → Option Value} {W : WX} {sa : Addr} {F0 H0 F H : Hp} {σ : L2.St} {env : Env} {st : S} {D : Ends} {rel : Addr → Hp → Hp → Hp → β → α → Prop} {ta : L2.St → Hp → (β → Hp → Prop) → Prop} {fa : Env → M α} {k : α → S → RS} {Q' : β → Hp → Prop}
    (ha : Ref K mg W rel ta fa) (s : Sim K sa F0 H0 F H σ env st) (h : PostS K mg W sa F0 H0 D (RS.of env (fa env st) k))
    (hk : ∀ x F1 H1 d st1, Stp sa F H F1 H1 st1 → Sim K sa F0 H0 F1 H1 σ env st1 → rel sa H F1 H1 x d → PostS K mg W sa F0 H0 D (k d st1) → Q' x H1) : ta σ H Q' := by
  refine ha sa F0 H0 F H σ env st Q' s ?_
  cases e : fa env st with
  | ok d st1 =>
    rw [e] at h
    exact fun v F1 H1 p r => hk v F1 H1 d st1 p (s.step p) r h
  | ex c st1 =>
    rw [e] at h
    exact fun F' H' C p hm => h F' H' σ C (s.step p) hm
  | bad => rw [e] at h; exact h

/-! ### blocks and small statements -/
def sSkip : MS := fun env st => .ok (.nx env) st
def sSeq (f g : MS) : MS := fun env st => match f env st with
  | .ok (.nx env') st' => g env' st'
  | r => r
def sSet (i : Nat) (f : Env → M PD) : MS := fun env st => RS.of env (f env st) fun d s => .ok (.nx (env.set i (some (.v d)))) s
def sAsg (f : Env → M PD) (tg : PD → Env → Option Env) : MS := fun env st => RS.of env (f env st) fun d s => match tg d env with
  | some env' => .ok (.nx env') s
  | none => .bad
def sRet (f : Env → M PD) : MS := fun env st => RS.of env (f env st) fun d s => .ok (.rt d) s
def sRetN : MS := fun _ st => .ok (.rt .none) st
def sExpr (f : Env → M PD) : MS := fun env st => RS.of env (f env st) fun _ s => .ok (.nx env) s
def sIf (c : Env → M Bool) (f g : MS) : MS := fun env st => RS.of env (c env st) fun b s => match b with
  | true => f env s
  | false => g env s
def sBrk : MS := fun env st => .ok (.bk env) st
def sCnt : MS := fun env st => .ok (.ct env) st
def sRaise (c : Str) : MS := fun env st => .ok (.ex c env) st
def sNever : MS := fun _ _ => .bad
section
variable {X : Cx} {K : PySem.W.Frag} {mg : Str → Option Value} {W : WX} {st : Stmt} {rest : List Stmt} {t u : TS} {f g : MS} {e : Expr} {te : TE} {fe : Env → M PD} {pos : Pos}
theorem dss_nil (ok : OkX X K mg := by exact ⟨rfl, rfl⟩) : DSs X K mg W [] tNext sSkip := by
  obtain ⟨rfl, rfl⟩ := ok
  exact ⟨pss_nil, fun sa F0 H0 F H σ env st D s p => p F H σ s⟩
theorem refS_seq {K : PySem.W.Frag} {mg : Str → Option Value} (h1 : RefS K mg W t f) (h2 : RefS K mg W u g) : RefS K mg W (tSeq t u) (sSeq f g) := fun sa F0 H0 F H σ env st D s p => by
  refine h1 sa F0 H0 F H σ env st _ s ?_
  unfold sSeq at p
  cases q : f env st with
  | bad => rw [q] at p; exact p
  | ok o st' =>
    rw [q] at p
    cases o with
    | nx env' => exact fun F1 H1 σ1 s1 => h2 sa F0 H0 F1 H1 σ1 env' st' D s1 p
    | bk env' => exact p
    | ct env' => exact p
    | rt d => exact p
    | ex c env' => exact p
theorem dss_cons (h1 : DS X K mg W st t f) (h2 : DSs X K mg W rest u g) (ok : OkX X K mg := by exact ⟨rfl, rfl⟩) : DSs X K mg W (st :: rest) (tSeq t u) (sSeq f g) := by
  obtain ⟨rfl, rfl⟩ := ok
  exact ⟨pss_cons h1.ps h2.ps, refS_seq h1.rf h2.rf⟩
theorem dss_one (h1 : DS X K mg W st t f) (ok : OkX X K mg := by exact ⟨rfl, rfl⟩) : DSs X K mg W [st] t f := by
  obtain ⟨rfl, rfl⟩ := ok
  exact ⟨pss_one h1.ps, h1.rf⟩
theorem dss_never {sts : List Stmt} (ok : OkX X K mg := by exact ⟨rfl, rfl⟩) : DSs X K mg W sts tNever sNever := by
  obtain ⟨rfl, rfl⟩ := ok
  exact ⟨pss_never, fun _ _ _ _ _ _ _ _ _ _ p => p.elim⟩
theorem refS_set {K : PySem.W.Frag} {mg : Str → Option Value} {i : Nat} (he : Ref K mg W (rE K) te fe) : RefS K mg W (tAsg te (gName i)) (sSet i fe) := fun sa F0 H0 F H σ env st D s p => by
  refine Ref.stm (ta := te) he s p fun x F1 H1 d st1 p1 s1 r1 p => ?_
  exact p F1 H1 _ (s1.setV r1)
theorem ds_set {i : Nat} {x : Str} {pos' : Pos} (hN : X.N.Nodup) (he : DE X K mg W e te fe) (hi : X.N[i]? = some x := by rfl) (hx : Loc X.env.scope x := by first | exact Or.inl rfl | exact Or.inr rfl) (hs : swapsWith e (some (.Name x pos')) pos.line X.env = pure false := by rfl)
    (hf : X.fn x = true ∨ X.env.scope.names.lookup x = some .local := by first | exact .inl rfl | exact .inr rfl | assumption) (ok : OkX X K mg := by exact ⟨rfl, rfl⟩) : DS X K mg W (.Assign [.Name x pos'] e pos) (tAsg te (gName i)) (sSet i fe) := by
  obtain ⟨rfl, rfl⟩ := ok
  exact ⟨ps_set hN hi hx he.pe hs hf, refS_set he.rf⟩
theorem ds_asg {tg : Expr} {gg : TG} {tf : PD → Env → Option Env} {sl : List Nat} (he : DE X K mg W e te fe) (hg : DG X K tg gg tf sl) (hs : swapsWithSole [tg] e pos.line X.env = pure false := by rfl) (hw : swappedStores [tg] e X.env = pure none := by rfl)
    (h1 : (assignEach [tg] X.env).map (·.2) = [assign tg X.env] := by rfl) (ok : OkX X K mg := by exact ⟨rfl, rfl⟩) : DS X K mg W (.Assign [tg] e pos) (tAsg te gg) (sAsg fe tf) := by
  obtain ⟨rfl, rfl⟩ := ok
  exact ⟨ps_asg he.pe hg.pg hs hw h1, fun sa F0 H0 F H σ env st D s p => by
  refine Ref.stm (ta := te) he.rf s p fun x F1 H1 d st1 p1 s1 r1 p => ?_
  cases q : tf d env with
  | none => rw [q] at p; exact p.elim
  | some env' =>
    rw [q] at p
    exact hg.rf sa F0 H0 F1 H1 σ env st1 x d _ env' s1 r1 q fun σ' s' _ => p F1 H1 σ' s'⟩
/-- a, b = e1, e2 -/
def sPar2 (i j : Nat) (f : Env → M (List PD)) : MS := fun env st => RS.of env (f env st) fun ds s => match ds with
  | [d, e] => .ok (.nx ((env.set i (some (.v d))).set j (some (.v e)))) s
  | _ => .bad
theorem ds_par2 {i j : Nat} {x y : Str} {a b : Expr} {ta : TA} {fa : Env → M (List PD)} {px py pt : Pos} {kt k2 pt2} (hN : X.N.Nodup) (ha : DA X K mg W [a, b] ta fa) (hij : i ≠ j) (hi : X.N[i]? = some x := by rfl) (hj : X.N[j]? = some y := by rfl) (hc : X.calm = true := by rfl)
    (hx : X.env.scope.names.lookup x = some .local := by rfl) (hy : X.env.scope.names.lookup y = some .local := by rfl)
    (hw : swappedStores [.Tuple [.Name x px, .Name y py] kt pt] (.Tuple [a, b] k2 pt2) X.env = pure (some [x, y]) := by rfl)
    (hs : swapsWithSole [.Tuple [.Name x px, .Name y py] kt pt] (.Tuple [a, b] k2 pt2) pos.line X.env = pure false := by rfl) (ok : OkX X K mg := by exact ⟨rfl, rfl⟩) :
    DS X K mg W (.Assign [.Tuple [.Name x px, .Name y py] kt pt] (.Tuple [a, b] k2 pt2) pos) (tPar i j ta) (sPar2 i j fa) := by
  obtain ⟨rfl, rfl⟩ := ok
  exact ⟨ps_par hc hN hi hj hij hx hy ha.pe hw hs, fun sa F0 H0 F H σ env st D s p => by
  refine Ref.stm (ta := ta) ha.rf s p fun x F1 H1 ds st1 p1 s1 r1 p => ?_
  cases r1 with
  | nil => exact p.elim
  | cons q1 q2 =>
    cases q2 with
    | nil => exact p.elim
    | cons q2 q3 =>
      cases q3 with
      | nil => exact ⟨_, _, rfl, p F1 H1 _ ((s1.setV q1).setV q2)⟩
      | cons _ _ => exact p.elim⟩
def sPar3 (i j l : Nat) (f : Env → M (List PD)) : MS := fun env st => RS.of env (f env st) fun ds s => match ds with
  | [d, e, g] => .ok (.nx (((env.set i (some (.v d))).set j (some (.v e))).set l (some (.v g)))) s
  | _ => .bad
theorem ds_par3 {i j l : Nat} {x y z : Str} {a b c : Expr} {ta : TA} {fa : Env → M (List PD)} {px py pz pt : Pos} {kt k2 pt2} (hN : X.N.Nodup) (ha : DA X K mg W [a, b, c] ta fa) (hij : i ≠ j) (hil : i ≠ l) (hjl : j ≠ l) (hi : X.N[i]? = some x := by rfl) (hj : X.N[j]? = some y := by rfl) (hl : X.N[l]? = some z := by rfl) (hc : X.calm = true := by rfl)
    (hx : X.env.scope.names.lookup x = some .local := by rfl) (hy : X.env.scope.names.lookup y = some .local := by rfl) (hz : X.env.scope.names.lookup z = some .local := by rfl)
    (hw : swappedStores [.Tuple [.Name x px, .Name y py, .Name z pz] kt pt] (.Tuple [a, b, c] k2 pt2) X.env = pure (some [x, y, z]) := by rfl)
    (hs : swapsWithSole [.Tuple [.Name x px, .Name y py, .Name z pz] kt pt] (.Tuple [a, b, c] k2 pt2) pos.line X.env = pure false := by rfl) (ok : OkX X K mg := by exact ⟨rfl, rfl⟩) :
    DS X K mg W (.Assign [.Tuple [.Name x px, .Name y py, .Name z pz] kt pt] (.Tuple [a, b, c] k2 pt2) pos) (tPar3 i j l ta) (sPar3 i j l fa) := by
  obtain ⟨rfl, rfl⟩ := ok
  refine ⟨ps_par3 hc hN hi hj hl hij hil hjl hx hy hz ha.pe hw hs, fun sa F0 H0 F H σ env st D s p => ?_⟩
  refine Ref.stm (ta := ta) ha.rf s p fun x F1 H1 ds st1 p1 s1 r1 p => ?_
  cases r1 with
  | nil => exact p.elim
  | cons q1 q2 =>
    cases q2 with
    | nil => exact p.elim
    | cons q2 q3 =>
      cases q3 with
      | nil => exact p.elim
      | cons q3 q4 =>
        cases q4 with
        | nil => exact ⟨_, _, _, rfl, p F1 H1 _ (((s1.setV q1).setV q2).setV q3)⟩
        | cons _ _ => exact p.elim
/-- name op= e -/
def sAug (i : Nat) (op : S → PD → PD → Option PD) (f : Env → M PD) : MS := fun env st => match env[i]? with
  | some (some (.v d)) => RS.of env (f env st) fun e s => match op s d e with
    | some z => .ok (.nx (env.set i (some (.v z)))) s
    | none => .bad
  | _ => .bad
theorem ds_aug {i : Nat} {x : Str} {op : Operator} {r : R2} {dop : S → PD → PD → Option PD} {pos' : Pos} (hN : X.N.Nodup) (ho : PIp X op r ∧ OpRef K r dop) (he : DE X K mg W e te fe) (hi : X.N[i]? = some x := by rfl) (hx : Loc X.env.scope x := by first | exact Or.inl rfl | exact Or.inr rfl)
    (hf : X.fn x = true ∨ X.env.scope.names.lookup x = some .local := by first | exact .inl rfl | exact .inr rfl | assumption) (ok : OkX X K mg := by exact ⟨rfl, rfl⟩) : DS X K mg W (.AugAssign (.Name x pos') op e pos) (tAug i te r) (sAug i dop fe) := by
  obtain ⟨rfl, rfl⟩ := ok
  exact ⟨ps_aug hN hi hx he.pe ho.1 hf, fun sa F0 H0 F H σ env st D s p => by
  unfold sAug at p
  split at p
  · rename_i d e1
    obtain ⟨v, e2, rv⟩ := s.vals i d e1
    refine ⟨v, e2, ?_⟩
    refine Ref.stm (ta := te) he.rf s p fun y F1 H1 e st1 p1 s1 r1 p => ?_
    cases hz : dop st1 d e with
    | none => rw [hz] at p; exact p.elim
    | some z =>
      rw [hz] at p
      exact ho.2 sa F1 H1 st1 v y d e z _ s1.bs (rv.mono p1.fm) r1 hz fun w F2 H2 p2 rw' => p F2 H2 _ ((s1.step p2).setV rw')
  · exact p.elim⟩
theorem ds_expr (he : DE X K mg W e te fe) (hs : swapsWith e none pos.line X.env = pure false := by rfl) (ok : OkX X K mg := by exact ⟨rfl, rfl⟩) : DS X K mg W (.Expr e pos) (tDrop te) (sExpr fe) := by
  obtain ⟨rfl, rfl⟩ := ok
  exact ⟨ps_expr he.pe hs, fun sa F0 H0 F H σ env st D s p => by
  refine Ref.stm (ta := te) he.rf s p fun y F1 H1 e st1 p1 s1 r1 p => ?_
  exact p F1 H1 σ s1⟩
theorem ds_ret (he : DE X K mg W e te fe) (ok : OkX X K mg := by exact ⟨rfl, rfl⟩) : DS X K mg W (.Return (some e) pos) (tRet te) (sRet fe) := by
  obtain ⟨rfl, rfl⟩ := ok
  exact ⟨ps_ret he.pe, fun sa F0 H0 F H σ env st D s p => by
  refine Ref.stm (ta := te) he.rf s p fun y F1 H1 e st1 p1 s1 r1 p => ?_
  exact p y F1 H1 s1.stp r1⟩
theorem ds_retN (ok : OkX X K mg := by exact ⟨rfl, rfl⟩) : DS X K mg W (.Return none pos) tRetN sRetN := by
  obtain ⟨rfl, rfl⟩ := ok
  exact ⟨ps_retN, fun sa F0 H0 F H σ env st D s p => p .non F H s.stp (.inl .non)⟩
theorem ds_if {c : Expr} {a b : List Stmt} {tc : TT} {fc : Env → M Bool} (hc : DT X K mg W c tc fc) (ha : DSs X K mg W a t f) (hb : DSs X K mg W b u g) (ok : OkX X K mg := by exact ⟨rfl, rfl⟩) : DS X K mg W (.If c a b pos) (tIfS tc t u) (sIf fc f g) := by
  obtain ⟨rfl, rfl⟩ := ok
  exact ⟨ps_if hc.pe ha.ps hb.ps, fun sa F0 H0 F H σ env st D s p => by
  refine Ref.stm (ta := tc) hc.rf s p fun y F1 H1 b st1 p1 s1 r1 p => ?_
  have r1' : y = b := r1
  subst r1'
  cases y with
  | true => exact iteT (ha.rf sa F0 H0 F1 H1 σ env st1 D s1 p)
  | false => exact iteF (hb.rf sa F0 H0 F1 H1 σ env st1 D s1 p)⟩
theorem ds_pass (ok : OkX X K mg := by exact ⟨rfl, rfl⟩) : DS X K mg W (.Pass pos) tNext sSkip := by
  obtain ⟨rfl, rfl⟩ := ok
  exact ⟨ps_pass, fun sa F0 H0 F H σ env st D s p => p F H σ s⟩
theorem ds_brk (ok : OkX X K mg := by exact ⟨rfl, rfl⟩) : DS X K mg W (.Break pos) tBreak sBrk := by
  obtain ⟨rfl, rfl⟩ := ok
  exact ⟨ps_break, fun sa F0 H0 F H σ env st D s p => p F H σ s⟩
theorem ds_cnt (ok : OkX X K mg := by exact ⟨rfl, rfl⟩) : DS X K mg W (.Continue pos) tCont sCnt := by
  obtain ⟨rfl, rfl⟩ := ok
  exact ⟨ps_continue, fun sa F0 H0 F H σ env st D s p => p F H σ s⟩
end
/-! #### op= -/
def rAddA : R2 := fun x y H Q => (rI0 fun i j => .int (i + j)) x y H Q ∨ (∃ i j, x = .str i ∧ y = .str j ∧ i.length + j.length ≤ sizeLine ∧ Q (.str (i ++ j)) H)
def opAddA : S → PD → PD → Option PD := fun _ d e => match d, e with
  | .int i, .int j => some (.int (i + j))
  | .str a, .str b => if a.length + b.length ≤ sizeLine then some (.str (a ++ b)) else none
  | _, _ => none
theorem addARef {K : PySem.W.Frag} : OpRef K rAddA opAddA := by
  intro sa F H st x y d e z Q b rx ry hz q
  unfold opAddA at hz
  split at hz
  · cases hz
    rw [rx.int, ry.int]
    exact .inl ⟨_, _, rfl, rfl, b.val q (.int _)⟩
  · split at hz
    · cases hz
      rw [rx.str, ry.str]
      exact .inr ⟨_, _, rfl, rfl, by assumption, b.val q (.str _)⟩
    · cases hz
  · cases hz
section
variable {X : Cx} {K : PySem.W.Frag} {mg : Str → Option Value}
theorem iop_mulW : OpR X (inplaceOp .Mult) (rI CMulW fun i j => .int (i * j)) := opI fun _ _ _ _ _ _ _ hc q => imul_int q hc.ok
theorem i_add (ok : OkX X K mg := by exact ⟨rfl, rfl⟩) : PIp X .Add rAddA ∧ OpRef K rAddA opAddA := by
  obtain ⟨rfl, rfl⟩ := ok
  exact ⟨iop_add.or iop_add_str, addARef⟩
theorem i_sub (ok : OkX X K mg := by exact ⟨rfl, rfl⟩) : PIp X .Sub (rI0 fun i j => .int (i - j)) ∧ OpRef K (rI0 fun i j => .int (i - j)) opSub := by
  obtain ⟨rfl, rfl⟩ := ok
  exact ⟨iop_sub, subRef⟩
def opMulI : S → PD → PD → Option PD := fun _ d e => match d, e with
  | .int i, .int j => if i.natAbs.log2 + j.natAbs.log2 < 1000000 then some (.int (i * j)) else none
  | _, _ => none
theorem mulIRef {K : PySem.W.Frag} : OpRef K (rI CMulW fun i j => .int (i * j)) opMulI := by
  intro sa F H st x y d e z Q b rx ry hz q
  unfold opMulI at hz
  split at hz
  · split at hz
    · rename_i hl
      cases hz
      rw [rx.int, ry.int]
      exact ⟨_, _, rfl, rfl, hl, b.val q (.int _)⟩
    · cases hz
  · cases hz
theorem i_mul (ok : OkX X K mg := by exact ⟨rfl, rfl⟩) : PIp X .Mult (rI CMulW fun i j => .int (i * j)) ∧ OpRef K (rI CMulW fun i j => .int (i * j)) opMulI := by
  obtain ⟨rfl, rfl⟩ := ok
  exact ⟨iop_mulW, mulIRef⟩
/-- op= // and % with a divisor above 0 -/
def opDivP : S → PD → PD → Option PD := fun _ d e => match d, e with
  | .int i, .int j => if 0 < j ∧ j < 1073741824 then some (.int (i / j)) else none
  | _, _ => none
def opModP : S → PD → PD → Option PD := fun _ d e => match d, e with
  | .int i, .int j => if 0 < j then some (.int (i % j)) else none
  | _, _ => none
theorem divPRef {K : PySem.W.Frag} : OpRef K (rI CDiv fun i j => .int (i / j)) opDivP := by
  intro sa F H st x y d e z Q b rx ry hz q
  unfold opDivP at hz
  split at hz
  · split at hz
    · rename_i hl
      cases hz
      rw [rx.int, ry.int]
      exact ⟨_, _, rfl, rfl, hl, b.val q (.int _)⟩
    · cases hz
  · cases hz
theorem modPRef {K : PySem.W.Frag} : OpRef K (rI (fun _ j => 0 < j) fun i j => .int (i % j)) opModP := by
  intro sa F H st x y d e z Q b rx ry hz q
  unfold opModP at hz
  split at hz
  · split at hz
    · rename_i hl
      cases hz
      rw [rx.int, ry.int]
      exact ⟨_, _, rfl, rfl, hl, b.val q (.int _)⟩
    · cases hz
  · cases hz
theorem i_div (ok : OkX X K mg := by exact ⟨rfl, rfl⟩) : PIp X .FloorDiv (rI CDiv fun i j => .int (i / j)) ∧ OpRef K (rI CDiv fun i j => .int (i / j)) opDivP := by
  obtain ⟨rfl, rfl⟩ := ok
  exact ⟨iop_fdiv, divPRef⟩
theorem i_mod (ok : OkX X K mg := by exact ⟨rfl, rfl⟩) : PIp X .Mod (rI (fun _ j => 0 < j) fun i j => .int (i % j)) ∧ OpRef K (rI (fun _ j => 0 < j) fun i j => .int (i % j)) opModP := by
  obtain ⟨rfl, rfl⟩ := ok
  exact ⟨iop_mod, modPRef⟩
end

/-! ### lists of one's own -/
section
variable {K : PySem.W.Frag} {sa : Addr} {F0 H0 F H : Hp} {σ : L2.St} {env : Env} {st : S} {i : Nat} {xs ys : List PD} {vs : List V} {a : Addr}
theorem Sim.setO (s : Sim K sa F0 H0 F H σ env st) (e1 : H a = some (.lst vs)) (e2 : F a = none) (e3 : H0 a = none) (e4 : DVs K F vs xs) (no : ∀ (j : Nat) (ys : List PD), env[j]? = some (some (.o ys)) → σ[j]? ≠ some (some (.ref a))) :
    Sim K sa F0 H0 F H (σ.set i (some (.ref a))) (env.set i (some (.o xs))) st where
  s0 := s.s0
  stp := s.stp
  len := by rw [List.length_set, List.length_set]; exact s.len
  vals := fun j d e => by
    by_cases hj : i = j
    · subst hj
      by_cases hl : i < env.length
      · rw [List.getElem?_set_self hl] at e; cases e
      · rw [List.getElem?_eq_none (by simpa using hl)] at e; cases e
    · rw [List.getElem?_set_ne hj] at e ⊢
      exact s.vals j d e
  own := fun j zs e => by
    by_cases hj : i = j
    · subst hj
      by_cases hl : i < env.length
      · rw [List.getElem?_set_self hl] at e
        cases e
        exact ⟨a, vs, List.getElem?_set_self (by rw [← s.len]; exact hl), e1, e2, e3, e4⟩
      · rw [List.getElem?_eq_none (by simpa using hl)] at e; cases e
    · rw [List.getElem?_set_ne hj] at e ⊢
      exact s.own j zs e
  dis := fun j k zs ys b h1 h2 h3 h4 => by
    by_cases hj : i = j
    · by_cases hk : i = k
      · exact hj.symm.trans hk
      · subst hj
        rw [List.getElem?_set_ne hk] at h2 h4
        by_cases hl : i < σ.length
        · rw [List.getElem?_set_self hl] at h3
          cases h3
          exact absurd h4 (no k ys h2)
        · rw [List.getElem?_eq_none (by simpa using hl)] at h3; cases h3
    · rw [List.getElem?_set_ne hj] at h1 h3
      by_cases hk : i = k
      · subst hk
        by_cases hl : i < σ.length
        · rw [List.getElem?_set_self hl] at h4
          cases h4
          exact absurd h3 (no j zs h1)
        · rw [List.getElem?_eq_none (by simpa using hl)] at h4; cases h4
      · rw [List.getElem?_set_ne hk] at h2 h4
        exact s.dis j k zs ys b h1 h2 h3 h4
/-- the list in slot i gets another content -/
theorem Sim.updO (s : Sim K sa F0 H0 F H σ env st) (he : env[i]? = some (some (.o xs))) (hs : σ[i]? = some (some (.ref a))) (e4 : DVs K F vs ys) : Sim K sa F0 H0 F (upd H a (.lst vs)) σ (env.set i (some (.o ys))) st := by
  obtain ⟨a', us, h1, h2, h3, h4, h5⟩ := s.own i xs he
  rw [hs] at h1
  cases h1
  have ne := s.ne h4
  have hl : i < env.length := (List.getElem?_eq_some_iff.mp he).1
  refine ⟨s.s0, ⟨s.stp.fm, s.stp.fn, fun b x e nb => ?_, fun b x e => ?_, s.bs.fsa, ?_⟩, by rw [List.length_set]; exact s.len, fun j d e => ?_, fun j zs e => ?_, fun j k zs ws b g1 g2 g3 g4 => ?_⟩
  · rw [upd_ne (ne_of_none e h4)]; exact s.stp.pr b x e nb
  · rw [upd_ne (ne_of_none e h3)]; exact s.bs.sub b x e
  · obtain ⟨sc, e1, e2⟩ := s.bs.sr
    exact ⟨sc, by rw [upd_ne ne.symm]; exact e1, e2⟩
  · by_cases hj : i = j
    · subst hj; rw [List.getElem?_set_self hl] at e; cases e
    · rw [List.getElem?_set_ne hj] at e; exact s.vals j d e
  · by_cases hj : i = j
    · subst hj
      rw [List.getElem?_set_self hl] at e
      cases e
      exact ⟨a, vs, hs, upd_same, h3, h4, e4⟩
    · rw [List.getElem?_set_ne hj] at e
      obtain ⟨b, ws, g1, g2, g3, g4, g5⟩ := s.own j zs e
      refine ⟨b, ws, g1, ?_, g3, g4, g5⟩
      rw [upd_ne fun z => hj (s.dis i j xs zs a he e hs (by rw [g1, z]))]
      exact g2
  · have back : ∀ {j : Nat} {zs : List PD}, (env.set i (some (.o ys)))[j]? = some (some (.o zs)) → ∃ zs', env[j]? = some (some (.o zs')) := fun {j zs} e => by
      by_cases hj : i = j
      · subst hj; exact ⟨xs, he⟩
      · rw [List.getElem?_set_ne hj] at e; exact ⟨zs, e⟩
    obtain ⟨_, q1⟩ := back g1
    obtain ⟨_, q2⟩ := back g2
    exact s.dis j k _ _ b q1 q2 g3 g4
/-- .. is frozen -/
theorem Sim.freeze (s : Sim K sa F0 H0 F H σ env st) (he : env[i]? = some (some (.o xs))) : ∃ F', Same F F' ∧ Sim K sa F0 H0 F' H σ (env.set i (some (.v (.list xs)))) st := by
  obtain ⟨a, us, h1, h2, h3, h4, h5⟩ := s.own i xs he
  have hl : i < env.length := (List.getElem?_eq_some_iff.mp he).1
  have sm : Same F (upd F a (.lst us)) := same_upd h3
  refine ⟨upd F a (.lst us), sm, s.s0, s.stp.freeze h2 h3 h4 (s.ne h4), by rw [List.length_set]; exact s.len, fun j d e => ?_, fun j zs e => ?_, fun j k zs ws b g1 g2 g3 g4 => ?_⟩
  · by_cases hj : i = j
    · subst hj
      rw [List.getElem?_set_self hl] at e
      cases e
      exact ⟨_, h1, .inl (.lst upd_same (h5.mono sm))⟩
    · rw [List.getElem?_set_ne hj] at e
      obtain ⟨v, e1, r⟩ := s.vals j d e
      exact ⟨v, e1, r.mono sm⟩
  · by_cases hj : i = j
    · subst hj; rw [List.getElem?_set_self hl] at e; cases e
    · rw [List.getElem?_set_ne hj] at e
      obtain ⟨b, ws, g1, g2, g3, g4, g5⟩ := s.own j zs e
      refine ⟨b, ws, g1, g2, ?_, g4, g5.mono sm⟩
      rw [upd_ne fun z => hj (s.dis i j xs zs a he e h1 (by rw [g1, z]))]
      exact g3
  · have back : ∀ {j : Nat} {zs : List PD}, (env.set i (some (.v (.list xs))))[j]? = some (some (.o zs)) → env[j]? = some (some (.o zs)) := fun {j zs} e => by
      by_cases hj : i = j
      · subst hj; rw [List.getElem?_set_self hl] at e; cases e
      · rw [List.getElem?_set_ne hj] at e; exact e
    exact s.dis j k _ _ b (back g1) (back g2) g3 g4
end
def sFrz (i : Nat) (g : MS) : MS := fun env st => match env[i]? with
  | some (some (.o xs)) => g (env.set i (some (.v (.list xs)))) st
  | _ => g env st
def sNew (i : Nat) (f : Env → M (List PD)) : MS := fun env st => RS.of env (f env st) fun xs s => .ok (.nx (env.set i (some (.o xs)))) s
def sApp (i : Nat) (f : Env → M PD) : MS := fun env st => match env[i]? with
  | some (some (.o xs)) => RS.of env (f env st) fun d s => if isD d = true ∧ xs.length ≤ 10000000 then .ok (.nx (env.set i (some (.o (xs ++ [d]))))) s else .bad
  | _ => .bad
def sExt (i : Nat) (f : Env → M PD) : MS := fun env st => match env[i]? with
  | some (some (.o xs)) => RS.of env (f env st) fun d s => match d with
    | .list ys => if xs.length + ys.length ≤ 10000000 then .ok (.nx (env.set i (some (.o (xs ++ ys))))) s else .bad
    | _ => .bad
  | _ => .bad
section
variable {X : Cx} {K : PySem.W.Frag} {mg : Str → Option Value} {W : WX} {sts : List Stmt} {t : TS} {g : MS} {e : Expr} {te : TE} {fe : Env → M PD} {fn : Env → M (List PD)} {pos apos cpos p2 pos' : Pos}
theorem dss_frz (i : Nat) (h : DSs X K mg W sts t g) (ok : OkX X K mg := by exact ⟨rfl, rfl⟩) : DSs X K mg W sts t (sFrz i g) := by
  obtain ⟨rfl, rfl⟩ := ok
  exact ⟨h.ps, fun sa F0 H0 F H σ env st D s p => by
  unfold sFrz at p
  split at p
  · rename_i xs he
    obtain ⟨F', _, s'⟩ := s.freeze he
    exact h.rf sa F0 H0 F' H σ _ st D s' p
  · exact h.rf sa F0 H0 F H σ _ st D s p⟩
theorem refS_new {K : PySem.W.Frag} {mg : Str → Option Value} {i : Nat} (he : Ref K mg W (rN K) te fn) : RefS K mg W (tAsg te (gName i)) (sNew i fn) := fun sa F0 H0 F H σ env st D s p => by
  refine Ref.stm (ta := te) he s p fun x F1 H1 d st1 p1 s1 r1 p => ?_
  obtain ⟨a, vs, rfl, e1, e2, e3, e4⟩ := r1
  have h0 : H0 a = none := by
    cases q : H0 a with
    | none => rfl
    | some o =>
      have := s.stp.pr a o q (s.bs.ne e3)
      rw [e3] at this; cases this
  refine p F1 H1 _ (s1.setO e1 e2 h0 e4 fun j ys e z => ?_)
  obtain ⟨b, us, g1, g2, _⟩ := s.own j ys e
  rw [z] at g1; cases g1
  rw [e3] at g2; cases g2
theorem ds_new {i : Nat} {x : Str} (hN : X.N.Nodup) (he : DN X K mg W e te fn) (hi : X.N[i]? = some x := by rfl) (hx : Loc X.env.scope x := by first | exact Or.inl rfl | exact Or.inr rfl) (hs : swapsWith e (some (.Name x pos')) pos.line X.env = pure false := by rfl)
    (hf : X.fn x = true ∨ X.env.scope.names.lookup x = some .local := by first | exact .inl rfl | exact .inr rfl | assumption) (ok : OkX X K mg := by exact ⟨rfl, rfl⟩) : DS X K mg W (.Assign [.Name x pos'] e pos) (tAsg te (gName i)) (sNew i fn) := by
  obtain ⟨rfl, rfl⟩ := ok
  exact ⟨ps_set hN hi hx he.pe hs hf, refS_new he.rf⟩
theorem ds_app (i : Nat) {x : Str} (he : DE X K mg W e te fe) (hN : X.N[i]? = some x := by rfl) (hv : Vis X.env.scope x := by first | exact Or.inl rfl | exact Or.inr (Or.inl rfl) | exact Or.inr (Or.inr rfl)) (hd : (x == ("__debug__" : Str)) = false := by decide) (hcd : (x == ("__classdict__" : Str)) = false := by decide)
    (hbase : attributeBase (.Name x p2) "append" X.env (eval (.Name x p2) X.env) = eval (.Name x p2) X.env := by rfl)
    (hfew : ((backTo cpos (starEach [e] X.env)).all (fun x => !x.1) && (backToKw cpos (keywordEach [] X.env)).all (fun x => x.1.isSome)
      && decide (([e] : List Expr).length + ([] : List Keyword).length + (if ([] : List Keyword).isEmpty then 0 else 1) < 30)) = true := by rfl)
    (hline : (apos.endLine == cpos.line) = true := by rfl) (hs : starEach [e] X.env = (false, eval e X.env) :: starEach [] X.env := by rfl) (hplain : (backTo cpos (starEach [] X.env)).any (·.1) = false := by rfl)
    (hsw : swapsWith (.Call (.Attribute (.Name x p2) "append" apos) [e] [] cpos) none pos.line X.env = pure false := by rfl) (ok : OkX X K mg := by exact ⟨rfl, rfl⟩) :
    DS X K mg W (.Expr (.Call (.Attribute (.Name x p2) "append" apos) [e] [] cpos) pos) (tDrop (tBM K "list" rAppend (tVar i) (tCons te tNil))) (sApp i fe) := by
  obtain ⟨rfl, rfl⟩ := ok
  exact ⟨ps_expr (pe_bm PySem.F.plainAttrs_list PySem.F.slot_list_append PySem.F.type_list_append mt_append (pe_var hN hv hd hcd) (pa_cons he.pe pa_nil hs) hbase hfew hline hs hplain) hsw, fun sa F0 H0 F H σ env st D s p => by
  unfold sApp at p
  split at p
  · rename_i xs h1
    obtain ⟨a, vs, g1, g2, g3, g4, g5⟩ := s.own i xs h1
    refine ⟨_, g1, .inl ⟨rfl, _, SqL.of g2⟩, ?_⟩
    refine Ref.stm (ta := te) he.rf s p fun y F1 H1 d st1 p1 s1 r1 p => ?_
    split at p
    · rename_i hk
      obtain ⟨a', vs', k1, k2, k3, k4, k5⟩ := s1.own i xs h1
      rw [g1] at k1; cases k1
      exact ⟨a, vs', y, rfl, rfl, k2, by rw [k5.len, sizeLine_eq]; omega, p F1 _ σ (s1.updO h1 g1 (k5.append (.cons (r1.dv' hk.1) .nil)))⟩
    · exact p.elim
  · exact p.elim⟩
theorem ds_ext (i : Nat) {x : Str} (he : DE X K mg W e te fe) (hN : X.N[i]? = some x := by rfl) (hv : Vis X.env.scope x := by first | exact Or.inl rfl | exact Or.inr (Or.inl rfl) | exact Or.inr (Or.inr rfl)) (hd : (x == ("__debug__" : Str)) = false := by decide) (hcd : (x == ("__classdict__" : Str)) = false := by decide)
    (hbase : attributeBase (.Name x p2) "extend" X.env (eval (.Name x p2) X.env) = eval (.Name x p2) X.env := by rfl)
    (hfew : ((backTo cpos (starEach [e] X.env)).all (fun x => !x.1) && (backToKw cpos (keywordEach [] X.env)).all (fun x => x.1.isSome)
      && decide (([e] : List Expr).length + ([] : List Keyword).length + (if ([] : List Keyword).isEmpty then 0 else 1) < 30)) = true := by rfl)
    (hline : (apos.endLine == cpos.line) = true := by rfl) (hs : starEach [e] X.env = (false, eval e X.env) :: starEach [] X.env := by rfl) (hplain : (backTo cpos (starEach [] X.env)).any (·.1) = false := by rfl)
    (hsw : swapsWith (.Call (.Attribute (.Name x p2) "extend" apos) [e] [] cpos) none pos.line X.env = pure false := by rfl) (ok : OkX X K mg := by exact ⟨rfl, rfl⟩) :
    DS X K mg W (.Expr (.Call (.Attribute (.Name x p2) "extend" apos) [e] [] cpos) pos) (tDrop (tBM K "list" rExtend (tVar i) (tCons te tNil))) (sExt i fe) := by
  obtain ⟨rfl, rfl⟩ := ok
  exact ⟨ps_expr (pe_bm PySem.F.plainAttrs_list PySem.F.slot_list_extend PySem.F.type_list_extend mt_extend (pe_var hN hv hd hcd) (pa_cons he.pe pa_nil hs) hbase hfew hline hs hplain) hsw, fun sa F0 H0 F H σ env st D s p => by
  unfold sExt at p
  split at p
  · rename_i xs h1
    obtain ⟨a, vs, g1, g2, g3, g4, g5⟩ := s.own i xs h1
    refine ⟨_, g1, .inl ⟨rfl, _, SqL.of g2⟩, ?_⟩
    refine Ref.stm (ta := te) he.rf s p fun y F1 H1 d st1 p1 s1 r1 p => ?_
    split at p
    · rename_i ys
      split at p
      · rename_i hk
        obtain ⟨a', vs', k1, k2, k3, k4, k5⟩ := s1.own i xs h1
        rw [g1] at k1; cases k1
        obtain ⟨b, us, rfl, l1, l2⟩ := r1.lst
        exact ⟨a, b, vs', us, rfl, rfl, k2, s1.bs.sub _ _ l1, by rw [k5.len, l2.len, sizeLine_eq]; omega, p F1 _ σ (s1.updO h1 g1 (k5.append l2))⟩
      · exact p.elim
    · exact p.elim
  · exact p.elim⟩
end
end DL
/-! DL6: loops, exceptions, defs, the law's state. -/
namespace DL
open PySem PySem.Spec PyProof.Rows L2

theorem Stp.leave {sa : Addr} {F0 H0 F1 H1 F H : Hp} {st1 st : S} (p : Stp sa F0 H0 F1 H1 st1) (q : Stp sa F1 H0 F H st) : Stp sa F0 H0 F H st where
  fm := p.fm.trans q.fm
  fn := fun b h n => by
    cases e : F1 b with
    | none => exact q.fn b e n
    | some o => exact p.fn b h (by rw [e]; exact fun z => nomatch z)
  pr := q.pr
  bs := q.bs
section
variable {K : PySem.W.Frag} {sa : Addr} {F0 H0 F1 H1 F H : Hp} {σ : L2.St} {env : Env} {st st1 : S}
theorem Sim.enter (s : Sim K sa F0 H0 F H σ env st) : Sim K sa F H0 F H σ env st := ⟨s.s0, ⟨Same.refl _, fun _ h n => absurd h n, s.stp.pr, s.bs⟩, s.len, s.vals, s.own, s.dis⟩
theorem Sim.leave (p : Stp sa F0 H0 F1 H1 st1) (s : Sim K sa F1 H0 F H σ env st) : Sim K sa F0 H0 F H σ env st := ⟨s.s0, p.leave s.stp, s.len, s.vals, s.own, s.dis⟩
end

/-! ### for -/
def forGo (tg : PD → Env → Option Env) (b : MS) : List PD → MS
  | [], env, st => .ok (.nx env) st
  | d :: ds, env, st => match tg d env with
    | none => .bad
    | some env1 => match b env1 st with
      | .ok (.nx e) s => forGo tg b ds e s
      | .ok (.ct e) s => forGo tg b ds e s
      | .ok (.bk e) s => .ok (.nx e) s
      | r => r
def sFor (itf : Env → M (List PD)) (tg : PD → Env → Option Env) (b : MS) : MS := fun env st => RS.of env (itf env st) fun ds s => forGo tg b ds env s
theorem refS_for {K : PySem.W.Frag} {mg : Str → Option Value} {W : WX} {wi : TI} {itf : Env → M (List PD)} {g : TG} {tgf : PD → Env → Option Env} {sl : List Nat} {tb : TS} {bf : MS}
    (hi : Ref K mg W (rIt K) wi itf) (hg : RefG K g tgf sl) (hb : RefS K mg W tb bf) : RefS K mg W (tFor wi g tb) (sFor itf tgf bf) := fun sa F0 H0 F H σ env st D s p => by
  refine Ref.stm (ta := wi) hi s p fun J F1 H1 ds st1 p1 s1 r1 p => ?_
  refine ⟨fun i m σ' H' => ∃ F' env' st', m = ds.length - i ∧ i ≤ ds.length ∧ Same F1 F' ∧ Sim K sa F0 H0 F' H' σ' env' st' ∧ PostS K mg W sa F0 H0 D (forGo tgf bf (ds.drop i) env' st'), ⟨ds.length, F1, env, st1, rfl, Nat.zero_le _, Same.refl _, s1, by rw [List.drop_zero]; exact p⟩, ?_⟩
  rintro i m σ2 H2 ⟨F2, env2, st2, rfl, hi', sm, s2, p⟩
  obtain ⟨stop, go⟩ := r1 i F2 H2 st2 sm s2.bs
  by_cases hlt : i < ds.length
  · obtain ⟨jgo, yld⟩ := go ds[i] (List.getElem?_eq_getElem hlt)
    rw [List.drop_eq_getElem_cons hlt] at p
    unfold forGo at p
    refine .inr ⟨jgo, fun σ' H' => ∃ F' env' st', i + 1 ≤ ds.length ∧ Same F1 F' ∧ Sim K sa F0 H0 F' H' σ' env' st' ∧ PostS K mg W sa F0 H0 D (forGo tgf bf (ds.drop (i + 1)) env' st'), fun σ' H' ⟨F', env', st', h1, h2, h3, h4⟩ => ⟨ds.length - (i + 1), by omega, F', env', st', rfl, h1, h2, h3, h4⟩, fun x H3 hy => ?_⟩
    obtain ⟨F3, p3, rx⟩ := yld x H3 hy
    have s3 := s2.step p3
    have sm3 : Same F1 F3 := sm.trans p3.fm
    cases q1 : tgf ds[i] env2 with
    | none => rw [q1] at p; exact p.elim
    | some env3 =>
      rw [q1] at p
      dsimp only at p
      refine hg sa F0 H0 F3 H3 _ _ st2 x ds[i] _ env3 s3 rx q1 fun σ4 s4 _ => ?_
      refine hb sa F3 H0 F3 H3 σ4 env3 st2 _ s4.enter ?_
      cases q2 : bf env3 st2 with
      | bad => rw [q2] at p; exact p.elim
      | ok o st5 =>
        rw [q2] at p
        cases o with
        | nx e => exact fun F6 H6 σ6 s6 => ⟨F6, e, st5, hlt, sm3.trans s6.stp.fm, Sim.leave s4.stp s6, p⟩
        | ct e => exact fun F6 H6 σ6 s6 => ⟨F6, e, st5, hlt, sm3.trans s6.stp.fm, Sim.leave s4.stp s6, p⟩
        | bk e => exact fun F6 H6 σ6 s6 => p F6 H6 σ6 (Sim.leave s4.stp s6)
        | rt d => exact fun v F6 H6 s6 r => p v F6 H6 (s4.stp.leave s6) r
        | ex c e => exact fun F6 H6 σ6 C s6 hm => p F6 H6 σ6 C (Sim.leave s4.stp s6) hm
  · have ei : i = ds.length := by omega
    refine .inl ⟨stop ei, ?_⟩
    rw [ei, List.drop_length] at p
    exact p F2 H2 σ2 s2
/-! ### while -/
def whIter (c : Env → M Bool) (b : MS) : Nat → Env → S → Option RS
  | 0, _, _ => none
  | n + 1, env, st => match c env st with
    | .ok true s => (match b env s with
      | .ok (.nx e) s' => whIter c b n e s'
      | .ok (.ct e) s' => whIter c b n e s'
      | .ok (.bk e) s' => some (.ok (.nx e) s')
      | r => some r)
    | .ok false s => some (.ok (.nx env) s)
    | .ex x s => some (.ok (.ex x env) s)
    | .bad => some .bad
theorem whIter_more {c : Env → M Bool} {b : MS} : ∀ {n : Nat} {env : Env} {st : S} {r : RS}, whIter c b n env st = some r → whIter c b (n + 1) env st = some r
  | 0, _, _, _, h => by cases h
  | n + 1, env, st, r, h => by
    unfold whIter at h ⊢
    cases q : c env st with
    | bad => rw [q] at h; exact h
    | ex x s => rw [q] at h; exact h
    | ok k s =>
      rw [q] at h
      cases k with
      | false => exact h
      | true =>
        dsimp only at h ⊢
        cases q2 : b env s with
        | bad => rw [q2] at h; exact h
        | ok o s' =>
          rw [q2] at h
          cases o with
          | nx e => exact whIter_more h
          | ct e => exact whIter_more h
          | bk e => exact h
          | rt d => exact h
          | ex x e => exact h
theorem whIter_le {c : Env → M Bool} {b : MS} {n m : Nat} {env : Env} {st : S} {r : RS} (h : whIter c b n env st = some r) (hm : n ≤ m) : whIter c b m env st = some r := by
  induction hm with
  | refl => exact h
  | step _ ih => exact whIter_more ih
open Classical in
noncomputable def sWhile (c : Env → M Bool) (b : MS) : MS := fun env st => if h : ∃ n r, whIter c b n env st = some r then h.choose_spec.choose else .bad
theorem sWhile_of {c : Env → M Bool} {b : MS} {n : Nat} {env : Env} {st : S} {r : RS} (h : whIter c b n env st = some r) : sWhile c b env st = r := by
  have hx : ∃ n r, whIter c b n env st = some r := ⟨n, r, h⟩
  unfold sWhile
  rw [dif_pos hx]
  have e := hx.choose_spec.choose_spec
  have h1 := whIter_le h (Nat.le_max_left n hx.choose)
  have h2 := whIter_le e (Nat.le_max_right n hx.choose)
  exact Option.some.inj (h2.symm.trans h1)
theorem sWhile_some {c : Env → M Bool} {b : MS} {env : Env} {st : S} (h : sWhile c b env st ≠ .bad) : ∃ n, whIter c b n env st = some (sWhile c b env st) := by
  by_cases hx : ∃ n r, whIter c b n env st = some r
  · obtain ⟨n, r, e⟩ := hx
    exact ⟨n, by rw [sWhile_of e]; exact e⟩
  · unfold sWhile at h
    rw [dif_neg hx] at h
    exact absurd rfl h
theorem sWhile_false {c : Env → M Bool} {b : MS} {env : Env} {st s : S} (h : c env st = .ok false s) : sWhile c b env st = .ok (.nx env) s := sWhile_of (n := 1) (by unfold whIter; rw [h])
theorem sWhile_true {c : Env → M Bool} {b : MS} {env e : Env} {st s s' : S} (h : c env st = .ok true s) (h2 : b env s = .ok (.nx e) s') : sWhile c b env st = sWhile c b e s' := by
  by_cases hx : ∃ n r, whIter c b n e s' = some r
  · obtain ⟨n, r, e1⟩ := hx
    rw [sWhile_of e1]
    refine sWhile_of (n := n + 1) ?_
    unfold whIter
    rw [h]
    dsimp only
    rw [h2]
    exact e1
  · have hy : ¬ ∃ n r, whIter c b n env st = some r := by
      rintro ⟨n, r, e1⟩
      cases n with
      | zero => cases e1
      | succ n =>
        unfold whIter at e1
        rw [h] at e1
        dsimp only at e1
        rw [h2] at e1
        exact hx ⟨n, r, e1⟩
    unfold sWhile
    rw [dif_neg hx, dif_neg hy]
theorem refS_while {K : PySem.W.Frag} {mg : Str → Option Value} {W : WX} {tc : TT} {cf : Env → M Bool} {tb : TS} {bf : MS} (hc : Ref K mg W rT tc cf) (hb : RefS K mg W tb bf) : RefS K mg W (tWhile tc tb) (sWhile cf bf) := fun sa F0 H0 F H σ env st D s p => by
  have hn : sWhile cf bf env st ≠ .bad := fun z => by rw [z] at p; exact p
  obtain ⟨n, e⟩ := sWhile_some hn
  refine ⟨fun m σ' H' => ∃ F' env' st' r, Sim K sa F0 H0 F' H' σ' env' st' ∧ whIter cf bf m env' st' = some r ∧ PostS K mg W sa F0 H0 D r, ⟨n, F, env, st, _, s, e, p⟩, ?_⟩
  rintro m σ2 H2 ⟨F2, env2, st2, r, s2, e2, p⟩
  cases m with
  | zero => cases e2
  | succ m =>
    unfold whIter at e2
    refine hc sa F0 H0 F2 H2 σ2 env2 st2 _ s2 ?_
    cases q : cf env2 st2 with
    | bad =>
      rw [q] at e2
      cases e2
      exact p
    | ex x st3 =>
      rw [q] at e2
      cases e2
      exact fun F' H' C p1 hm => p F' H' σ2 C (s2.step p1) hm
    | ok k st3 =>
      rw [q] at e2
      intro k' F3 H3 p3 ek
      have ek' : k' = k := ek
      subst ek'
      have s3 := s2.step p3
      cases k' with
      | false =>
        cases e2
        exact iteF (p F3 H3 σ2 s3)
      | true =>
        dsimp only at e2
        refine iteT ⟨fun σ' H' => ∃ F' env' st', Sim K sa F0 H0 F' H' σ' env' st' ∧ ∃ r, whIter cf bf m env' st' = some r ∧ PostS K mg W sa F0 H0 D r, fun σ' H' ⟨F', env', st', h1, r, h2, h3⟩ => ⟨m, Nat.lt_succ_self m, F', env', st', r, h1, h2, h3⟩, ?_⟩
        refine hb sa F0 H0 F3 H3 σ2 env2 st3 _ s3 ?_
        cases q2 : bf env2 st3 with
        | bad =>
          rw [q2] at e2
          cases e2
          exact p
        | ok o st4 =>
          rw [q2] at e2
          cases o with
          | nx e' => exact fun F4 H4 σ4 s4 => ⟨F4, e', st4, s4, r, e2, p⟩
          | ct e' => exact fun F4 H4 σ4 s4 => ⟨F4, e', st4, s4, r, e2, p⟩
          | bk e' => cases e2; exact p
          | rt d => cases e2; exact p
          | ex x e' => cases e2; exact p
section
variable {X : Cx} {K : PySem.W.Frag} {mg : Str → Option Value} {W : WX} {tg iter c : Expr} {body : List Stmt} {wi : TI} {itf : Env → M (List PD)} {g : TG} {tgf : PD → Env → Option Env} {sl : List Nat} {tb : TS} {bf : MS} {tc : TT} {cf : Env → M Bool} {pos : Pos}
theorem ds_for (hp : PassesOwn (model X.prog X.w) X.A X.env X.xe) (hi : DI X K mg W tg iter wi itf) (hg : DG X K tg g tgf sl) (hb : DSs X K mg W body tb bf) (hc : X.calm = true := by rfl) (hs : ∀ x, foldedSetIterable iter X.env x = pure x := by intro _; rfl) (ok : OkX X K mg := by exact ⟨rfl, rfl⟩) :
    DS X K mg W (.For tg iter body [] pos) (tFor wi g tb) (sFor itf tgf bf) := by
  obtain ⟨rfl, rfl⟩ := ok
  exact ⟨ps_for hp hc hi.pi hg.pg hb.ps hs, refS_for hi.rf hg.rf hb.rf⟩
theorem ds_while (hp : PassesOwn (model X.prog X.w) X.A X.env X.xe) (hc : DT X K mg W c tc cf) (hb : DSs X K mg W body tb bf) (ok : OkX X K mg := by exact ⟨rfl, rfl⟩) : DS X K mg W (.While c body [] pos) (tWhile tc tb) (sWhile cf bf) := by
  obtain ⟨rfl, rfl⟩ := ok
  exact ⟨ps_while hp hc.pe hb.ps, refS_while hc.rf hb.rf⟩
end

/-! ### y = [..] -/
section
variable {X : Cx} {K : PySem.W.Frag} {mg : Str → Option Value} {W : WX} {i : Nat} {y : Str} {py : Pos} {elt tg iter : Expr} {ifs : List Expr} {scope : Scope} {own : List (Str × Nat)} {pos spos : Pos} {wi : TI} {g : TG} {tt : TT} {te : TE} {itf : Env → M (List PD)} {tgf : PD → Env → Option Env} {sl : List Nat} {tf : Env → M Bool} {ef : Env → M PD}
theorem ps_setC (hN : X.N.Nodup) (hy : X.N[i]? = some y) (hyl : X.env.scope.names.lookup y = some .local) (hsw : swapsWith (.ListComp elt [⟨tg, iter, ifs, 0⟩] scope pos) (some (.Name y py)) spos.line X.env = pure true) (ok : BlkOk X.N X.env.scope scope own) (hi : DI X K mg W tg iter wi itf)
    (hg : ∀ (s : Shared) (H : Hp) (C : Addr) (cl : List (Str × Addr)) (fp : List Addr), DG (X.blk s H scope (compEnvC scope cl C X.env) fp) K tg g tgf sl)
    (ht : ∀ (s : Shared) (H : Hp) (C : Addr) (cl : List (Str × Addr)) (fp : List Addr), DTs (X.blk s H scope (compEnvC scope cl C X.env) fp) K mg W0 ifs tt tf)
    (he : ∀ (s : Shared) (H : Hp) (C : Addr) (cl : List (Str × Addr)) (fp : List Addr), DE (X.blk s H scope (compEnvC scope cl C X.env) fp) K mg W0 elt te ef) (hc : X.calm = true) (hs : ∀ x, foldedSetIterable iter X.env x = pure x) (ok : OkX X K mg := by exact ⟨rfl, rfl⟩) :
    PS X (.Assign [.Name y py] (.ListComp elt [⟨tg, iter, ifs, 0⟩] scope pos) spos) (tAsg (tLc wi g tt te (own.map (·.2))) (gName i)) := by
  obtain ⟨rfl, rfl⟩ := ok
  exact ps_setLc hc hN hy hyl hsw hi.pi ok (fun s H C cl fp => (hg s H C cl fp).pg) (fun s H C cl fp => (ht s H C cl fp).pt) (fun s H C cl fp => (he s H C cl fp).pe) hs
/-- .. a list of one's own -/
theorem ds_newC {vs : List Nat} (hN : X.N.Nodup) (ok : BlkOk X.N X.env.scope scope own) (hi : DI X K mg W tg iter wi itf)
    (hg : ∀ (s : Shared) (H : Hp) (C : Addr) (cl : List (Str × Addr)) (fp : List Addr), DG (X.blk s H scope (compEnvC scope cl C X.env) fp) K tg g tgf sl)
    (ht : ∀ (s : Shared) (H : Hp) (C : Addr) (cl : List (Str × Addr)) (fp : List Addr), DTs (X.blk s H scope (compEnvC scope cl C X.env) fp) K mg W0 ifs tt tf)
    (he : ∀ (s : Shared) (H : Hp) (C : Addr) (cl : List (Str × Addr)) (fp : List Addr), DE (X.blk s H scope (compEnvC scope cl C X.env) fp) K mg W0 elt te ef)
    (hsl : ∀ i ∈ sl, i ∈ vs) (inh : Shared) (hvs : own.map (·.2) = vs := by rfl) (hy : X.N[i]? = some y := by rfl) (hyl : X.env.scope.names.lookup y = some .local := by rfl) (hsw : swapsWith (.ListComp elt [⟨tg, iter, ifs, 0⟩] scope pos) (some (.Name y py)) spos.line X.env = pure true := by exact sw_true rfl rfl rfl (by decide +kernel)) (hc : X.calm = true := by rfl) (hs : ∀ x, foldedSetIterable iter X.env x = pure x := by intro _; rfl) (ok : OkX X K mg := by exact ⟨rfl, rfl⟩) :
    DS X K mg W (.Assign [.Name y py] (.ListComp elt [⟨tg, iter, ifs, 0⟩] scope pos) spos) (tAsg (tLc wi g tt te vs) (gName i)) (sNew i (nComp itf tgf tf ef vs)) := by
  obtain ⟨rfl, rfl⟩ := ok
  subst hvs
  exact
  ⟨ps_setC hN hy hyl hsw ok hi hg ht he hc hs, refS_new (ref_comp hi.rf (hg inh (fun _ => none) 0 [] []).rf (ht inh (fun _ => none) 0 [] []).rf (he inh (fun _ => none) 0 [] []).rf hsl)⟩
theorem ref_eL {K : PySem.W.Frag} {mg : Str → Option Value} {t : TE} {f : Env → M (List PD)} (h : Ref K mg W (rN K) t f) : Ref K mg W (rE K) t (eL f) := fun sa F0 H0 F H σ env st Q s p => by
  refine h sa F0 H0 F H σ env st Q s ?_
  unfold eL at p
  cases q : f env st with
  | ok xs st' =>
    rw [q] at p
    refine fun v F' H' p1 r1 => ?_
    obtain ⟨a, vs, rfl, e1, e2, e3, e4⟩ := r1
    have fz := p1.freeze e1 e2 e3 (s.bs.ne e3)
    exact p _ _ _ fz (.inl (.lst upd_same (e4.mono (same_upd e2))))
  | ex c st' => rw [q] at p; exact p
  | bad => rw [q] at p; exact p
/-- .. frozen at once -/
theorem ds_setC {vs : List Nat} (hN : X.N.Nodup) (ok : BlkOk X.N X.env.scope scope own) (hi : DI X K mg W tg iter wi itf)
    (hg : ∀ (s : Shared) (H : Hp) (C : Addr) (cl : List (Str × Addr)) (fp : List Addr), DG (X.blk s H scope (compEnvC scope cl C X.env) fp) K tg g tgf sl)
    (ht : ∀ (s : Shared) (H : Hp) (C : Addr) (cl : List (Str × Addr)) (fp : List Addr), DTs (X.blk s H scope (compEnvC scope cl C X.env) fp) K mg W0 ifs tt tf)
    (he : ∀ (s : Shared) (H : Hp) (C : Addr) (cl : List (Str × Addr)) (fp : List Addr), DE (X.blk s H scope (compEnvC scope cl C X.env) fp) K mg W0 elt te ef)
    (hsl : ∀ i ∈ sl, i ∈ vs) (inh : Shared) (hvs : own.map (·.2) = vs := by rfl) (hy : X.N[i]? = some y := by rfl) (hyl : X.env.scope.names.lookup y = some .local := by rfl) (hsw : swapsWith (.ListComp elt [⟨tg, iter, ifs, 0⟩] scope pos) (some (.Name y py)) spos.line X.env = pure true := by exact sw_true rfl rfl rfl (by decide +kernel)) (hc : X.calm = true := by rfl) (hs : ∀ x, foldedSetIterable iter X.env x = pure x := by intro _; rfl) (ok : OkX X K mg := by exact ⟨rfl, rfl⟩) :
    DS X K mg W (.Assign [.Name y py] (.ListComp elt [⟨tg, iter, ifs, 0⟩] scope pos) spos) (tAsg (tLc wi g tt te vs) (gName i)) (sSet i (eL (nComp itf tgf tf ef vs))) := by
  obtain ⟨rfl, rfl⟩ := ok
  subst hvs
  exact
  ⟨ps_setC hN hy hyl hsw ok hi hg ht he hc hs, refS_set (ref_eL (ref_comp hi.rf (hg inh (fun _ => none) 0 [] []).rf (ht inh (fun _ => none) 0 [] []).rf (he inh (fun _ => none) 0 [] []).rf hsl))⟩
end

/-! ### the state's fields stored -/
def stSet (st : S) (i : Int) (d : PD) : Option S :=
  if i = 1 then (asInt d).map fun n => { st with pos := n } else if i = 2 then (asInt d).map fun n => { st with cell := n } else if i = 3 then (asInt d).map fun n => { st with left := n } else if i = 4 then (asBool d).map fun n => { st with big := n } else none
/-- state[k] = e, k written -/
def sSt (i : Nat) (k : Int) (f : Env → M PD) : MS := fun env st => RS.of env (f env st) fun d s => match env[i]? with
  | some (some (.v (.dict []))) => (match stSet s k d with
    | some s' => .ok (.nx env) s'
    | none => .bad)
  | _ => .bad
theorem Sim.stW {K : PySem.W.Frag} {sa : Addr} {F0 H0 F H : Hp} {σ : L2.St} {env : Env} {st st' : S} {sc : Addr} (s : Sim K sa F0 H0 F H σ env st) (hc : F sc = some (.lst (st'.cells.map V.int))) : Sim K sa F0 H0 F (upd H sa (.lst (stV sc st'))) σ env st' where
  s0 := s.s0
  stp := by
    refine ⟨s.stp.fm, s.stp.fn, fun b x e nb => by rw [upd_ne nb]; exact s.stp.pr b x e nb, fun b x e => ?_, s.bs.fsa, sc, upd_same, hc⟩
    rw [upd_ne (ne_of_none e s.bs.fsa)]; exact s.bs.sub b x e
  len := s.len
  vals := s.vals
  own := fun i xs e => by
    obtain ⟨a, vs, e1, e2, e3, e4, r⟩ := s.own i xs e
    exact ⟨a, vs, e1, by rw [upd_ne (s.ne e4)]; exact e2, e3, e4, r⟩
  dis := s.dis
section
variable {X : Cx} {K : PySem.W.Frag} {mg : Str → Option Value} {W : WX} {e : Expr} {te : TE} {fe : Env → M PD} {pos px ps pk : Pos}
theorem ds_st (i : Nat) {x : Str} {k : Int} {j : Nat} (he : DE X K mg W e te fe) (hN : X.N[i]? = some x := by rfl) (hv : Vis X.env.scope x := by first | exact Or.inl rfl | exact Or.inr (Or.inl rfl) | exact Or.inr (Or.inr rfl)) (hd : (x == ("__debug__" : Str)) = false := by decide) (hcd : (x == ("__classdict__" : Str)) = false := by decide)
    (ha : ∀ v, assign (.Subscript (.Name x px) (.Constant (.int k) j pk) ps) X.env v = (do
      let ov ← holding [v] (eval (.Name x px) X.env)
      let iv ← holding [v, ov] (eval (.Constant (.int k) j pk) X.env)
      standAt ps
      holding [v, ov, iv] (setItem ov iv v)
      release [v, ov, iv] []) := by intro _; rfl)
    (hs : swapsWithSole [.Subscript (.Name x px) (.Constant (.int k) j pk) ps] e pos.line X.env = pure false := by rfl) (hw : swappedStores [.Subscript (.Name x px) (.Constant (.int k) j pk) ps] e X.env = pure none := by rfl)
    (h1 : (assignEach [.Subscript (.Name x px) (.Constant (.int k) j pk) ps] X.env).map (·.2) = [assign (.Subscript (.Name x px) (.Constant (.int k) j pk) ps) X.env] := by rfl) (ok : OkX X K mg := by exact ⟨rfl, rfl⟩) :
    DS X K mg W (.Assign [.Subscript (.Name x px) (.Constant (.int k) j pk) ps] e pos) (tAsg te (gSub (tVar i) (tC (.int k)) rSetL)) (sSt i k fe) := by
  obtain ⟨rfl, rfl⟩ := ok
  exact ⟨ps_asg he.pe (pg_sub (pe_var hN hv hd hcd) pe_int set_list ha) hs hw h1, fun sa F0 H0 F H σ env st D s p => by
  refine Ref.stm (ta := te) he.rf s p fun y F1 H1 d st1 p1 s1 r1 p => ?_
  split at p
  · rename_i e1
    obtain ⟨v, e2, rv⟩ := s1.vals i _ e1
    rw [rv.stt] at e2
    refine ⟨_, e2, ?_⟩
    obtain ⟨sc, g1, g2⟩ := s1.bs.sr
    unfold stSet at p
    have go : ∀ (jj : Nat) (st' : S), k = (jj : Int) → jj < 6 → st'.cells = st1.cells → (stV sc st1).set jj y = stV sc st' → PostS X.K X.mg W sa F0 H0 D (.ok (.nx env) st') →
        (∃ p xs k' j', V.ref sa = .ref p ∧ V.int k = .int k' ∧ H1 p = some (.lst xs) ∧ ixN xs.length k' = some j' ∧ D.nx σ (upd H1 p (.lst (xs.set j' y)))) := fun jj st' h1 h2 h3 h4 h5 => by
      subst h1
      refine ⟨sa, _, _, jj, rfl, rfl, g1, ?_, ?_⟩
      · unfold ixN
        rw [if_pos (by omega), if_pos (by show (jj : Int) < ((6 : Nat) : Int); omega)]
        simp
      · rw [h4]
        exact h5 F1 _ σ (s1.stW (by rw [h3]; exact g2))
    split at p
    · rename_i st' e3
      have int_of : ∀ {f : Int → S}, (asInt d).map f = some st' → ∃ n, y = .int n ∧ st' = f n := fun {f} h => by
        cases q : asInt d with
        | none => rw [q] at h; cases h
        | some n =>
          rw [q] at h
          cases h
          rw [asInt_eq q] at r1
          exact ⟨n, r1.int, rfl⟩
      split at e3
      · obtain ⟨n, rfl, rfl⟩ := int_of e3
        exact go 1 { st1 with pos := n } (by assumption) (by decide) rfl rfl p
      · split at e3
        · obtain ⟨n, rfl, rfl⟩ := int_of e3
          exact go 2 { st1 with cell := n } (by assumption) (by decide) rfl rfl p
        · split at e3
          · obtain ⟨n, rfl, rfl⟩ := int_of e3
            exact go 3 { st1 with left := n } (by assumption) (by decide) rfl rfl p
          · split at e3
            · cases q : asBool d with
              | none => rw [q] at e3; cases e3
              | some n =>
                rw [q] at e3
                cases e3
                rw [asBool_eq q] at r1
                have hy := r1.bl
                subst hy
                exact go 4 { st1 with big := n } (by assumption) (by decide) rfl rfl p
            · cases e3
    · exact p.elim
  · exact p.elim⟩
end

/-! ### own errors -/
structure ErrC (K : PySem.W.Frag) (mg : Str → Option Value) (x : Str) (C : Addr) : Prop where
  gC : mg x = some (.ref C)
  xC : PySem.W.excIn K C [.type "ValueError", .type "Exception", .type "BaseException", .type "object"] "ValueError.__new__" = true
  kC : PySem.W.keepIn K (.ref C) = true
  bC : PySem.W.subIn K (.ref C) (.type "BaseException") = some true
  tC : PySem.W.typeIn K (.ref C) = some (.type "type")
section
variable {X : Cx} {K : PySem.W.Frag} {mg : Str → Option Value} {W : WX} {x m : Str} {C : Addr} {j : Nat} {p p2 cpos pos : Pos}
def tRaise (W : WX) (C : Addr) : TS := fun _ σ H => W (.ref C) none σ H
theorem ds_raise (E : ErrC K mg x C) (tk : Takes X W) (hc : X.calm = true := by rfl) (hg : Gl X x := by rfl) (hdb : (x == ("__debug__" : Str)) = false := by decide) (ok : OkX X K mg := by exact ⟨rfl, rfl⟩) :
    DS X K mg W (.Raise (some (.Call (.Name x p) [.Constant (.str m) j p2] [] cpos)) none pos) (tRaise W C) (sRaise x) := by
  obtain ⟨rfl, rfl⟩ := ok
  exact ⟨ps_raise hc tk (pmk_own PySem.F.excBase_ValueError E.xC E.gC E.kC (raises_own E.bC E.tC) hg hdb), fun sa F0 H0 F H σ env st D s p => p F H σ C s E.gC⟩
end
end DL
/-! DL7: try, defs, the law's end. -/
namespace DL
open PySem PySem.Spec PyProof.Rows L2

/-! ### try .. except X: .. except Y: .. -/
def RS.noex : RS → RS
  | .ok (.ex _ _) _ => .bad
  | r => r
def sCatch (known : List Str) : List (Str × MS) → Str → Env → S → RS
  | [], c, env, s => .ok (.ex c env) s
  | (h, g) :: r, c, env, s => if c ∈ known then (if c = h then (g env s).noex else sCatch known r c env s) else .bad
def sTry (known : List Str) (b : MS) (hs : List (Str × MS)) : MS := fun env st => match b env st with
  | .ok (.ex c env') s => sCatch known hs c env' s
  | r => r
inductive HdD (X : Cx) (K : PySem.W.Frag) (mg : Str → Option Value) (known : List Str) : List ExceptHandler → List (Value × (Addr → Value → Option Addr → TS)) → List (Str × MS) → Prop
  | nil : HdD X K mg known [] [] []
  | cons {x : Str} {C : Addr} {t : TS} {g : MS} {b₀ : Stmt} {suite : List Stmt} {np pos' : Pos} {hds : List ExceptHandler} {l : List (Value × (Addr → Value → Option Addr → TS))} {gs : List (Str × MS)} (hg : Gl X x) (hdb : (x == ("__debug__" : Str)) = false) (hm : mg x = some (.ref C))
      (hex : ∀ c ∈ known, ∀ C', mg c = some (.ref C') → PySem.W.exmOne K (.ref C') (.ref C) = some (decide (c = x)))
      (hsu : ∀ (a : Addr) (oe : Obj) (pn : List (Addr × Obj)), DSs (X.suite a ((a, oe) :: pn)) K mg W0 (b₀ :: suite) t g) (r : HdD X K mg known hds l gs) :
      HdD X K mg known (.ExceptHandler (some (.Name x np)) none (b₀ :: suite) pos' :: hds) ((.ref C, fun _ _ _ => t) :: l) ((x, g) :: gs)
theorem HdD.ok {X : Cx} {K : PySem.W.Frag} {mg : Str → Option Value} {known : List Str} {hds : List ExceptHandler} {l : List (Value × (Addr → Value → Option Addr → TS))} {gs : List (Str × MS)} (h : HdD X K mg known hds l gs) : X.mg = mg → HdsOk X hds l := by
  intro e
  subst e
  induction h with
  | nil => exact .nil
  | cons hg hdb hm hex hsu _ ih => exact .cons ⟨hg, hdb, .inl hm⟩ (fun a oe cls d pn _ _ => (hsu a oe pn).ps) ih
theorem HdD.catch {X : Cx} {K : PySem.W.Frag} {mg : Str → Option Value} {known : List Str} {hds : List ExceptHandler} {l : List (Value × (Addr → Value → Option Addr → TS))} {gs : List (Str × MS)} {W : WX} {sa : Addr} {F0 H0 F H : Hp} {σ : L2.St} {env : Env} {st : S} {D : Ends} {c : Str} {C : Addr} (h : HdD X K mg known hds l gs) (s : Sim K sa F0 H0 F H σ env st)
    (hm : mg c = some (.ref C)) (p : PostS K mg W sa F0 H0 D (sCatch known gs c env st)) : wMany K W D l (.ref C) none σ H := by
  induction h with
  | nil => exact p F H σ C s hm
  | @cons x Cx t g b₀ suite np pos' hds l gs hg hdb hm' hex hsu _ ih =>
    unfold sCatch at p
    split at p
    · rename_i hk
      refine ⟨_, hex c hk C hm, fun e a ha => ?_, fun e => ?_⟩
      · rw [if_pos (of_decide_eq_true e)] at p
        refine (hsu a ⟨.none, none, .fields #[], #[]⟩ []).rf sa F0 H0 F H σ env st D s ?_
        cases q : g env st with
        | bad => rw [q] at p; exact p
        | ok o s' =>
          rw [q] at p
          cases o with
          | ex _ _ => exact p.elim
          | nx e => exact p
          | rt e => exact p
          | bk e => exact p
          | ct e => exact p
      · rw [if_neg (of_decide_eq_false e)] at p
        exact ih p
    · exact p.elim
section
variable {X : Cx} {K : PySem.W.Frag} {mg : Str → Option Value} {W : WX} {known : List Str} {body : List Stmt} {h₀ : ExceptHandler} {hds : List ExceptHandler} {l : List (Value × (Addr → Value → Option Addr → TS))} {gs : List (Str × MS)} {pos : Pos} {tb : WX → TS} {bf : MS}
theorem ds_try (tk : Takes X W) (hb : ∀ (W : WX) (pn : List (Addr × Obj)) (xe : Value → Shared → Prop), Takes (X.tr pn xe) W → PassesOwn (model X.prog X.w) X.A X.env xe → DSs (X.tr pn xe) K mg W body (tb W) bf) (hh : HdD X K mg known (h₀ :: hds) l gs)
    (hs : X.stack = X.env :: X.outer := by rfl) (hf : X.env.frame = some X.env.locals := by rfl) (hex : X.ex = [] := by rfl) (ok : OkX X K mg := by exact ⟨rfl, rfl⟩) : DS X K mg W (.Try body (h₀ :: hds) [] [] pos) (fun D σ H => tb (wMany K W D l) D σ H) (sTry known bf gs) := by
  obtain ⟨rfl, rfl⟩ := ok
  exact ⟨ps_try_many hs hf tk (fun W pn xe t p => (hb W pn xe t p).ps) (hh.ok rfl), fun sa F0 H0 F H σ env st D s p => by
  have rb : RefS X.K X.mg (wMany X.K W D l) (tb (wMany X.K W D l)) bf := (hb (wMany X.K W D l) [] (fun e s' => wpAny (model X.prog X.w) X.A (leaving X.env e) (fun _ s'' => L2.CX X.prog X.w X.outer X.H_0 X.s_0 (fun _ _ _ => True) e s'') (fun _ _ => True) s')
    (Takes.imp (takes_of (X := X.tr [] _) (E := fun _ _ _ => True) hs hf hex rfl) fun _ _ _ _ _ => trivial) (passes_of (X := X.tr [] _) rfl)).rf
  refine rb sa F0 H0 F H σ env st D s ?_
  unfold sTry at p
  cases q : bf env st with
  | bad => rw [q] at p; exact p
  | ok o s' =>
    rw [q] at p
    cases o with
    | ex c e => exact fun F' H' σ' C s1 hm => hh.catch s1 hm p
    | nx e => exact p
    | rt e => exact p
    | bk e => exact p
    | ct e => exact p⟩
end

structure ErrT (K : PySem.W.Frag) (mg : Str → Option Value) (known : List Str) : Prop where
  t : ∀ c ∈ known, ∀ h ∈ known, ∀ C Ch, mg c = some (.ref C) → mg h = some (.ref Ch) → PySem.W.exmOne K (.ref C) (.ref Ch) = some (decide (c = h))
theorem exc_of {K : PySem.W.Frag} {mg : Str → Option Value} {known : List Str} {x : Str} {C : Addr} (xx : ErrT K mg known) (hm : mg x = some (.ref C)) (hk : x ∈ known) :
    ∀ c ∈ known, ∀ C', mg c = some (.ref C') → PySem.W.exmOne K (.ref C') (.ref C) = some (decide (c = x)) := fun c hc C' h => xx.t c hc x hk C' C h hm

/-! ### defs -/
def R.ofRS : RS → R PD
  | .ok (.nx _) s => .ok .none s
  | .ok (.rt d) s => .ok d s
  | .ok (.ex c _) s => .ex c s
  | _ => .bad
def startE (N : Nat) (ds : List PD) : Env := ds.map (fun d => some (.v d)) ++ List.replicate (N - ds.length) none
def runFn (n N : Nat) (g : MS) : List PD → M PD := fun ds st => if ds.length = n then R.ofRS (g (startE N ds) st) else .bad
theorem RDs.get {K : PySem.W.Frag} {sa : Addr} {F : Hp} {vs : List V} {ds : List PD} (h : RDs K sa F vs ds) : ∀ {i : Nat} {d : PD}, ds[i]? = some d → ∃ v, vs[i]? = some v ∧ RD K sa F v d := by
  induction h with
  | nil => intro i d e; simp at e
  | cons h1 _ ih =>
    intro i d e
    cases i with
    | zero => simp at e; subst e; exact ⟨_, rfl, h1⟩
    | succ i =>
      obtain ⟨v, e1, e2⟩ := ih (i := i) (d := d) (by simpa using e)
      exact ⟨v, by simpa using e1, e2⟩
theorem startE_get {N : Nat} {ds : List PD} {i : Nat} {sl : Sl} (h : (startE N ds)[i]? = some (some sl)) : ∃ d, ds[i]? = some d ∧ sl = .v d := by
  unfold startE at h
  by_cases hi : i < ds.length
  · rw [List.getElem?_append_left (by simpa using hi), List.getElem?_map, List.getElem?_eq_getElem hi] at h
    cases h
    exact ⟨_, List.getElem?_eq_getElem hi, rfl⟩
  · rw [List.getElem?_append_right (by simpa using hi), List.getElem?_replicate] at h
    split at h <;> cases h
theorem sim_start {K : PySem.W.Frag} {sa : Addr} {F H : Hp} {st : S} {N : List Str} {vs : List V} {ds : List PD} (b : Bs sa F H st) (r : RDs K sa F vs ds) : Sim K sa F H F H (L2.start N vs) (startE N.length ds) st where
  s0 := b.hsa
  stp := b.refl
  len := by
    unfold L2.start startE
    rw [List.length_append, List.length_append, List.length_map, List.length_map, List.length_replicate, List.length_replicate, r.len]
  vals := fun i d e => by
    obtain ⟨d', e1, e2⟩ := startE_get e
    cases e2
    obtain ⟨v, g1, g2⟩ := r.get e1
    refine ⟨v, ?_, g2⟩
    have hi : i < vs.length := (List.getElem?_eq_some_iff.mp g1).1
    unfold L2.start
    rw [List.getElem?_append_left (by simpa using hi), List.getElem?_map, g1]
    rfl
  own := fun i xs e => by
    obtain ⟨d', e1, e2⟩ := startE_get e
    cases e2
  dis := fun i j xs ys a e _ _ _ => by
    obtain ⟨d', e1, e2⟩ := startE_get e
    cases e2
section
variable {P : Program} {w : World} {K : PySem.W.Frag} {mg : Str → Option Value} {base : Heap}
theorem fn_ok {x qual : Str} {st : Stmt} {f : Addr} {fd : FuncData} {N ps : List Str} {k : Nat} {g : MS} (F : Fun K x qual st f fd) (S : FnScope N ps (defScope st))
    (body : ∀ (cdv : Value) (A : Around) (outer : List PySem.Env) (s : Shared) (H : Hp) (E : XK), Room k (A.deeper (envOfC qual (defScope st) s.heap.objs.size f cdv)) →
      ∃ t, DSs (cxOf (L2.CX P w) P w K mg base N qual (defScope st) f cdv A outer s H E) K mg (fun c d _ H' => E c d H') (defBody st) t g) :
    FnOk P w K mg base (L2.CX P w) (k + 1) f fd ps (spD K mg ps.length (runFn ps.length N.length g)) := by
  refine F.okX S (fun vs H Q E h => ?_) (fun cdv A outer s H vs Q E hr h => ?_)
  · obtain ⟨sa, F, ds, st', h1, h2, h3, _⟩ := h
    rw [h3.len, h1]
  · obtain ⟨sa, F, ds, st', h1, h2, h3, p⟩ := h
    obtain ⟨t, d⟩ := body cdv A outer s H E hr
    refine ⟨t, d.ps, d.rf sa F H F H (L2.start N vs) (startE N.length ds) st' _ (sim_start h2 h3) ?_⟩
    unfold runFn at p
    rw [if_pos h1] at p
    show PostS K mg (fun c d _ H' => E c d H') sa F H { nx := fun _ H' => Q .non H', rt := Q } (g (startE N.length ds) st')
    cases q : g (startE N.length ds) st' with
    | bad => rw [q] at p; exact p.elim
    | ok o s' =>
      rw [q] at p
      cases o with
      | nx e => exact fun F' H' σ' s1 => p .non F' H' s1.stp (.inl .non)
      | rt d => exact p
      | ex c e => exact fun F' H' σ' C s1 hm => p F' H' C s1.stp hm
      | bk e => exact p.elim
      | ct e => exact p.elim
theorem cal_ok {x qual : Str} {st : Stmt} {f : Addr} {fd : FuncData} {N ps : List Str} {k : Nat} {g : MS} (F : Fun K x qual st f fd) (hm : mg x = some (.ref f)) (hb : Binds K fd ps []) (S : FnScope N ps (defScope st))
    (body : ∀ (cdv : Value) (A : Around) (outer : List PySem.Env) (s : Shared) (H : Hp) (E : XK), Room k (A.deeper (envOfC qual (defScope st) s.heap.objs.size f cdv)) →
      ∃ t, DSs (cxOf (L2.CX P w) P w K mg base N qual (defScope st) f cdv A outer s H E) K mg (fun c d _ H' => E c d H') (defBody st) t g) :
    Cal P w K mg base (k + 1) x ps (runFn ps.length N.length g) := ⟨f, fd, fn_ok F S body, hm, F.kp, hb⟩

/-! ### the law's own def: it makes the state, then goes on -/
def spState (K : PySem.W.Frag) : Sp := fun vs H Q _ => ∃ (a : Addr) (ns : List Int), vs = [.ref a] ∧ SqL K H a (ns.map V.int) ∧ ns.length ≤ 1000 ∧
  ∀ sc sa H', sc ≠ sa → H' sc = some (.lst (ns.map V.int)) → H' sa = some (.lst (stV sc ⟨ns, 0, 0, 0, false⟩)) → Q (.ref sa) H'
def spLaw (K : PySem.W.Frag) (n : Nat) : Sp := fun vs H Q _ => ∃ (a : Addr) (ns : List Int), vs = [.ref a] ∧ SqL K H a (ns.map V.int) ∧ ns.length ≤ n ∧ ∀ H', Q (.bl true) H'
theorem state_red {vs : List V} {H : Hp} {Q : VK} {E : XK} {N : List Str} (h : spState K vs H Q E) {r : List V → Hp → VK → Prop} (hr : r = fun xs H Q => ∃ p ys, xs = [.ref p] ∧ (SqL K H p ys ∨ SqT K H p ys) ∧ ∀ l, H l = none → Q (.ref l) (upd H l (.lst ys))) :
    tRet (tLst (tCons (tCB r (tCons (tVar 0) tNil)) (tCons (tC (.int 0)) (tCons (tC (.int 0)) (tCons (tC (.int 0)) (tCons (tC (.bl false)) (tCons (tC (.int 500)) tNil))))))) { nx := fun _ H' => Q .non H', rt := Q } (L2.start N vs) H := by
  subst hr
  obtain ⟨a, ns, rfl, hS, hl, q⟩ := h
  refine ⟨.ref a, rfl, a, _, rfl, .inl hS, fun sc hsc => ⟨by show 6 ≤ sizeLine; rw [sizeLine_eq]; decide, fun sa hsa => ?_⟩⟩
  have ne : sc ≠ sa := fun z => by subst z; rw [upd_same] at hsa; cases hsa
  exact q sc sa _ ne (by rw [upd_ne ne, upd_same]) upd_same
theorem law_red {vs : List V} {H : Hp} {Q : VK} {E : XK} {N : List Str} {n : Nat} {W : WX} {E' : L2.St → XK} {t : TS} {g : MS} (h : spLaw K n vs H Q E) (hn : n ≤ 1000) (hN : 2 ≤ N.length) (rf : RefS K mg W t g)
    (hl : ∀ ns : List Int, ns.length ≤ n → ∃ st', g ((List.replicate N.length none).set 1 (some (.v STT))) ⟨ns, 0, 0, 0, false⟩ = .ok (.rt (.bool true)) st') :
    tSeq (tAsg (tCallS (spState K) E' (tCons (tVar 0) tNil)) (gName 1)) t { nx := fun _ H' => Q .non H', rt := Q } (L2.start N vs) H := by
  obtain ⟨a, ns, rfl, hS, hln, q⟩ := h
  refine ⟨.ref a, rfl, a, ns, rfl, hS, by omega, fun sc sa H' ne e1 e2 => ?_⟩
  obtain ⟨st', e⟩ := hl ns hln
  have hF : ∀ b o, upd (fun _ => none) sc (.lst (ns.map V.int)) b = some o → b = sc ∧ o = .lst (ns.map V.int) := fun b o z => by
    by_cases c : b = sc
    · subst c; rw [upd_same] at z; cases z; exact ⟨rfl, rfl⟩
    · rw [upd_ne c] at z; cases z
  have b : Bs sa (upd (fun _ => none) sc (.lst (ns.map V.int))) H' ⟨ns, 0, 0, 0, false⟩ := by
    refine ⟨fun b o z => ?_, upd_ne ne.symm, sc, e2, upd_same⟩
    obtain ⟨rfl, rfl⟩ := hF b o z
    exact e1
  have slen : (L2.start N [V.ref a]).length = N.length := by unfold L2.start; simp; omega
  have hel : 1 < (List.replicate N.length (none : Option Sl)).length := by rw [List.length_replicate]; omega
  refine rf sa _ H' _ H' ((L2.start N [V.ref a]).set 1 (some (.ref sa))) ((List.replicate N.length none).set 1 (some (.v STT))) ⟨ns, 0, 0, 0, false⟩ _ ⟨b.hsa, b.refl, by rw [List.length_set, List.length_replicate, List.length_set, slen], fun i d z => ?_, fun i xs z => ?_, fun i j xs ys b z => ?_⟩ (by rw [e]; exact fun v F1 H1 _ r => by rw [r.bl]; exact q H1)
  · by_cases c : 1 = i
    · subst c
      rw [List.getElem?_set_self hel] at z
      cases z
      exact ⟨_, List.getElem?_set_self (by rw [slen]; omega), .inr ⟨rfl, rfl⟩⟩
    · rw [List.getElem?_set_ne c, List.getElem?_replicate] at z
      split at z <;> cases z
  · by_cases c : 1 = i
    · subst c
      rw [List.getElem?_set_self hel] at z
      cases z
    · rw [List.getElem?_set_ne c, List.getElem?_replicate] at z
      split at z <;> cases z
  · by_cases c : 1 = i
    · subst c
      rw [List.getElem?_set_self hel] at z
      cases z
    · rw [List.getElem?_set_ne c, List.getElem?_replicate] at z
      split at z <;> cases z
end
end DL
/-! DL8: how the functions of data evaluate. -/
namespace DL
open PySem PySem.Spec PyProof.Rows L2

/-! each combinator hands its first part's result to a constant that waits for it: so that simp goes from the left -/
section
variable {α : Type} {env : Env} {st : S}
@[simp] theorem eC_ap (d : PD) : eC d env st = .ok d st := rfl
def e2b (op : S → PD → PD → Option PD) (d : PD) (r : R PD) : R PD := r.bind fun e s => R.ofO (op s d e) s
def e2a (op : S → PD → PD → Option PD) (g : Env → M PD) (env : Env) (r : R PD) : R PD := r.bind fun d s => e2b op d (g env s)
@[simp] theorem e2_ap (op : S → PD → PD → Option PD) (f g : Env → M PD) : e2 op f g env st = e2a op g env (f env st) := rfl
@[simp] theorem e2a_ok (op : S → PD → PD → Option PD) (g : Env → M PD) (d : PD) : e2a op g env (.ok d st) = e2b op d (g env st) := rfl
@[simp] theorem e2b_ok (op : S → PD → PD → Option PD) (d e : PD) : e2b op d (.ok e st) = R.ofO (op st d e) st := rfl
@[simp] theorem e2a_ex (op : S → PD → PD → Option PD) (g : Env → M PD) (c : Str) : e2a op g env (.ex c st) = .ex c st := rfl
@[simp] theorem e2b_ex (op : S → PD → PD → Option PD) (d : PD) (c : Str) : e2b op d (.ex c st) = .ex c st := rfl
def e1a (op : S → PD → Option PD) (r : R PD) : R PD := r.bind fun d s => R.ofO (op s d) s
@[simp] theorem e1_ap (op : S → PD → Option PD) (f : Env → M PD) : e1 op f env st = e1a op (f env st) := rfl
@[simp] theorem e1a_ok (op : S → PD → Option PD) (d : PD) : e1a op (.ok d st) = R.ofO (op st d) st := rfl
def eBa (op : S → List PD → Option PD) (r : R (List PD)) : R PD := r.bind fun d s => R.ofO (op s d) s
@[simp] theorem eB_ap (op : S → List PD → Option PD) (f : Env → M (List PD)) : eB op f env st = eBa op (f env st) := rfl
@[simp] theorem eBa_ok (op : S → List PD → Option PD) (d : List PD) : eBa op (.ok d st) = R.ofO (op st d) st := rfl
@[simp] theorem eBa_ex (op : S → List PD → Option PD) (c : Str) : eBa op (.ex c st) = .ex c st := rfl
def nBa (op : S → List PD → Option (List PD)) (r : R (List PD)) : R (List PD) := r.bind fun d s => R.ofO (op s d) s
@[simp] theorem nB_ap (op : S → List PD → Option (List PD)) (f : Env → M (List PD)) : nB op f env st = nBa op (f env st) := rfl
@[simp] theorem nBa_ok (op : S → List PD → Option (List PD)) (d : List PD) : nBa op (.ok d st) = R.ofO (op st d) st := rfl
@[simp] theorem aNil_ap : aNil env st = .ok [] st := rfl
def aCb (d : PD) (r : R (List PD)) : R (List PD) := r.bind fun ds s => .ok (d :: ds) s
def aCa (g : Env → M (List PD)) (env : Env) (r : R PD) : R (List PD) := r.bind fun d s => aCb d (g env s)
@[simp] theorem aCons_ap (f : Env → M PD) (g : Env → M (List PD)) : aCons f g env st = aCa g env (f env st) := rfl
@[simp] theorem aCa_ok (g : Env → M (List PD)) (d : PD) : aCa g env (.ok d st) = aCb d (g env st) := rfl
@[simp] theorem aCb_ok (d : PD) (ds : List PD) : aCb d (.ok ds st) = .ok (d :: ds) st := rfl
@[simp] theorem aCa_ex (g : Env → M (List PD)) (c : Str) : aCa g env (.ex c st) = .ex c st := rfl
@[simp] theorem aCb_ex (d : PD) (c : Str) : aCb d (.ex c st) = .ex c st := rfl
def eTa (r : R (List PD)) : R PD := r.bind fun ds s => if (ds.all isD && decide (ds.length ≤ 10000)) = true then .ok (.tuple ds) s else .bad
@[simp] theorem eTup_ap (f : Env → M (List PD)) : eTup f env st = eTa (f env st) := rfl
theorem eTa_ok {ds : List PD} (h : (ds.all isD && decide (ds.length ≤ 10000)) = true) : eTa (.ok ds st) = .ok (.tuple ds) st := if_pos h
@[simp] theorem eTa_2 (a b : PD) : eTa (.ok [a, b] st) = if (isD a && (isD b && true)) = true then .ok (.tuple [a, b]) st else .bad := by
  show (if (([a, b] : List PD).all isD && decide (([a, b] : List PD).length ≤ 10000)) = true then R.ok (PyData.tuple [a, b]) st else .bad) = _
  simp
@[simp] theorem eTa_3 (a b c : PD) : eTa (.ok [a, b, c] st) = if (isD a && (isD b && (isD c && true))) = true then .ok (.tuple [a, b, c]) st else .bad := by
  show (if (([a, b, c] : List PD).all isD && decide (([a, b, c] : List PD).length ≤ 10000)) = true then R.ok (PyData.tuple [a, b, c]) st else .bad) = _
  simp
@[simp] theorem eTa_4 (a b c d : PD) : eTa (.ok [a, b, c, d] st) = if (isD a && (isD b && (isD c && (isD d && true)))) = true then .ok (.tuple [a, b, c, d]) st else .bad := by
  show (if (([a, b, c, d] : List PD).all isD && decide (([a, b, c, d] : List PD).length ≤ 10000)) = true then R.ok (PyData.tuple [a, b, c, d]) st else .bad) = _
  simp
def nLa (r : R (List PD)) : R (List PD) := r.bind fun ds s => if (ds.all isD && decide (ds.length ≤ 10000)) = true then .ok ds s else .bad
@[simp] theorem nLst_ap (f : Env → M (List PD)) : nLst f env st = nLa (f env st) := rfl
theorem nLa_ok {ds : List PD} (h : (ds.all isD && decide (ds.length ≤ 10000)) = true) : nLa (.ok ds st) = .ok ds st := if_pos h
@[simp] theorem nLa_0 : nLa (.ok [] st) = .ok [] st := rfl
@[simp] theorem nLa_1 (a : PD) : nLa (.ok [a] st) = if (isD a && true) = true then .ok [a] st else .bad := by
  show (if (([a] : List PD).all isD && decide (([a] : List PD).length ≤ 10000)) = true then R.ok [a] st else .bad) = _
  simp
@[simp] theorem nLa_2 (a b : PD) : nLa (.ok [a, b] st) = if (isD a && (isD b && true)) = true then .ok [a, b] st else .bad := by
  show (if (([a, b] : List PD).all isD && decide (([a, b] : List PD).length ≤ 10000)) = true then R.ok [a, b] st else .bad) = _
  simp
@[simp] theorem nLa_3 (a b c : PD) : nLa (.ok [a, b, c] st) = if (isD a && (isD b && (isD c && true))) = true then .ok [a, b, c] st else .bad := by
  show (if (([a, b, c] : List PD).all isD && decide (([a, b, c] : List PD).length ≤ 10000)) = true then R.ok [a, b, c] st else .bad) = _
  simp
def eLa (r : R (List PD)) : R PD := r.bind fun xs s => .ok (.list xs) s
@[simp] theorem eL_ap (f : Env → M (List PD)) : eL f env st = eLa (f env st) := rfl
@[simp] theorem eLa_ok (xs : List PD) : eLa (.ok xs st) = .ok (.list xs) st := rfl
def callA (n : Nat) (m : List PD → M PD) (r : R (List PD)) : R PD := r.bind fun ds s => if ds.length = n then m ds s else .bad
@[simp] theorem callF_ap (n : Nat) (m : List PD → M PD) (f : Env → M (List PD)) : callF n m f env st = callA n m (f env st) := Eq.trans rfl rfl
@[simp] theorem callA_1 (m : List PD → M PD) (a : PD) : callA 1 m (.ok [a] st) = m [a] st := Eq.trans rfl rfl
@[simp] theorem callA_2 (m : List PD → M PD) (a b : PD) : callA 2 m (.ok [a, b] st) = m [a, b] st := Eq.trans rfl rfl
@[simp] theorem callA_3 (m : List PD → M PD) (a b c : PD) : callA 3 m (.ok [a, b, c] st) = m [a, b, c] st := Eq.trans rfl rfl
@[simp] theorem callA_4 (m : List PD → M PD) (a b c d : PD) : callA 4 m (.ok [a, b, c, d] st) = m [a, b, c, d] st := Eq.trans rfl rfl
@[simp] theorem callA_ex (n : Nat) (m : List PD → M PD) (c : Str) : callA n m (.ex c st) = .ex c st := rfl
def tVa (r : R PD) : R Bool := r.bind fun d s => R.ofO (asBool d) s
@[simp] theorem tV_ap (f : Env → M PD) : tV f env st = tVa (f env st) := rfl
@[simp] theorem tVa_ok (b : Bool) : tVa (.ok (.bool b) st) = .ok b st := rfl
@[simp] theorem tVa_ex (c : Str) : tVa (.ex c st) = .ex c st := rfl
def tNa (r : R Bool) : R Bool := r.bind fun b s => .ok (!b) s
@[simp] theorem tNotF_ap (f : Env → M Bool) : tNotF f env st = tNa (f env st) := rfl
@[simp] theorem tNa_ok (b : Bool) : tNa (.ok b st) = .ok (!b) st := rfl
@[simp] theorem tNa_ex (c : Str) : tNa (.ex c st) = .ex c st := rfl
def tAa (g : Env → M Bool) (env : Env) (r : R Bool) : R Bool := r.bind fun b s => match b with | true => g env s | false => .ok false s
@[simp] theorem tAndF_ap (f g : Env → M Bool) : tAndF f g env st = tAa g env (f env st) := rfl
@[simp] theorem tAa_t (g : Env → M Bool) : tAa g env (.ok true st) = g env st := rfl
@[simp] theorem tAa_f (g : Env → M Bool) : tAa g env (.ok false st) = .ok false st := rfl
@[simp] theorem tAa_ex (g : Env → M Bool) (c : Str) : tAa g env (.ex c st) = .ex c st := rfl
def tOa (g : Env → M Bool) (env : Env) (r : R Bool) : R Bool := r.bind fun b s => match b with | true => .ok true s | false => g env s
@[simp] theorem tOrF_ap (f g : Env → M Bool) : tOrF f g env st = tOa g env (f env st) := rfl
@[simp] theorem tOa_t (g : Env → M Bool) : tOa g env (.ok true st) = .ok true st := rfl
@[simp] theorem tOa_f (g : Env → M Bool) : tOa g env (.ok false st) = g env st := rfl
@[simp] theorem tOa_ex (g : Env → M Bool) (c : Str) : tOa g env (.ex c st) = .ex c st := rfl
def eAa (g : Env → M PD) (env : Env) (r : R Bool) : R PD := r.bind fun b s => match b with | true => g env s | false => .ok (.bool false) s
@[simp] theorem eAnd_ap (f g : Env → M PD) : eAnd f g env st = eAa g env (tVa (f env st)) := rfl
@[simp] theorem eAa_t (g : Env → M PD) : eAa g env (.ok true st) = g env st := rfl
@[simp] theorem eAa_f (g : Env → M PD) : eAa g env (.ok false st) = .ok (.bool false) st := rfl
def eOa (g : Env → M PD) (env : Env) (r : R Bool) : R PD := r.bind fun b s => match b with | true => .ok (.bool true) s | false => g env s
@[simp] theorem eOr_ap (f g : Env → M PD) : eOr f g env st = eOa g env (tVa (f env st)) := rfl
@[simp] theorem eOa_t (g : Env → M PD) : eOa g env (.ok true st) = .ok (.bool true) st := rfl
@[simp] theorem eOa_f (g : Env → M PD) : eOa g env (.ok false st) = g env st := rfl
def eNa (r : R Bool) : R PD := r.bind fun b s => .ok (.bool (!b)) s
@[simp] theorem eNot_ap (f : Env → M PD) : eNot f env st = eNa (tVa (f env st)) := rfl
@[simp] theorem eNa_ok (b : Bool) : eNa (.ok b st) = .ok (.bool (!b)) st := rfl
def eIa (f g : Env → M PD) (env : Env) (r : R Bool) : R PD := r.bind fun b s => match b with | true => f env s | false => g env s
@[simp] theorem eIf_ap (c : Env → M Bool) (f g : Env → M PD) : eIf c f g env st = eIa f g env (c env st) := rfl
@[simp] theorem eIa_t (f g : Env → M PD) : eIa f g env (.ok true st) = f env st := rfl
@[simp] theorem eIa_f (f g : Env → M PD) : eIa f g env (.ok false st) = g env st := rfl
def eCd (op' : S → PD → PD → Option PD) (e : PD) (r : R PD) : R PD := r.bind fun g s => R.ofO (op' s e g) s
def eCc (op' : S → PD → PD → Option PD) (fc : Env → M PD) (env : Env) (e : PD) (r : R Bool) : R PD := r.bind fun k s => match k with | true => eCd op' e (fc env s) | false => .ok (.bool false) s
def eCb (op op' : S → PD → PD → Option PD) (fc : Env → M PD) (env : Env) (d : PD) (r : R PD) : R PD := r.bind fun e s => eCc op' fc env e ((R.ofO (op s d e) s).bind fun z s3 => R.ofO (asBool z) s3)
def eCa (op op' : S → PD → PD → Option PD) (fb fc : Env → M PD) (env : Env) (r : R PD) : R PD := r.bind fun d s => eCb op op' fc env d (fb env s)
theorem eChain_ap (op op' : S → PD → PD → Option PD) (fa fb fc : Env → M PD) : eChain op op' fa fb fc env st = eCa op op' fb fc env (fa env st) := by
  show (fa env st).bind _ = (fa env st).bind _
  cases fa env st with
  | bad => rfl
  | ex c s => rfl
  | ok d s1 =>
    show (fb env s1).bind _ = (fb env s1).bind _
    cases fb env s1 with
    | bad => rfl
    | ex c s => rfl
    | ok e s2 =>
      show (R.ofO (op s2 d e) s2).bind _ = eCc op' fc env e ((R.ofO (op s2 d e) s2).bind _)
      cases op s2 d e with
      | none => rfl
      | some z =>
        show (R.ofO (asBool z) s2).bind _ = eCc op' fc env e (R.ofO (asBool z) s2)
        cases asBool z with
        | none => rfl
        | some k => cases k <;> rfl
@[simp] theorem oNo_ap : oNo env st = .ok none st := rfl
def oSa (r : R PD) : R (Option Int) := r.bind fun d s => R.ofO ((asInt d).map some) s
@[simp] theorem oSo_ap (f : Env → M PD) : oSo f env st = oSa (f env st) := rfl
@[simp] theorem oSa_ok (i : Int) : oSa (.ok (.int i) st) = .ok (some i) st := rfl
def eSc (d : PD) (lo : Option Int) (r : R (Option Int)) : R PD := r.bind fun hi s => R.ofO (opSl d lo hi) s
def eSb (h : Env → M (Option Int)) (env : Env) (d : PD) (r : R (Option Int)) : R PD := r.bind fun lo s => eSc d lo (h env s)
def eSa (l h : Env → M (Option Int)) (env : Env) (r : R PD) : R PD := r.bind fun d s => eSb h env d (l env s)
@[simp] theorem eSl_ap (f : Env → M PD) (l h : Env → M (Option Int)) : eSl f l h env st = eSa l h env (f env st) := rfl
@[simp] theorem eSa_ok (l h : Env → M (Option Int)) (d : PD) : eSa l h env (.ok d st) = eSb h env d (l env st) := rfl
@[simp] theorem eSb_ok (h : Env → M (Option Int)) (d : PD) (lo : Option Int) : eSb h env d (.ok lo st) = eSc d lo (h env st) := rfl
@[simp] theorem eSc_ok (d : PD) (lo hi : Option Int) : eSc d lo (.ok hi st) = R.ofO (opSl d lo hi) st := rfl
def iAa (r : R PD) : R (List PD) := r.bind fun d s => R.ofO (itemsD d) s
@[simp] theorem iAny_ap (f : Env → M PD) : iAny f env st = iAa (f env st) := rfl
@[simp] theorem iAa_ok (d : PD) : iAa (.ok d st) = R.ofO (itemsD d) st := rfl
def iRa (g : List PD → Option (List PD)) (r : R (List PD)) : R (List PD) := r.bind fun d s => R.ofO (g d) s
@[simp] theorem iRng_ap (g : List PD → Option (List PD)) (f : Env → M (List PD)) : iRng g f env st = iRa g (f env st) := rfl
@[simp] theorem iRa_ok (g : List PD → Option (List PD)) (d : List PD) : iRa g (.ok d st) = R.ofO (g d) st := rfl
@[simp] theorem tYesF_ap : tYesF env st = .ok true st := rfl
def nCa (tg : PD → Env → Option Env) (tf : Env → M Bool) (ef : Env → M PD) (env : Env) (r : R (List PD)) : R (List PD) := r.bind fun ds s => if ds.length ≤ 10000000 then compGo env tg tf ef ds s else .bad
@[simp] theorem nComp_ap (itf : Env → M (List PD)) (tg : PD → Env → Option Env) (tf : Env → M Bool) (ef : Env → M PD) (vs : List Nat) : nComp itf tg tf ef vs env st = nCa tg tf ef (wipeE env vs) (itf env st) := rfl
theorem nCa_ok {tg : PD → Env → Option Env} {tf : Env → M Bool} {ef : Env → M PD} {ds : List PD} (h : ds.length ≤ 10000000) : nCa tg tf ef env (.ok ds st) = compGo env tg tf ef ds st := if_pos h
@[simp] theorem wipeE_nil : wipeE env [] = env := rfl
@[simp] theorem wipeE_cons (v : Nat) (vs : List Nat) : wipeE env (v :: vs) = (wipeE env vs).set v none := rfl
@[simp] theorem tgN_ap (i : Nat) (d : PD) : tgN i d env = some (env.set i (some (.v d))) := rfl
@[simp] theorem tgsNil_ap : tgsNil [] env = some env := rfl
@[simp] theorem tgsCons_ap (f : PD → Env → Option Env) (g : List PD → Env → Option Env) (d : PD) (r : List PD) : tgsCons f g (d :: r) env = (f d env).bind (g r) := rfl
@[simp] theorem tgT_2 (g : List PD → Env → Option Env) (a b : PD) : tgT 2 g (.tuple [a, b]) env = g [a, b] env := rfl
@[simp] theorem tgT_3 (g : List PD → Env → Option Env) (a b c : PD) : tgT 3 g (.tuple [a, b, c]) env = g [a, b, c] env := rfl
@[simp] theorem tgT_4 (g : List PD → Env → Option Env) (a b c d : PD) : tgT 4 g (.tuple [a, b, c, d]) env = g [a, b, c, d] env := rfl
/-! statements -/
@[simp] theorem sSkip_ap : sSkip env st = .ok (.nx env) st := rfl
def RS.seq (r : RS) (g : MS) : RS := match r with
  | .ok (.nx env') st' => g env' st'
  | r => r
@[simp] theorem sSeq_ap (f g : MS) : sSeq f g env st = RS.seq (f env st) g := rfl
@[simp] theorem RS.seq_nx (e : Env) (s : S) (g : MS) : RS.seq (.ok (.nx e) s) g = g e s := rfl
@[simp] theorem RS.seq_rt (d : PD) (s : S) (g : MS) : RS.seq (.ok (.rt d) s) g = .ok (.rt d) s := rfl
@[simp] theorem RS.seq_ex (c : Str) (e : Env) (s : S) (g : MS) : RS.seq (.ok (.ex c e) s) g = .ok (.ex c e) s := rfl
@[simp] theorem RS.seq_bk (e : Env) (s : S) (g : MS) : RS.seq (.ok (.bk e) s) g = .ok (.bk e) s := rfl
@[simp] theorem RS.seq_ct (e : Env) (s : S) (g : MS) : RS.seq (.ok (.ct e) s) g = .ok (.ct e) s := rfl
def setA (i : Nat) (env : Env) (r : R PD) : RS := RS.of env r fun d s => .ok (.nx (env.set i (some (.v d)))) s
@[simp] theorem sSet_ap (i : Nat) (f : Env → M PD) : sSet i f env st = setA i env (f env st) := rfl
@[simp] theorem setA_ok (i : Nat) (d : PD) : setA i env (.ok d st) = .ok (.nx (env.set i (some (.v d)))) st := rfl
@[simp] theorem setA_ex (i : Nat) (c : Str) : setA i env (.ex c st) = .ok (.ex c env) st := rfl
def oS (o : Option Env) (s : S) : RS := match o with
  | some env' => .ok (.nx env') s
  | none => .bad
@[simp] theorem oS_some (e : Env) (s : S) : oS (some e) s = .ok (.nx e) s := rfl
def asgA (tg : PD → Env → Option Env) (env : Env) (r : R PD) : RS := RS.of env r fun d s => oS (tg d env) s
@[simp] theorem sAsg_ap (f : Env → M PD) (tg : PD → Env → Option Env) : sAsg f tg env st = asgA tg env (f env st) := rfl
@[simp] theorem asgA_ok (tg : PD → Env → Option Env) (d : PD) : asgA tg env (.ok d st) = oS (tg d env) st := rfl
@[simp] theorem asgA_ex (tg : PD → Env → Option Env) (c : Str) : asgA tg env (.ex c st) = .ok (.ex c env) st := rfl
def retA (env : Env) (r : R PD) : RS := RS.of env r fun d s => .ok (.rt d) s
@[simp] theorem sRet_ap (f : Env → M PD) : sRet f env st = retA env (f env st) := rfl
@[simp] theorem retA_ok (d : PD) : retA env (.ok d st) = .ok (.rt d) st := rfl
@[simp] theorem retA_ex (c : Str) : retA env (.ex c st) = .ok (.ex c env) st := rfl
@[simp] theorem sRetN_ap : sRetN env st = .ok (.rt .none) st := rfl
def exprA (env : Env) (r : R PD) : RS := RS.of env r fun _ s => .ok (.nx env) s
@[simp] theorem sExpr_ap (f : Env → M PD) : sExpr f env st = exprA env (f env st) := rfl
@[simp] theorem exprA_ok (d : PD) : exprA env (.ok d st) = .ok (.nx env) st := rfl
@[simp] theorem exprA_ex (c : Str) : exprA env (.ex c st) = .ok (.ex c env) st := rfl
def ifA (f g : MS) (env : Env) (r : R Bool) : RS := RS.of env r fun b s => match b with | true => f env s | false => g env s
@[simp] theorem sIf_ap (c : Env → M Bool) (f g : MS) : sIf c f g env st = ifA f g env (c env st) := rfl
@[simp] theorem ifA_t (f g : MS) : ifA f g env (.ok true st) = f env st := rfl
@[simp] theorem ifA_f (f g : MS) : ifA f g env (.ok false st) = g env st := rfl
@[simp] theorem ifA_ex (f g : MS) (c : Str) : ifA f g env (.ex c st) = .ok (.ex c env) st := rfl
@[simp] theorem sBrk_ap : sBrk env st = .ok (.bk env) st := rfl
@[simp] theorem sCnt_ap : sCnt env st = .ok (.ct env) st := rfl
@[simp] theorem sRaise_ap (c : Str) : sRaise c env st = .ok (.ex c env) st := rfl
def par2A (i j : Nat) (env : Env) (r : R (List PD)) : RS := RS.of env r fun ds s => match ds with | [d, e] => .ok (.nx ((env.set i (some (.v d))).set j (some (.v e)))) s | _ => .bad
@[simp] theorem sPar2_ap (i j : Nat) (f : Env → M (List PD)) : sPar2 i j f env st = par2A i j env (f env st) := rfl
@[simp] theorem par2A_ok (i j : Nat) (a b : PD) : par2A i j env (.ok [a, b] st) = .ok (.nx ((env.set i (some (.v a))).set j (some (.v b)))) st := rfl
def par3A (i j l : Nat) (env : Env) (r : R (List PD)) : RS := RS.of env r fun ds s => match ds with | [d, e, g] => .ok (.nx (((env.set i (some (.v d))).set j (some (.v e))).set l (some (.v g)))) s | _ => .bad
@[simp] theorem sPar3_ap (i j l : Nat) (f : Env → M (List PD)) : sPar3 i j l f env st = par3A i j l env (f env st) := rfl
@[simp] theorem par3A_ok (i j l : Nat) (a b c : PD) : par3A i j l env (.ok [a, b, c] st) = .ok (.nx (((env.set i (some (.v a))).set j (some (.v b))).set l (some (.v c)))) st := rfl
def newA (i : Nat) (env : Env) (r : R (List PD)) : RS := RS.of env r fun xs s => .ok (.nx (env.set i (some (.o xs)))) s
@[simp] theorem sNew_ap (i : Nat) (f : Env → M (List PD)) : sNew i f env st = newA i env (f env st) := rfl
@[simp] theorem newA_ok (i : Nat) (xs : List PD) : newA i env (.ok xs st) = .ok (.nx (env.set i (some (.o xs)))) st := rfl
def forA (tg : PD → Env → Option Env) (b : MS) (env : Env) (r : R (List PD)) : RS := RS.of env r fun ds s => forGo tg b ds env s
@[simp] theorem sFor_ap (itf : Env → M (List PD)) (tg : PD → Env → Option Env) (b : MS) : sFor itf tg b env st = forA tg b env (itf env st) := rfl
@[simp] theorem forA_ok (tg : PD → Env → Option Env) (b : MS) (ds : List PD) : forA tg b env (.ok ds st) = forGo tg b ds env st := rfl
@[simp] theorem forGo_nil (tg : PD → Env → Option Env) (b : MS) : forGo tg b [] env st = .ok (.nx env) st := rfl
def RS.tryc (r : RS) (known : List Str) (hs : List (Str × MS)) : RS := match r with
  | .ok (.ex c env') s => sCatch known hs c env' s
  | r => r
@[simp] theorem sTry_ap (known : List Str) (b : MS) (hs : List (Str × MS)) : sTry known b hs env st = RS.tryc (b env st) known hs := rfl
@[simp] theorem RS.tryc_ex (c : Str) (e : Env) (s : S) (k : List Str) (hs : List (Str × MS)) : RS.tryc (.ok (.ex c e) s) k hs = sCatch k hs c e s := rfl
@[simp] theorem RS.tryc_nx (e : Env) (s : S) (k : List Str) (hs : List (Str × MS)) : RS.tryc (.ok (.nx e) s) k hs = .ok (.nx e) s := rfl
@[simp] theorem RS.tryc_rt (d : PD) (s : S) (k : List Str) (hs : List (Str × MS)) : RS.tryc (.ok (.rt d) s) k hs = .ok (.rt d) s := rfl
@[simp] theorem RS.noex_rt (d : PD) (s : S) : (RS.ok (.rt d) s).noex = .ok (.rt d) s := rfl
@[simp] theorem RS.noex_nx (d : Env) (s : S) : (RS.ok (.nx d) s).noex = .ok (.nx d) s := rfl
end
section
variable {env : Env} {st : S}
def oS2 (o : Option S) (env : Env) : RS := match o with
  | some s' => .ok (.nx env) s'
  | none => .bad
@[simp] theorem oS2_some (e : Env) (s : S) : oS2 (some s) e = .ok (.nx e) s := rfl
def stA (k : Int) (env : Env) (r : R PD) : RS := RS.of env r fun d s => oS2 (stSet s k d) env
@[simp] theorem sSt_ap (k : Int) (f : Env → M PD) (r : Env) : sSt 0 k f (some (.v STT) :: r) st = stA k (some (.v STT) :: r) (f (some (.v STT) :: r) st) := rfl
@[simp] theorem stA_ok (k : Int) (d : PD) : stA k env (.ok d st) = oS2 (stSet st k d) env := rfl
@[simp] theorem stSet_1 (n : Int) : stSet st 1 (.int n) = some { st with pos := n } := rfl
@[simp] theorem stSet_2 (n : Int) : stSet st 2 (.int n) = some { st with cell := n } := rfl
@[simp] theorem stSet_3 (n : Int) : stSet st 3 (.int n) = some { st with left := n } := rfl
@[simp] theorem stSet_4 (n : Bool) : stSet st 4 (.bool n) = some { st with big := n } := rfl
theorem eV_at {i : Nat} {d : PD} (h : env[i]? = some (some (.v d))) : eV i env st = .ok d st := by
  unfold eV; rw [h]
theorem ePk_v {i : Nat} {d : PD} (h : env[i]? = some (some (.v d))) : ePk i env st = .ok d st := by
  unfold ePk; rw [h]
theorem ePk_o {i : Nat} {d : List PD} (h : env[i]? = some (some (.o d))) : ePk i env st = .ok (.list d) st := by
  unfold ePk; rw [h]
end
@[simp] theorem eV_0 {r : Env} {st : S} (d : PD) : eV 0 (some (.v d) :: r) st = .ok d st := rfl
@[simp] theorem ePv_0 {r : Env} {st : S} (d : PD) : ePk 0 (some (.v d) :: r) st = .ok d st := rfl
@[simp] theorem ePo_0 {r : Env} {st : S} (d : List PD) : ePk 0 (some (.o d) :: r) st = .ok (.list d) st := rfl
@[simp] theorem eV_1 {x0 : Option Sl} {r : Env} {st : S} (d : PD) : eV 1 (x0 :: some (.v d) :: r) st = .ok d st := rfl
@[simp] theorem ePv_1 {x0 : Option Sl} {r : Env} {st : S} (d : PD) : ePk 1 (x0 :: some (.v d) :: r) st = .ok d st := rfl
@[simp] theorem ePo_1 {x0 : Option Sl} {r : Env} {st : S} (d : List PD) : ePk 1 (x0 :: some (.o d) :: r) st = .ok (.list d) st := rfl
@[simp] theorem eV_2 {x0 x1 : Option Sl} {r : Env} {st : S} (d : PD) : eV 2 (x0 :: x1 :: some (.v d) :: r) st = .ok d st := rfl
@[simp] theorem ePv_2 {x0 x1 : Option Sl} {r : Env} {st : S} (d : PD) : ePk 2 (x0 :: x1 :: some (.v d) :: r) st = .ok d st := rfl
@[simp] theorem ePo_2 {x0 x1 : Option Sl} {r : Env} {st : S} (d : List PD) : ePk 2 (x0 :: x1 :: some (.o d) :: r) st = .ok (.list d) st := rfl
@[simp] theorem eV_3 {x0 x1 x2 : Option Sl} {r : Env} {st : S} (d : PD) : eV 3 (x0 :: x1 :: x2 :: some (.v d) :: r) st = .ok d st := rfl
@[simp] theorem ePv_3 {x0 x1 x2 : Option Sl} {r : Env} {st : S} (d : PD) : ePk 3 (x0 :: x1 :: x2 :: some (.v d) :: r) st = .ok d st := rfl
@[simp] theorem ePo_3 {x0 x1 x2 : Option Sl} {r : Env} {st : S} (d : List PD) : ePk 3 (x0 :: x1 :: x2 :: some (.o d) :: r) st = .ok (.list d) st := rfl
@[simp] theorem eV_4 {x0 x1 x2 x3 : Option Sl} {r : Env} {st : S} (d : PD) : eV 4 (x0 :: x1 :: x2 :: x3 :: some (.v d) :: r) st = .ok d st := rfl
@[simp] theorem ePv_4 {x0 x1 x2 x3 : Option Sl} {r : Env} {st : S} (d : PD) : ePk 4 (x0 :: x1 :: x2 :: x3 :: some (.v d) :: r) st = .ok d st := rfl
@[simp] theorem ePo_4 {x0 x1 x2 x3 : Option Sl} {r : Env} {st : S} (d : List PD) : ePk 4 (x0 :: x1 :: x2 :: x3 :: some (.o d) :: r) st = .ok (.list d) st := rfl
@[simp] theorem eV_5 {x0 x1 x2 x3 x4 : Option Sl} {r : Env} {st : S} (d : PD) : eV 5 (x0 :: x1 :: x2 :: x3 :: x4 :: some (.v d) :: r) st = .ok d st := rfl
@[simp] theorem ePv_5 {x0 x1 x2 x3 x4 : Option Sl} {r : Env} {st : S} (d : PD) : ePk 5 (x0 :: x1 :: x2 :: x3 :: x4 :: some (.v d) :: r) st = .ok d st := rfl
@[simp] theorem ePo_5 {x0 x1 x2 x3 x4 : Option Sl} {r : Env} {st : S} (d : List PD) : ePk 5 (x0 :: x1 :: x2 :: x3 :: x4 :: some (.o d) :: r) st = .ok (.list d) st := rfl
@[simp] theorem eV_6 {x0 x1 x2 x3 x4 x5 : Option Sl} {r : Env} {st : S} (d : PD) : eV 6 (x0 :: x1 :: x2 :: x3 :: x4 :: x5 :: some (.v d) :: r) st = .ok d st := rfl
@[simp] theorem ePv_6 {x0 x1 x2 x3 x4 x5 : Option Sl} {r : Env} {st : S} (d : PD) : ePk 6 (x0 :: x1 :: x2 :: x3 :: x4 :: x5 :: some (.v d) :: r) st = .ok d st := rfl
@[simp] theorem ePo_6 {x0 x1 x2 x3 x4 x5 : Option Sl} {r : Env} {st : S} (d : List PD) : ePk 6 (x0 :: x1 :: x2 :: x3 :: x4 :: x5 :: some (.o d) :: r) st = .ok (.list d) st := rfl
@[simp] theorem eV_7 {x0 x1 x2 x3 x4 x5 x6 : Option Sl} {r : Env} {st : S} (d : PD) : eV 7 (x0 :: x1 :: x2 :: x3 :: x4 :: x5 :: x6 :: some (.v d) :: r) st = .ok d st := rfl
@[simp] theorem ePv_7 {x0 x1 x2 x3 x4 x5 x6 : Option Sl} {r : Env} {st : S} (d : PD) : ePk 7 (x0 :: x1 :: x2 :: x3 :: x4 :: x5 :: x6 :: some (.v d) :: r) st = .ok d st := rfl
@[simp] theorem ePo_7 {x0 x1 x2 x3 x4 x5 x6 : Option Sl} {r : Env} {st : S} (d : List PD) : ePk 7 (x0 :: x1 :: x2 :: x3 :: x4 :: x5 :: x6 :: some (.o d) :: r) st = .ok (.list d) st := rfl
@[simp] theorem eV_8 {x0 x1 x2 x3 x4 x5 x6 x7 : Option Sl} {r : Env} {st : S} (d : PD) : eV 8 (x0 :: x1 :: x2 :: x3 :: x4 :: x5 :: x6 :: x7 :: some (.v d) :: r) st = .ok d st := rfl
@[simp] theorem ePv_8 {x0 x1 x2 x3 x4 x5 x6 x7 : Option Sl} {r : Env} {st : S} (d : PD) : ePk 8 (x0 :: x1 :: x2 :: x3 :: x4 :: x5 :: x6 :: x7 :: some (.v d) :: r) st = .ok d st := rfl
@[simp] theorem ePo_8 {x0 x1 x2 x3 x4 x5 x6 x7 : Option Sl} {r : Env} {st : S} (d : List PD) : ePk 8 (x0 :: x1 :: x2 :: x3 :: x4 :: x5 :: x6 :: x7 :: some (.o d) :: r) st = .ok (.list d) st := rfl
@[simp] theorem eV_9 {x0 x1 x2 x3 x4 x5 x6 x7 x8 : Option Sl} {r : Env} {st : S} (d : PD) : eV 9 (x0 :: x1 :: x2 :: x3 :: x4 :: x5 :: x6 :: x7 :: x8 :: some (.v d) :: r) st = .ok d st := rfl
@[simp] theorem ePv_9 {x0 x1 x2 x3 x4 x5 x6 x7 x8 : Option Sl} {r : Env} {st : S} (d : PD) : ePk 9 (x0 :: x1 :: x2 :: x3 :: x4 :: x5 :: x6 :: x7 :: x8 :: some (.v d) :: r) st = .ok d st := rfl
@[simp] theorem ePo_9 {x0 x1 x2 x3 x4 x5 x6 x7 x8 : Option Sl} {r : Env} {st : S} (d : List PD) : ePk 9 (x0 :: x1 :: x2 :: x3 :: x4 :: x5 :: x6 :: x7 :: x8 :: some (.o d) :: r) st = .ok (.list d) st := rfl
@[simp] theorem eV_10 {x0 x1 x2 x3 x4 x5 x6 x7 x8 x9 : Option Sl} {r : Env} {st : S} (d : PD) : eV 10 (x0 :: x1 :: x2 :: x3 :: x4 :: x5 :: x6 :: x7 :: x8 :: x9 :: some (.v d) :: r) st = .ok d st := rfl
@[simp] theorem ePv_10 {x0 x1 x2 x3 x4 x5 x6 x7 x8 x9 : Option Sl} {r : Env} {st : S} (d : PD) : ePk 10 (x0 :: x1 :: x2 :: x3 :: x4 :: x5 :: x6 :: x7 :: x8 :: x9 :: some (.v d) :: r) st = .ok d st := rfl
@[simp] theorem ePo_10 {x0 x1 x2 x3 x4 x5 x6 x7 x8 x9 : Option Sl} {r : Env} {st : S} (d : List PD) : ePk 10 (x0 :: x1 :: x2 :: x3 :: x4 :: x5 :: x6 :: x7 :: x8 :: x9 :: some (.o d) :: r) st = .ok (.list d) st := rfl
@[simp] theorem eV_11 {x0 x1 x2 x3 x4 x5 x6 x7 x8 x9 x10 : Option Sl} {r : Env} {st : S} (d : PD) : eV 11 (x0 :: x1 :: x2 :: x3 :: x4 :: x5 :: x6 :: x7 :: x8 :: x9 :: x10 :: some (.v d) :: r) st = .ok d st := rfl
@[simp] theorem ePv_11 {x0 x1 x2 x3 x4 x5 x6 x7 x8 x9 x10 : Option Sl} {r : Env} {st : S} (d : PD) : ePk 11 (x0 :: x1 :: x2 :: x3 :: x4 :: x5 :: x6 :: x7 :: x8 :: x9 :: x10 :: some (.v d) :: r) st = .ok d st := rfl
@[simp] theorem ePo_11 {x0 x1 x2 x3 x4 x5 x6 x7 x8 x9 x10 : Option Sl} {r : Env} {st : S} (d : List PD) : ePk 11 (x0 :: x1 :: x2 :: x3 :: x4 :: x5 :: x6 :: x7 :: x8 :: x9 :: x10 :: some (.o d) :: r) st = .ok (.list d) st := rfl
@[simp] theorem eV_12 {x0 x1 x2 x3 x4 x5 x6 x7 x8 x9 x10 x11 : Option Sl} {r : Env} {st : S} (d : PD) : eV 12 (x0 :: x1 :: x2 :: x3 :: x4 :: x5 :: x6 :: x7 :: x8 :: x9 :: x10 :: x11 :: some (.v d) :: r) st = .ok d st := rfl
@[simp] theorem ePv_12 {x0 x1 x2 x3 x4 x5 x6 x7 x8 x9 x10 x11 : Option Sl} {r : Env} {st : S} (d : PD) : ePk 12 (x0 :: x1 :: x2 :: x3 :: x4 :: x5 :: x6 :: x7 :: x8 :: x9 :: x10 :: x11 :: some (.v d) :: r) st = .ok d st := rfl
@[simp] theorem ePo_12 {x0 x1 x2 x3 x4 x5 x6 x7 x8 x9 x10 x11 : Option Sl} {r : Env} {st : S} (d : List PD) : ePk 12 (x0 :: x1 :: x2 :: x3 :: x4 :: x5 :: x6 :: x7 :: x8 :: x9 :: x10 :: x11 :: some (.o d) :: r) st = .ok (.list d) st := rfl
@[simp] theorem eV_13 {x0 x1 x2 x3 x4 x5 x6 x7 x8 x9 x10 x11 x12 : Option Sl} {r : Env} {st : S} (d : PD) : eV 13 (x0 :: x1 :: x2 :: x3 :: x4 :: x5 :: x6 :: x7 :: x8 :: x9 :: x10 :: x11 :: x12 :: some (.v d) :: r) st = .ok d st := rfl
@[simp] theorem ePv_13 {x0 x1 x2 x3 x4 x5 x6 x7 x8 x9 x10 x11 x12 : Option Sl} {r : Env} {st : S} (d : PD) : ePk 13 (x0 :: x1 :: x2 :: x3 :: x4 :: x5 :: x6 :: x7 :: x8 :: x9 :: x10 :: x11 :: x12 :: some (.v d) :: r) st = .ok d st := rfl
@[simp] theorem ePo_13 {x0 x1 x2 x3 x4 x5 x6 x7 x8 x9 x10 x11 x12 : Option Sl} {r : Env} {st : S} (d : List PD) : ePk 13 (x0 :: x1 :: x2 :: x3 :: x4 :: x5 :: x6 :: x7 :: x8 :: x9 :: x10 :: x11 :: x12 :: some (.o d) :: r) st = .ok (.list d) st := rfl
@[simp] theorem eV_14 {x0 x1 x2 x3 x4 x5 x6 x7 x8 x9 x10 x11 x12 x13 : Option Sl} {r : Env} {st : S} (d : PD) : eV 14 (x0 :: x1 :: x2 :: x3 :: x4 :: x5 :: x6 :: x7 :: x8 :: x9 :: x10 :: x11 :: x12 :: x13 :: some (.v d) :: r) st = .ok d st := rfl
@[simp] theorem ePv_14 {x0 x1 x2 x3 x4 x5 x6 x7 x8 x9 x10 x11 x12 x13 : Option Sl} {r : Env} {st : S} (d : PD) : ePk 14 (x0 :: x1 :: x2 :: x3 :: x4 :: x5 :: x6 :: x7 :: x8 :: x9 :: x10 :: x11 :: x12 :: x13 :: some (.v d) :: r) st = .ok d st := rfl
@[simp] theorem ePo_14 {x0 x1 x2 x3 x4 x5 x6 x7 x8 x9 x10 x11 x12 x13 : Option Sl} {r : Env} {st : S} (d : List PD) : ePk 14 (x0 :: x1 :: x2 :: x3 :: x4 :: x5 :: x6 :: x7 :: x8 :: x9 :: x10 :: x11 :: x12 :: x13 :: some (.o d) :: r) st = .ok (.list d) st := rfl
@[simp] theorem eV_15 {x0 x1 x2 x3 x4 x5 x6 x7 x8 x9 x10 x11 x12 x13 x14 : Option Sl} {r : Env} {st : S} (d : PD) : eV 15 (x0 :: x1 :: x2 :: x3 :: x4 :: x5 :: x6 :: x7 :: x8 :: x9 :: x10 :: x11 :: x12 :: x13 :: x14 :: some (.v d) :: r) st = .ok d st := rfl
@[simp] theorem ePv_15 {x0 x1 x2 x3 x4 x5 x6 x7 x8 x9 x10 x11 x12 x13 x14 : Option Sl} {r : Env} {st : S} (d : PD) : ePk 15 (x0 :: x1 :: x2 :: x3 :: x4 :: x5 :: x6 :: x7 :: x8 :: x9 :: x10 :: x11 :: x12 :: x13 :: x14 :: some (.v d) :: r) st = .ok d st := rfl
@[simp] theorem ePo_15 {x0 x1 x2 x3 x4 x5 x6 x7 x8 x9 x10 x11 x12 x13 x14 : Option Sl} {r : Env} {st : S} (d : List PD) : ePk 15 (x0 :: x1 :: x2 :: x3 :: x4 :: x5 :: x6 :: x7 :: x8 :: x9 :: x10 :: x11 :: x12 :: x13 :: x14 :: some (.o d) :: r) st = .ok (.list d) st := rfl
@[simp] theorem eV_16 {x0 x1 x2 x3 x4 x5 x6 x7 x8 x9 x10 x11 x12 x13 x14 x15 : Option Sl} {r : Env} {st : S} (d : PD) : eV 16 (x0 :: x1 :: x2 :: x3 :: x4 :: x5 :: x6 :: x7 :: x8 :: x9 :: x10 :: x11 :: x12 :: x13 :: x14 :: x15 :: some (.v d) :: r) st = .ok d st := rfl
@[simp] theorem ePv_16 {x0 x1 x2 x3 x4 x5 x6 x7 x8 x9 x10 x11 x12 x13 x14 x15 : Option Sl} {r : Env} {st : S} (d : PD) : ePk 16 (x0 :: x1 :: x2 :: x3 :: x4 :: x5 :: x6 :: x7 :: x8 :: x9 :: x10 :: x11 :: x12 :: x13 :: x14 :: x15 :: some (.v d) :: r) st = .ok d st := rfl
@[simp] theorem ePo_16 {x0 x1 x2 x3 x4 x5 x6 x7 x8 x9 x10 x11 x12 x13 x14 x15 : Option Sl} {r : Env} {st : S} (d : List PD) : ePk 16 (x0 :: x1 :: x2 :: x3 :: x4 :: x5 :: x6 :: x7 :: x8 :: x9 :: x10 :: x11 :: x12 :: x13 :: x14 :: x15 :: some (.o d) :: r) st = .ok (.list d) st := rfl
@[simp] theorem eV_17 {x0 x1 x2 x3 x4 x5 x6 x7 x8 x9 x10 x11 x12 x13 x14 x15 x16 : Option Sl} {r : Env} {st : S} (d : PD) : eV 17 (x0 :: x1 :: x2 :: x3 :: x4 :: x5 :: x6 :: x7 :: x8 :: x9 :: x10 :: x11 :: x12 :: x13 :: x14 :: x15 :: x16 :: some (.v d) :: r) st = .ok d st := rfl
@[simp] theorem ePv_17 {x0 x1 x2 x3 x4 x5 x6 x7 x8 x9 x10 x11 x12 x13 x14 x15 x16 : Option Sl} {r : Env} {st : S} (d : PD) : ePk 17 (x0 :: x1 :: x2 :: x3 :: x4 :: x5 :: x6 :: x7 :: x8 :: x9 :: x10 :: x11 :: x12 :: x13 :: x14 :: x15 :: x16 :: some (.v d) :: r) st = .ok d st := rfl
@[simp] theorem ePo_17 {x0 x1 x2 x3 x4 x5 x6 x7 x8 x9 x10 x11 x12 x13 x14 x15 x16 : Option Sl} {r : Env} {st : S} (d : List PD) : ePk 17 (x0 :: x1 :: x2 :: x3 :: x4 :: x5 :: x6 :: x7 :: x8 :: x9 :: x10 :: x11 :: x12 :: x13 :: x14 :: x15 :: x16 :: some (.o d) :: r) st = .ok (.list d) st := rfl
@[simp] theorem eV_18 {x0 x1 x2 x3 x4 x5 x6 x7 x8 x9 x10 x11 x12 x13 x14 x15 x16 x17 : Option Sl} {r : Env} {st : S} (d : PD) : eV 18 (x0 :: x1 :: x2 :: x3 :: x4 :: x5 :: x6 :: x7 :: x8 :: x9 :: x10 :: x11 :: x12 :: x13 :: x14 :: x15 :: x16 :: x17 :: some (.v d) :: r) st = .ok d st := rfl
@[simp] theorem ePv_18 {x0 x1 x2 x3 x4 x5 x6 x7 x8 x9 x10 x11 x12 x13 x14 x15 x16 x17 : Option Sl} {r : Env} {st : S} (d : PD) : ePk 18 (x0 :: x1 :: x2 :: x3 :: x4 :: x5 :: x6 :: x7 :: x8 :: x9 :: x10 :: x11 :: x12 :: x13 :: x14 :: x15 :: x16 :: x17 :: some (.v d) :: r) st = .ok d st := rfl
@[simp] theorem ePo_18 {x0 x1 x2 x3 x4 x5 x6 x7 x8 x9 x10 x11 x12 x13 x14 x15 x16 x17 : Option Sl} {r : Env} {st : S} (d : List PD) : ePk 18 (x0 :: x1 :: x2 :: x3 :: x4 :: x5 :: x6 :: x7 :: x8 :: x9 :: x10 :: x11 :: x12 :: x13 :: x14 :: x15 :: x16 :: x17 :: some (.o d) :: r) st = .ok (.list d) st := rfl
@[simp] theorem eV_19 {x0 x1 x2 x3 x4 x5 x6 x7 x8 x9 x10 x11 x12 x13 x14 x15 x16 x17 x18 : Option Sl} {r : Env} {st : S} (d : PD) : eV 19 (x0 :: x1 :: x2 :: x3 :: x4 :: x5 :: x6 :: x7 :: x8 :: x9 :: x10 :: x11 :: x12 :: x13 :: x14 :: x15 :: x16 :: x17 :: x18 :: some (.v d) :: r) st = .ok d st := rfl
@[simp] theorem ePv_19 {x0 x1 x2 x3 x4 x5 x6 x7 x8 x9 x10 x11 x12 x13 x14 x15 x16 x17 x18 : Option Sl} {r : Env} {st : S} (d : PD) : ePk 19 (x0 :: x1 :: x2 :: x3 :: x4 :: x5 :: x6 :: x7 :: x8 :: x9 :: x10 :: x11 :: x12 :: x13 :: x14 :: x15 :: x16 :: x17 :: x18 :: some (.v d) :: r) st = .ok d st := rfl
@[simp] theorem ePo_19 {x0 x1 x2 x3 x4 x5 x6 x7 x8 x9 x10 x11 x12 x13 x14 x15 x16 x17 x18 : Option Sl} {r : Env} {st : S} (d : List PD) : ePk 19 (x0 :: x1 :: x2 :: x3 :: x4 :: x5 :: x6 :: x7 :: x8 :: x9 :: x10 :: x11 :: x12 :: x13 :: x14 :: x15 :: x16 :: x17 :: x18 :: some (.o d) :: r) st = .ok (.list d) st := rfl
@[simp] theorem eV_20 {x0 x1 x2 x3 x4 x5 x6 x7 x8 x9 x10 x11 x12 x13 x14 x15 x16 x17 x18 x19 : Option Sl} {r : Env} {st : S} (d : PD) : eV 20 (x0 :: x1 :: x2 :: x3 :: x4 :: x5 :: x6 :: x7 :: x8 :: x9 :: x10 :: x11 :: x12 :: x13 :: x14 :: x15 :: x16 :: x17 :: x18 :: x19 :: some (.v d) :: r) st = .ok d st := rfl
@[simp] theorem ePv_20 {x0 x1 x2 x3 x4 x5 x6 x7 x8 x9 x10 x11 x12 x13 x14 x15 x16 x17 x18 x19 : Option Sl} {r : Env} {st : S} (d : PD) : ePk 20 (x0 :: x1 :: x2 :: x3 :: x4 :: x5 :: x6 :: x7 :: x8 :: x9 :: x10 :: x11 :: x12 :: x13 :: x14 :: x15 :: x16 :: x17 :: x18 :: x19 :: some (.v d) :: r) st = .ok d st := rfl
@[simp] theorem ePo_20 {x0 x1 x2 x3 x4 x5 x6 x7 x8 x9 x10 x11 x12 x13 x14 x15 x16 x17 x18 x19 : Option Sl} {r : Env} {st : S} (d : List PD) : ePk 20 (x0 :: x1 :: x2 :: x3 :: x4 :: x5 :: x6 :: x7 :: x8 :: x9 :: x10 :: x11 :: x12 :: x13 :: x14 :: x15 :: x16 :: x17 :: x18 :: x19 :: some (.o d) :: r) st = .ok (.list d) st := rfl
@[simp] theorem eV_21 {x0 x1 x2 x3 x4 x5 x6 x7 x8 x9 x10 x11 x12 x13 x14 x15 x16 x17 x18 x19 x20 : Option Sl} {r : Env} {st : S} (d : PD) : eV 21 (x0 :: x1 :: x2 :: x3 :: x4 :: x5 :: x6 :: x7 :: x8 :: x9 :: x10 :: x11 :: x12 :: x13 :: x14 :: x15 :: x16 :: x17 :: x18 :: x19 :: x20 :: some (.v d) :: r) st = .ok d st := rfl
@[simp] theorem ePv_21 {x0 x1 x2 x3 x4 x5 x6 x7 x8 x9 x10 x11 x12 x13 x14 x15 x16 x17 x18 x19 x20 : Option Sl} {r : Env} {st : S} (d : PD) : ePk 21 (x0 :: x1 :: x2 :: x3 :: x4 :: x5 :: x6 :: x7 :: x8 :: x9 :: x10 :: x11 :: x12 :: x13 :: x14 :: x15 :: x16 :: x17 :: x18 :: x19 :: x20 :: some (.v d) :: r) st = .ok d st := rfl
@[simp] theorem ePo_21 {x0 x1 x2 x3 x4 x5 x6 x7 x8 x9 x10 x11 x12 x13 x14 x15 x16 x17 x18 x19 x20 : Option Sl} {r : Env} {st : S} (d : List PD) : ePk 21 (x0 :: x1 :: x2 :: x3 :: x4 :: x5 :: x6 :: x7 :: x8 :: x9 :: x10 :: x11 :: x12 :: x13 :: x14 :: x15 :: x16 :: x17 :: x18 :: x19 :: x20 :: some (.o d) :: r) st = .ok (.list d) st := rfl
@[simp] theorem eV_22 {x0 x1 x2 x3 x4 x5 x6 x7 x8 x9 x10 x11 x12 x13 x14 x15 x16 x17 x18 x19 x20 x21 : Option Sl} {r : Env} {st : S} (d : PD) : eV 22 (x0 :: x1 :: x2 :: x3 :: x4 :: x5 :: x6 :: x7 :: x8 :: x9 :: x10 :: x11 :: x12 :: x13 :: x14 :: x15 :: x16 :: x17 :: x18 :: x19 :: x20 :: x21 :: some (.v d) :: r) st = .ok d st := rfl
@[simp] theorem ePv_22 {x0 x1 x2 x3 x4 x5 x6 x7 x8 x9 x10 x11 x12 x13 x14 x15 x16 x17 x18 x19 x20 x21 : Option Sl} {r : Env} {st : S} (d : PD) : ePk 22 (x0 :: x1 :: x2 :: x3 :: x4 :: x5 :: x6 :: x7 :: x8 :: x9 :: x10 :: x11 :: x12 :: x13 :: x14 :: x15 :: x16 :: x17 :: x18 :: x19 :: x20 :: x21 :: some (.v d) :: r) st = .ok d st := rfl
@[simp] theorem ePo_22 {x0 x1 x2 x3 x4 x5 x6 x7 x8 x9 x10 x11 x12 x13 x14 x15 x16 x17 x18 x19 x20 x21 : Option Sl} {r : Env} {st : S} (d : List PD) : ePk 22 (x0 :: x1 :: x2 :: x3 :: x4 :: x5 :: x6 :: x7 :: x8 :: x9 :: x10 :: x11 :: x12 :: x13 :: x14 :: x15 :: x16 :: x17 :: x18 :: x19 :: x20 :: x21 :: some (.o d) :: r) st = .ok (.list d) st := rfl
@[simp] theorem eV_23 {x0 x1 x2 x3 x4 x5 x6 x7 x8 x9 x10 x11 x12 x13 x14 x15 x16 x17 x18 x19 x20 x21 x22 : Option Sl} {r : Env} {st : S} (d : PD) : eV 23 (x0 :: x1 :: x2 :: x3 :: x4 :: x5 :: x6 :: x7 :: x8 :: x9 :: x10 :: x11 :: x12 :: x13 :: x14 :: x15 :: x16 :: x17 :: x18 :: x19 :: x20 :: x21 :: x22 :: some (.v d) :: r) st = .ok d st := rfl
@[simp] theorem ePv_23 {x0 x1 x2 x3 x4 x5 x6 x7 x8 x9 x10 x11 x12 x13 x14 x15 x16 x17 x18 x19 x20 x21 x22 : Option Sl} {r : Env} {st : S} (d : PD) : ePk 23 (x0 :: x1 :: x2 :: x3 :: x4 :: x5 :: x6 :: x7 :: x8 :: x9 :: x10 :: x11 :: x12 :: x13 :: x14 :: x15 :: x16 :: x17 :: x18 :: x19 :: x20 :: x21 :: x22 :: some (.v d) :: r) st = .ok d st := rfl
@[simp] theorem ePo_23 {x0 x1 x2 x3 x4 x5 x6 x7 x8 x9 x10 x11 x12 x13 x14 x15 x16 x17 x18 x19 x20 x21 x22 : Option Sl} {r : Env} {st : S} (d : List PD) : ePk 23 (x0 :: x1 :: x2 :: x3 :: x4 :: x5 :: x6 :: x7 :: x8 :: x9 :: x10 :: x11 :: x12 :: x13 :: x14 :: x15 :: x16 :: x17 :: x18 :: x19 :: x20 :: x21 :: x22 :: some (.o d) :: r) st = .ok (.list d) st := rfl
@[simp] theorem eV_24 {x0 x1 x2 x3 x4 x5 x6 x7 x8 x9 x10 x11 x12 x13 x14 x15 x16 x17 x18 x19 x20 x21 x22 x23 : Option Sl} {r : Env} {st : S} (d : PD) : eV 24 (x0 :: x1 :: x2 :: x3 :: x4 :: x5 :: x6 :: x7 :: x8 :: x9 :: x10 :: x11 :: x12 :: x13 :: x14 :: x15 :: x16 :: x17 :: x18 :: x19 :: x20 :: x21 :: x22 :: x23 :: some (.v d) :: r) st = .ok d st := rfl
@[simp] theorem ePv_24 {x0 x1 x2 x3 x4 x5 x6 x7 x8 x9 x10 x11 x12 x13 x14 x15 x16 x17 x18 x19 x20 x21 x22 x23 : Option Sl} {r : Env} {st : S} (d : PD) : ePk 24 (x0 :: x1 :: x2 :: x3 :: x4 :: x5 :: x6 :: x7 :: x8 :: x9 :: x10 :: x11 :: x12 :: x13 :: x14 :: x15 :: x16 :: x17 :: x18 :: x19 :: x20 :: x21 :: x22 :: x23 :: some (.v d) :: r) st = .ok d st := rfl
@[simp] theorem ePo_24 {x0 x1 x2 x3 x4 x5 x6 x7 x8 x9 x10 x11 x12 x13 x14 x15 x16 x17 x18 x19 x20 x21 x22 x23 : Option Sl} {r : Env} {st : S} (d : List PD) : ePk 24 (x0 :: x1 :: x2 :: x3 :: x4 :: x5 :: x6 :: x7 :: x8 :: x9 :: x10 :: x11 :: x12 :: x13 :: x14 :: x15 :: x16 :: x17 :: x18 :: x19 :: x20 :: x21 :: x22 :: x23 :: some (.o d) :: r) st = .ok (.list d) st := rfl
@[simp] theorem eV_25 {x0 x1 x2 x3 x4 x5 x6 x7 x8 x9 x10 x11 x12 x13 x14 x15 x16 x17 x18 x19 x20 x21 x22 x23 x24 : Option Sl} {r : Env} {st : S} (d : PD) : eV 25 (x0 :: x1 :: x2 :: x3 :: x4 :: x5 :: x6 :: x7 :: x8 :: x9 :: x10 :: x11 :: x12 :: x13 :: x14 :: x15 :: x16 :: x17 :: x18 :: x19 :: x20 :: x21 :: x22 :: x23 :: x24 :: some (.v d) :: r) st = .ok d st := rfl
@[simp] theorem ePv_25 {x0 x1 x2 x3 x4 x5 x6 x7 x8 x9 x10 x11 x12 x13 x14 x15 x16 x17 x18 x19 x20 x21 x22 x23 x24 : Option Sl} {r : Env} {st : S} (d : PD) : ePk 25 (x0 :: x1 :: x2 :: x3 :: x4 :: x5 :: x6 :: x7 :: x8 :: x9 :: x10 :: x11 :: x12 :: x13 :: x14 :: x15 :: x16 :: x17 :: x18 :: x19 :: x20 :: x21 :: x22 :: x23 :: x24 :: some (.v d) :: r) st = .ok d st := rfl
@[simp] theorem ePo_25 {x0 x1 x2 x3 x4 x5 x6 x7 x8 x9 x10 x11 x12 x13 x14 x15 x16 x17 x18 x19 x20 x21 x22 x23 x24 : Option Sl} {r : Env} {st : S} (d : List PD) : ePk 25 (x0 :: x1 :: x2 :: x3 :: x4 :: x5 :: x6 :: x7 :: x8 :: x9 :: x10 :: x11 :: x12 :: x13 :: x14 :: x15 :: x16 :: x17 :: x18 :: x19 :: x20 :: x21 :: x22 :: x23 :: x24 :: some (.o d) :: r) st = .ok (.list d) st := rfl
@[simp] theorem eV_26 {x0 x1 x2 x3 x4 x5 x6 x7 x8 x9 x10 x11 x12 x13 x14 x15 x16 x17 x18 x19 x20 x21 x22 x23 x24 x25 : Option Sl} {r : Env} {st : S} (d : PD) : eV 26 (x0 :: x1 :: x2 :: x3 :: x4 :: x5 :: x6 :: x7 :: x8 :: x9 :: x10 :: x11 :: x12 :: x13 :: x14 :: x15 :: x16 :: x17 :: x18 :: x19 :: x20 :: x21 :: x22 :: x23 :: x24 :: x25 :: some (.v d) :: r) st = .ok d st := rfl
@[simp] theorem ePv_26 {x0 x1 x2 x3 x4 x5 x6 x7 x8 x9 x10 x11 x12 x13 x14 x15 x16 x17 x18 x19 x20 x21 x22 x23 x24 x25 : Option Sl} {r : Env} {st : S} (d : PD) : ePk 26 (x0 :: x1 :: x2 :: x3 :: x4 :: x5 :: x6 :: x7 :: x8 :: x9 :: x10 :: x11 :: x12 :: x13 :: x14 :: x15 :: x16 :: x17 :: x18 :: x19 :: x20 :: x21 :: x22 :: x23 :: x24 :: x25 :: some (.v d) :: r) st = .ok d st := rfl
@[simp] theorem ePo_26 {x0 x1 x2 x3 x4 x5 x6 x7 x8 x9 x10 x11 x12 x13 x14 x15 x16 x17 x18 x19 x20 x21 x22 x23 x24 x25 : Option Sl} {r : Env} {st : S} (d : List PD) : ePk 26 (x0 :: x1 :: x2 :: x3 :: x4 :: x5 :: x6 :: x7 :: x8 :: x9 :: x10 :: x11 :: x12 :: x13 :: x14 :: x15 :: x16 :: x17 :: x18 :: x19 :: x20 :: x21 :: x22 :: x23 :: x24 :: x25 :: some (.o d) :: r) st = .ok (.list d) st := rfl
@[simp] theorem eV_27 {x0 x1 x2 x3 x4 x5 x6 x7 x8 x9 x10 x11 x12 x13 x14 x15 x16 x17 x18 x19 x20 x21 x22 x23 x24 x25 x26 : Option Sl} {r : Env} {st : S} (d : PD) : eV 27 (x0 :: x1 :: x2 :: x3 :: x4 :: x5 :: x6 :: x7 :: x8 :: x9 :: x10 :: x11 :: x12 :: x13 :: x14 :: x15 :: x16 :: x17 :: x18 :: x19 :: x20 :: x21 :: x22 :: x23 :: x24 :: x25 :: x26 :: some (.v d) :: r) st = .ok d st := rfl
@[simp] theorem ePv_27 {x0 x1 x2 x3 x4 x5 x6 x7 x8 x9 x10 x11 x12 x13 x14 x15 x16 x17 x18 x19 x20 x21 x22 x23 x24 x25 x26 : Option Sl} {r : Env} {st : S} (d : PD) : ePk 27 (x0 :: x1 :: x2 :: x3 :: x4 :: x5 :: x6 :: x7 :: x8 :: x9 :: x10 :: x11 :: x12 :: x13 :: x14 :: x15 :: x16 :: x17 :: x18 :: x19 :: x20 :: x21 :: x22 :: x23 :: x24 :: x25 :: x26 :: some (.v d) :: r) st = .ok d st := rfl
@[simp] theorem ePo_27 {x0 x1 x2 x3 x4 x5 x6 x7 x8 x9 x10 x11 x12 x13 x14 x15 x16 x17 x18 x19 x20 x21 x22 x23 x24 x25 x26 : Option Sl} {r : Env} {st : S} (d : List PD) : ePk 27 (x0 :: x1 :: x2 :: x3 :: x4 :: x5 :: x6 :: x7 :: x8 :: x9 :: x10 :: x11 :: x12 :: x13 :: x14 :: x15 :: x16 :: x17 :: x18 :: x19 :: x20 :: x21 :: x22 :: x23 :: x24 :: x25 :: x26 :: some (.o d) :: r) st = .ok (.list d) st := rfl
@[simp] theorem eV_28 {x0 x1 x2 x3 x4 x5 x6 x7 x8 x9 x10 x11 x12 x13 x14 x15 x16 x17 x18 x19 x20 x21 x22 x23 x24 x25 x26 x27 : Option Sl} {r : Env} {st : S} (d : PD) : eV 28 (x0 :: x1 :: x2 :: x3 :: x4 :: x5 :: x6 :: x7 :: x8 :: x9 :: x10 :: x11 :: x12 :: x13 :: x14 :: x15 :: x16 :: x17 :: x18 :: x19 :: x20 :: x21 :: x22 :: x23 :: x24 :: x25 :: x26 :: x27 :: some (.v d) :: r) st = .ok d st := rfl
@[simp] theorem ePv_28 {x0 x1 x2 x3 x4 x5 x6 x7 x8 x9 x10 x11 x12 x13 x14 x15 x16 x17 x18 x19 x20 x21 x22 x23 x24 x25 x26 x27 : Option Sl} {r : Env} {st : S} (d : PD) : ePk 28 (x0 :: x1 :: x2 :: x3 :: x4 :: x5 :: x6 :: x7 :: x8 :: x9 :: x10 :: x11 :: x12 :: x13 :: x14 :: x15 :: x16 :: x17 :: x18 :: x19 :: x20 :: x21 :: x22 :: x23 :: x24 :: x25 :: x26 :: x27 :: some (.v d) :: r) st = .ok d st := rfl
@[simp] theorem ePo_28 {x0 x1 x2 x3 x4 x5 x6 x7 x8 x9 x10 x11 x12 x13 x14 x15 x16 x17 x18 x19 x20 x21 x22 x23 x24 x25 x26 x27 : Option Sl} {r : Env} {st : S} (d : List PD) : ePk 28 (x0 :: x1 :: x2 :: x3 :: x4 :: x5 :: x6 :: x7 :: x8 :: x9 :: x10 :: x11 :: x12 :: x13 :: x14 :: x15 :: x16 :: x17 :: x18 :: x19 :: x20 :: x21 :: x22 :: x23 :: x24 :: x25 :: x26 :: x27 :: some (.o d) :: r) st = .ok (.list d) st := rfl
@[simp] theorem eV_29 {x0 x1 x2 x3 x4 x5 x6 x7 x8 x9 x10 x11 x12 x13 x14 x15 x16 x17 x18 x19 x20 x21 x22 x23 x24 x25 x26 x27 x28 : Option Sl} {r : Env} {st : S} (d : PD) : eV 29 (x0 :: x1 :: x2 :: x3 :: x4 :: x5 :: x6 :: x7 :: x8 :: x9 :: x10 :: x11 :: x12 :: x13 :: x14 :: x15 :: x16 :: x17 :: x18 :: x19 :: x20 :: x21 :: x22 :: x23 :: x24 :: x25 :: x26 :: x27 :: x28 :: some (.v d) :: r) st = .ok d st := rfl
@[simp] theorem ePv_29 {x0 x1 x2 x3 x4 x5 x6 x7 x8 x9 x10 x11 x12 x13 x14 x15 x16 x17 x18 x19 x20 x21 x22 x23 x24 x25 x26 x27 x28 : Option Sl} {r : Env} {st : S} (d : PD) : ePk 29 (x0 :: x1 :: x2 :: x3 :: x4 :: x5 :: x6 :: x7 :: x8 :: x9 :: x10 :: x11 :: x12 :: x13 :: x14 :: x15 :: x16 :: x17 :: x18 :: x19 :: x20 :: x21 :: x22 :: x23 :: x24 :: x25 :: x26 :: x27 :: x28 :: some (.v d) :: r) st = .ok d st := rfl
@[simp] theorem ePo_29 {x0 x1 x2 x3 x4 x5 x6 x7 x8 x9 x10 x11 x12 x13 x14 x15 x16 x17 x18 x19 x20 x21 x22 x23 x24 x25 x26 x27 x28 : Option Sl} {r : Env} {st : S} (d : List PD) : ePk 29 (x0 :: x1 :: x2 :: x3 :: x4 :: x5 :: x6 :: x7 :: x8 :: x9 :: x10 :: x11 :: x12 :: x13 :: x14 :: x15 :: x16 :: x17 :: x18 :: x19 :: x20 :: x21 :: x22 :: x23 :: x24 :: x25 :: x26 :: x27 :: x28 :: some (.o d) :: r) st = .ok (.list d) st := rfl
@[simp] theorem eV_30 {x0 x1 x2 x3 x4 x5 x6 x7 x8 x9 x10 x11 x12 x13 x14 x15 x16 x17 x18 x19 x20 x21 x22 x23 x24 x25 x26 x27 x28 x29 : Option Sl} {r : Env} {st : S} (d : PD) : eV 30 (x0 :: x1 :: x2 :: x3 :: x4 :: x5 :: x6 :: x7 :: x8 :: x9 :: x10 :: x11 :: x12 :: x13 :: x14 :: x15 :: x16 :: x17 :: x18 :: x19 :: x20 :: x21 :: x22 :: x23 :: x24 :: x25 :: x26 :: x27 :: x28 :: x29 :: some (.v d) :: r) st = .ok d st := rfl
@[simp] theorem ePv_30 {x0 x1 x2 x3 x4 x5 x6 x7 x8 x9 x10 x11 x12 x13 x14 x15 x16 x17 x18 x19 x20 x21 x22 x23 x24 x25 x26 x27 x28 x29 : Option Sl} {r : Env} {st : S} (d : PD) : ePk 30 (x0 :: x1 :: x2 :: x3 :: x4 :: x5 :: x6 :: x7 :: x8 :: x9 :: x10 :: x11 :: x12 :: x13 :: x14 :: x15 :: x16 :: x17 :: x18 :: x19 :: x20 :: x21 :: x22 :: x23 :: x24 :: x25 :: x26 :: x27 :: x28 :: x29 :: some (.v d) :: r) st = .ok d st := rfl
@[simp] theorem ePo_30 {x0 x1 x2 x3 x4 x5 x6 x7 x8 x9 x10 x11 x12 x13 x14 x15 x16 x17 x18 x19 x20 x21 x22 x23 x24 x25 x26 x27 x28 x29 : Option Sl} {r : Env} {st : S} (d : List PD) : ePk 30 (x0 :: x1 :: x2 :: x3 :: x4 :: x5 :: x6 :: x7 :: x8 :: x9 :: x10 :: x11 :: x12 :: x13 :: x14 :: x15 :: x16 :: x17 :: x18 :: x19 :: x20 :: x21 :: x22 :: x23 :: x24 :: x25 :: x26 :: x27 :: x28 :: x29 :: some (.o d) :: r) st = .ok (.list d) st := rfl
@[simp] theorem eV_31 {x0 x1 x2 x3 x4 x5 x6 x7 x8 x9 x10 x11 x12 x13 x14 x15 x16 x17 x18 x19 x20 x21 x22 x23 x24 x25 x26 x27 x28 x29 x30 : Option Sl} {r : Env} {st : S} (d : PD) : eV 31 (x0 :: x1 :: x2 :: x3 :: x4 :: x5 :: x6 :: x7 :: x8 :: x9 :: x10 :: x11 :: x12 :: x13 :: x14 :: x15 :: x16 :: x17 :: x18 :: x19 :: x20 :: x21 :: x22 :: x23 :: x24 :: x25 :: x26 :: x27 :: x28 :: x29 :: x30 :: some (.v d) :: r) st = .ok d st := rfl
@[simp] theorem ePv_31 {x0 x1 x2 x3 x4 x5 x6 x7 x8 x9 x10 x11 x12 x13 x14 x15 x16 x17 x18 x19 x20 x21 x22 x23 x24 x25 x26 x27 x28 x29 x30 : Option Sl} {r : Env} {st : S} (d : PD) : ePk 31 (x0 :: x1 :: x2 :: x3 :: x4 :: x5 :: x6 :: x7 :: x8 :: x9 :: x10 :: x11 :: x12 :: x13 :: x14 :: x15 :: x16 :: x17 :: x18 :: x19 :: x20 :: x21 :: x22 :: x23 :: x24 :: x25 :: x26 :: x27 :: x28 :: x29 :: x30 :: some (.v d) :: r) st = .ok d st := rfl
@[simp] theorem ePo_31 {x0 x1 x2 x3 x4 x5 x6 x7 x8 x9 x10 x11 x12 x13 x14 x15 x16 x17 x18 x19 x20 x21 x22 x23 x24 x25 x26 x27 x28 x29 x30 : Option Sl} {r : Env} {st : S} (d : List PD) : ePk 31 (x0 :: x1 :: x2 :: x3 :: x4 :: x5 :: x6 :: x7 :: x8 :: x9 :: x10 :: x11 :: x12 :: x13 :: x14 :: x15 :: x16 :: x17 :: x18 :: x19 :: x20 :: x21 :: x22 :: x23 :: x24 :: x25 :: x26 :: x27 :: x28 :: x29 :: x30 :: some (.o d) :: r) st = .ok (.list d) st := rfl
section
variable {env env' : Env} {st st' s : S} {f g : MS} {c : Str} {d : PD}
theorem seq_nx (h : f env st = .ok (.nx env') st') : sSeq f g env st = g env' st' := by
  unfold sSeq; rw [h]
theorem seq_rt (h : f env st = .ok (.rt d) st') : sSeq f g env st = .ok (.rt d) st' := by
  unfold sSeq; rw [h]
theorem seq_ex (h : f env st = .ok (.ex c env') st') : sSeq f g env st = .ok (.ex c env') st' := by
  unfold sSeq; rw [h]
theorem if_T {c : Env → M Bool} (h : c env st = .ok true st') : sIf c f g env st = f env st' := by
  unfold sIf; rw [h]
theorem if_F {c : Env → M Bool} (h : c env st = .ok false st') : sIf c f g env st = g env st' := by
  unfold sIf; rw [h]
theorem set_ok {i : Nat} {f : Env → M PD} (h : f env st = .ok d s) : sSet i f env st = .ok (.nx (env.set i (some (.v d)))) s := by
  unfold sSet; rw [h]
theorem ret_ok {f : Env → M PD} (h : f env st = .ok d s) : sRet f env st = .ok (.rt d) s := by
  unfold sRet; rw [h]
end

/-! ### operators upon known kinds -/
section
variable {st : S}
@[simp] theorem opAdd_int (i j : Int) : opAdd st (.int i) (.int j) = some (.int (i + j)) := rfl
@[simp] theorem opAddA_int (i j : Int) : opAddA st (.int i) (.int j) = some (.int (i + j)) := rfl
@[simp] theorem opSub_int (i j : Int) : opSub st (.int i) (.int j) = some (.int (i - j)) := rfl
@[simp] theorem opNeg_int (i : Int) : opNeg st (.int i) = some (.int (-i)) := rfl
@[simp] theorem opCmp_int (g : Int → Int → Bool) (i j : Int) : opCmp g st (.int i) (.int j) = some (.bool (g i j)) := rfl
@[simp] theorem opAbs_int (i : Int) : opAbs st [.int i] = some (.int (i.natAbs : Int)) := rfl
@[simp] theorem opMin2_int (i j : Int) : opMin2 st [.int i, .int j] = some (.int (min i j)) := rfl
@[simp] theorem opMax2_int (i j : Int) : opMax2 st [.int i, .int j] = some (.int (max i j)) := rfl
@[simp] theorem opInt_int (i : Int) : opInt st [.int i] = some (.int i) := rfl
@[simp] theorem opInt_bool (k : Bool) : opInt st [.bool k] = some (.int (if k then 1 else 0)) := rfl
@[simp] theorem opLen_list (xs : List PD) : opLen st [.list xs] = some (.int xs.length) := rfl
@[simp] theorem opLen_tuple (xs : List PD) : opLen st [.tuple xs] = some (.int xs.length) := rfl
@[simp] theorem opTuple_list (xs : List PD) : opTuple st [.list xs] = some (.tuple xs) := rfl
@[simp] theorem opTuple_tuple (xs : List PD) : opTuple st [.tuple xs] = some (.tuple xs) := rfl
@[simp] theorem opList_list (xs : List PD) : opList st [.list xs] = some xs := rfl
@[simp] theorem opSum_list (xs : List PD) : opSum st [.list xs] = (allInts xs).map fun ns => .int ns.sum := rfl
@[simp] theorem opAll_list (xs : List PD) : opAll st [.list xs] = (allBools xs).map fun ns => .bool (ns.all id) := rfl
@[simp] theorem asBool_bool (b : Bool) : asBool (.bool b) = some b := rfl
@[simp] theorem asInt_int (b : Int) : asInt (.int b) = some b := rfl
@[simp] theorem itemsD_list (xs : List PD) : itemsD (.list xs) = some xs := rfl
@[simp] theorem itemsD_tuple (xs : List PD) : itemsD (.tuple xs) = some xs := rfl
@[simp] theorem itemsD_str (z : Str) : itemsD (.str z) = some (chars z) := rfl
@[simp] theorem isD_int (i : Int) : isD (.int i) = true := rfl
@[simp] theorem isD_bool (i : Bool) : isD (.bool i) = true := rfl
@[simp] theorem isD_str (i : Str) : isD (.str i) = true := rfl
@[simp] theorem isD_none : isD .none = true := rfl
@[simp] theorem isD_list (i : List PD) : isD (.list i) = true := rfl
@[simp] theorem isD_tuple (i : List PD) : isD (.tuple i) = true := rfl
@[simp] theorem opEq_int (i j : Int) : opEq st (.int i) (.int j) = some (.bool (decide (i = j))) := rfl
@[simp] theorem opNe_int (i j : Int) : opNe st (.int i) (.int j) = some (.bool (!decide (i = j))) := rfl
@[simp] theorem opIs_bool (neg a b : Bool) : opIs neg st (.bool a) (.bool b) = some (.bool (if neg then !decide (a = b) else decide (a = b))) := rfl
theorem opMod_int {i j : Int} (h : j ≠ 0) : opMod st (.int i) (.int j) = some (.int (i.fmod j)) := by unfold opMod; simp [h]
@[simp] theorem opMod_pos {i j : Int} (h : 0 < j) : opMod st (.int i) (.int j) = some (.int (i % j)) := by
  rw [opMod_int (by omega), Int.fmod_eq_emod_of_nonneg _ (by omega)]
theorem opDiv_int {i j : Int} (h : j ≠ 0) (h2 : j.natAbs < 1073741824) : opDiv st (.int i) (.int j) = some (.int (i.fdiv j)) := by unfold opDiv; simp [h, h2]
theorem opDiv_wide {i j : Int} (h : 0 < j) (h2 : j.natAbs.log2 < 9000) : opDiv st (.int i) (.int j) = some (.int (i / j)) := by
  have e : opDiv st (.int i) (.int j) = if j ≠ 0 ∧ (j.natAbs < 1073741824 ∨ (0 < j ∧ j.natAbs.log2 < 9000)) then some (.int (i.fdiv j)) else none := rfl
  rw [e, if_pos ⟨by omega, .inr ⟨h, h2⟩⟩, Int.fdiv_eq_ediv_of_nonneg _ (by omega)]
def mulOk (i j : Int) : Prop := i.natAbs.log2 + j.natAbs.log2 < 1000000
@[simp] theorem opMul_int {i j : Int} (h : mulOk i j) : opMul st (.int i) (.int j) = some (.int (i * j)) := by unfold opMul; simp only [if_pos (show i.natAbs.log2 + j.natAbs.log2 < 1000000 from h)]
theorem opIx_tuple {ds : List PD} {i : Nat} {d : PD} (h : ds[i]? = some d) : opIx st (.tuple ds) (.int (i : Int)) = some d := atI_nat h
theorem opIx_list {ds : List PD} {i : Nat} {d : PD} (h : ds[i]? = some d) : opIx st (.list ds) (.int (i : Int)) = some d := atI_nat h
@[simp] theorem opIx_t20 (a b : PD) : opIx st (.tuple [a, b]) (.int 0) = some a := rfl
@[simp] theorem opIx_t21 (a b : PD) : opIx st (.tuple [a, b]) (.int 1) = some b := rfl
@[simp] theorem opIx_t30 (a b c : PD) : opIx st (.tuple [a, b, c]) (.int 0) = some a := rfl
@[simp] theorem opIx_t31 (a b c : PD) : opIx st (.tuple [a, b, c]) (.int 1) = some b := rfl
@[simp] theorem opIx_t32 (a b c : PD) : opIx st (.tuple [a, b, c]) (.int 2) = some c := rfl
@[simp] theorem opIx_t40 (a b c d : PD) : opIx st (.tuple [a, b, c, d]) (.int 0) = some a := rfl
@[simp] theorem opIx_t41 (a b c d : PD) : opIx st (.tuple [a, b, c, d]) (.int 1) = some b := rfl
@[simp] theorem opIx_t42 (a b c d : PD) : opIx st (.tuple [a, b, c, d]) (.int 2) = some c := rfl
@[simp] theorem opIx_t43 (a b c d : PD) : opIx st (.tuple [a, b, c, d]) (.int 3) = some d := rfl
@[simp] theorem opIx_l20 (a b : PD) : opIx st (.list [a, b]) (.int 0) = some a := rfl
@[simp] theorem opIx_l21 (a b : PD) : opIx st (.list [a, b]) (.int 1) = some b := rfl
@[simp] theorem opIx_l30 (a b c : PD) : opIx st (.list [a, b, c]) (.int 0) = some a := rfl
@[simp] theorem opIx_l31 (a b c : PD) : opIx st (.list [a, b, c]) (.int 1) = some b := rfl
@[simp] theorem opIx_l32 (a b c : PD) : opIx st (.list [a, b, c]) (.int 2) = some c := rfl
@[simp] theorem opIx_st0 : opIx st STT (.int 0) = some (.list (st.cells.map .int)) := rfl
@[simp] theorem opIx_st1 : opIx st STT (.int 1) = some (.int st.pos) := rfl
@[simp] theorem opIx_st2 : opIx st STT (.int 2) = some (.int st.cell) := rfl
@[simp] theorem opIx_st3 : opIx st STT (.int 3) = some (.int st.left) := rfl
@[simp] theorem opIx_st4 : opIx st STT (.int 4) = some (.bool st.big) := rfl
end
theorem runFn_of {n N : Nat} {g : MS} {ds : List PD} {st s : S} {o : Out} (h : ds.length = n) (e : g (startE N ds) st = .ok o s) : runFn n N g ds st = R.ofRS (.ok o s) := by
  unfold runFn; rw [if_pos h, e]

/-! ### sizes of ints -/
def Bz (n : Nat) (i : Int) : Prop := i.natAbs < 2 ^ n
theorem Bz.mono {n m : Nat} {i : Int} (h : Bz n i) (l : n ≤ m) : Bz m i := Nat.lt_of_lt_of_le h (Nat.pow_le_pow_right (by decide) l)
theorem Bz.mul {n m : Nat} {i j : Int} (h : Bz n i) (h' : Bz m j) : Bz (n + m) (i * j) := by
  unfold Bz
  rw [Int.natAbs_mul, Nat.pow_add]
  exact Nat.mul_lt_mul'' h h'
theorem Bz.add {n m : Nat} {i j : Int} (h : Bz n i) (h' : Bz m j) : Bz (max n m + 1) (i + j) := by
  have a := h.mono (Nat.le_max_left n m)
  have b := h'.mono (Nat.le_max_right n m)
  unfold Bz at *
  rw [Nat.pow_succ]
  omega
theorem Bz.sub {n m : Nat} {i j : Int} (h : Bz n i) (h' : Bz m j) : Bz (max n m + 1) (i - j) := by
  have a := h.mono (Nat.le_max_left n m)
  have b := h'.mono (Nat.le_max_right n m)
  unfold Bz at *
  rw [Nat.pow_succ]
  omega
theorem Bz.neg {n : Nat} {i : Int} (h : Bz n i) : Bz n (-i) := by
  unfold Bz at *
  omega
theorem Bz.log {n : Nat} {i : Int} (h : Bz n i) : i.natAbs.log2 ≤ n := by
  unfold Bz at h
  by_cases z : i.natAbs = 0
  · rw [z]; simp
  · exact Nat.le_of_lt ((Nat.log2_lt z).mpr h)
theorem mulOk_bz {n m : Nat} {i j : Int} (h : Bz n i) (h' : Bz m j) (l : n + m < 1000000) : mulOk i j := by
  have := h.log
  have := h'.log
  unfold mulOk
  omega
theorem Bz.of {n : Nat} {i : Int} (h1 : -(2 ^ n : Int) < i) (h2 : i < (2 ^ n : Int)) : Bz n i := by
  unfold Bz
  have : (i.natAbs : Int) < ((2 ^ n : Nat) : Int) := by push_cast; omega
  exact_mod_cast this
theorem Bz.le {n : Nat} {i j : Int} (h : Bz n j) (h2 : i.natAbs ≤ j.natAbs) : Bz n i := Nat.lt_of_le_of_lt h2 h
end DL
/-! DL9: the law's draws. -/
namespace DL
open PySem PySem.Spec PyProof.Rows L2
structure Good (st : S) : Prop where
  pos : 0 ≤ st.pos
  cell : st.big = false → 0 ≤ st.cell ∧ st.cell < 1000000000000000000
  left : 0 ≤ st.left ∧ st.left ≤ 60
theorem good0 (ns : List Int) : Good ⟨ns, 0, 0, 0, false⟩ := ⟨Int.le_refl 0, fun _ => ⟨Int.le_refl 0, (by decide : (0 : Int) < 1000000000000000000)⟩, ⟨Int.le_refl 0, (by decide : (0 : Int) ≤ 60)⟩⟩
def drA : MS := sIf (tV (e2 opEq (e2 opIx (eV 0) (eC (.int 3))) (eC (.int 0)))) (sSeq (sIf (tV (e2 opGe (e2 opIx (eV 0) (eC (.int 1))) (eB opLen (aCons (e2 opIx (eV 0) (eC (.int 0))) aNil)))) (sRet (eC (.int 0))) sSkip)
  (sSeq (sSet 2 (e2 opIx (e2 opIx (eV 0) (eC (.int 0))) (e2 opIx (eV 0) (eC (.int 1)))))
  (sSeq (sIf (tV (e2 opLt (eV 2) (eC (.int 0)))) (sSet 2 (e2 opSub (e1 opNeg (eC (.int 1))) (eV 2))) sSkip)
  (sSeq (sSt 0 1 (e2 opAdd (e2 opIx (eV 0) (eC (.int 1))) (eC (.int 1))))
  (sSeq (sSt 0 2 (eV 2))
  (sSeq (sSt 0 4 (e2 opGe (eV 2) (e2 opPow (eC (.int 10)) (eC (.int 18)))))
  (sSeq (sSt 0 3 (eC (.int 6)))
  (sIf (tV (e2 opIx (eV 0) (eC (.int 4)))) (sSt 0 3 (eC (.int 60))) sSkip)))))))) sSkip
def drB : MS := (sSeq (sSt 0 3 (e2 opSub (e2 opIx (eV 0) (eC (.int 3))) (eC (.int 1))))
  (sSeq (sIf (tV (e2 opIx (eV 0) (eC (.int 4)))) (sSeq (sSet 3 (e2 opMod (eB opInt (aCons (e2 opIx (eV 0) (eC (.int 2))) aNil)) (eV 1)))
  (sSeq (sSt 0 2 (e2 opDiv (e2 opIx (eV 0) (eC (.int 2))) (eV 1)))
  (sSeq (sIf (tV (e2 opEq (e2 opIx (eV 0) (eC (.int 2))) (eC (.int 0)))) (sSt 0 3 (eC (.int 0))) sSkip)
  (sRet (eV 3))))) sSkip)
  (sSeq (sSet 4 (e2 opMod (eB opInt (aCons (e2 opAdd (e2 opAdd (e2 opMul (e2 opIx (eV 0) (eC (.int 2))) (eC (.int 48271))) (e2 opMul (e2 opIx (eV 0) (eC (.int 3))) (eC (.int 69621)))) (eC (.int 7))) aNil)) (eC (.int 2147483647))))
  (sSeq (sSet 4 (e2 opMod (eB opInt (aCons (e2 opAdd (e2 opAdd (e2 opMul (eV 4) (eV 4)) (e2 opMul (e2 opIx (eV 0) (eC (.int 2))) (eC (.int 31)))) (e2 opIx (eV 0) (eC (.int 3)))) aNil)) (eC (.int 1000003))))
  (sRet (e2 opMod (eB opInt (aCons (eV 4) aNil)) (eV 1)))))))
theorem drA_ok (st : S) (h : Good st) (lim : Int) : drA [some (.v STT), some (.v (.int lim)), none, none, none] st = .ok (.rt (.int 0)) st ∨
    ∃ c2 st1, drA [some (.v STT), some (.v (.int lim)), none, none, none] st = .ok (.nx [some (.v STT), some (.v (.int lim)), c2, none, none]) st1 ∧ Good st1 ∧ 1 ≤ st1.left := by
  have hp := h.pos
  have hpow : ∀ s : S, opPow s (.int 10) (.int 18) = some (.int (10 ^ 18)) := fun s => rfl
  by_cases h0 : st.left = 0
  · by_cases h1 : (st.cells.length : Int) ≤ st.pos
    · left
      simp [drA, h0, h1]
    · right
      obtain ⟨k, hk⟩ : ∃ k : Nat, st.pos = (k : Int) := ⟨st.pos.toNat, by omega⟩
      have hlt : k < st.cells.length := by omega
      have e1 : opIx st (.list (st.cells.map .int)) (.int (k : Int)) = some (.int st.cells[k]) := opIx_list (by rw [List.getElem?_map, List.getElem?_eq_getElem hlt]; rfl)
      have h1' : ¬ (st.cells.length : Int) ≤ (k : Int) := by omega
      by_cases hn : st.cells[k] < 0
      · by_cases hb : (1000000000000000000 : Int) ≤ -1 - st.cells[k]
        · refine ⟨some (.v (.int (-1 - st.cells[k]))), { st with pos := k + 1, cell := -1 - st.cells[k], big := true, left := 60 }, ?_, ⟨by show (0 : Int) ≤ k + 1; omega, fun z => (nomatch z), ⟨by show (0 : Int) ≤ 60; decide, by show (60 : Int) ≤ 60; decide⟩⟩, by show (1 : Int) ≤ 60; decide⟩
          simp [drA, h0, hk, h1', e1, hn, hpow, hb]
        · refine ⟨some (.v (.int (-1 - st.cells[k]))), { st with pos := k + 1, cell := -1 - st.cells[k], big := false, left := 6 }, ?_, ⟨by show (0 : Int) ≤ k + 1; omega, fun _ => ⟨by show 0 ≤ -1 - st.cells[k]; omega, by show -1 - st.cells[k] < 1000000000000000000; omega⟩, ⟨by show (0 : Int) ≤ 6; decide, by show (6 : Int) ≤ 60; decide⟩⟩, by show (1 : Int) ≤ 6; decide⟩
          simp [drA, h0, hk, h1', e1, hn, hpow, hb]
      · by_cases hb : (1000000000000000000 : Int) ≤ st.cells[k]
        · refine ⟨some (.v (.int (st.cells[k]))), { st with pos := k + 1, cell := st.cells[k], big := true, left := 60 }, ?_, ⟨by show (0 : Int) ≤ k + 1; omega, fun z => (nomatch z), ⟨by show (0 : Int) ≤ 60; decide, by show (60 : Int) ≤ 60; decide⟩⟩, by show (1 : Int) ≤ 60; decide⟩
          simp [drA, h0, hk, h1', e1, hn, hpow, hb]
        · refine ⟨some (.v (.int (st.cells[k]))), { st with pos := k + 1, cell := st.cells[k], big := false, left := 6 }, ?_, ⟨by show (0 : Int) ≤ k + 1; omega, fun _ => ⟨by show 0 ≤ st.cells[k]; omega, by show st.cells[k] < 1000000000000000000; omega⟩, ⟨by show (0 : Int) ≤ 6; decide, by show (6 : Int) ≤ 60; decide⟩⟩, by show (1 : Int) ≤ 6; decide⟩
          simp [drA, h0, hk, h1', e1, hn, hpow, hb]
  · right
    exact ⟨none, st, by simp [drA, h0], h, by have := h.left; omega⟩
theorem drB_ok (st : S) (h : Good st) (hl : 1 ≤ st.left) (lim : Int) (h1 : 1 ≤ lim) (h2 : lim < 1073741824) (c2 : Option Sl) : ∃ r st', drB [some (.v STT), some (.v (.int lim)), c2, none, none] st = .ok (.rt (.int r)) st' ∧ 0 ≤ r ∧ r < lim ∧ Good st' := by
  have hL := h.left
  have hp := h.pos
  have l0 : lim ≠ 0 := by omega
  have l1 : lim.natAbs < 1073741824 := by omega
  have hlim : (0 : Int) < lim := by omega
  cases hb : st.big with
  | true =>
    by_cases hz : st.cell.fdiv lim = 0
    · refine ⟨st.cell % lim, { st with left := 0, cell := 0 }, ?_, Int.emod_nonneg _ l0, Int.emod_lt_of_pos _ hlim, ⟨hp, fun z => (by have z' : st.big = false := z; rw [hb] at z'; cases z'), ⟨by show (0 : Int) ≤ 0; decide, by show (0 : Int) ≤ 60; decide⟩⟩⟩
      simp [drB, hb, hz, opDiv_int l0 l1, hlim]
    · refine ⟨st.cell % lim, { st with left := st.left - 1, cell := st.cell.fdiv lim }, ?_, Int.emod_nonneg _ l0, Int.emod_lt_of_pos _ hlim, ⟨hp, fun z => (by have z' : st.big = false := z; rw [hb] at z'; cases z'), ⟨by show 0 ≤ st.left - 1; omega, by show st.left - 1 ≤ 60; omega⟩⟩⟩
      simp [drB, hb, hz, opDiv_int l0 l1, hlim]
  | false =>
    obtain ⟨c0, c1⟩ := h.cell hb
    have m1 : mulOk st.cell 48271 := mulOk_bz (n := 60) (m := 16) (Bz.of (by omega) (by omega)) (Bz.of (by decide) (by decide)) (by decide)
    have m2 : mulOk (st.left - 1) 69621 := mulOk_bz (n := 7) (m := 17) (Bz.of (by omega) (by omega)) (Bz.of (by decide) (by decide)) (by decide)
    have m4 : mulOk st.cell 31 := mulOk_bz (n := 60) (m := 16) (Bz.of (by omega) (by omega)) (Bz.of (by decide) (by decide)) (by decide)
    let a := (st.cell * 48271 + (st.left - 1) * 69621 + 7) % 2147483647
    have a0 : 0 ≤ a := Int.emod_nonneg _ (by decide)
    have a1 : a < 2147483647 := Int.emod_lt_of_pos _ (by decide)
    have m3 : mulOk a a := mulOk_bz (n := 32) (m := 32) (Bz.of (by omega) (by omega)) (Bz.of (by omega) (by omega)) (by decide)
    refine ⟨((a * a + st.cell * 31 + (st.left - 1)) % 1000003) % lim, { st with left := st.left - 1 }, ?_, Int.emod_nonneg _ l0, Int.emod_lt_of_pos _ hlim, ⟨hp, fun _ => ⟨c0, c1⟩, by show 0 ≤ st.left - 1; omega, by show st.left - 1 ≤ 60; omega⟩⟩
    simp [drB, hb, m1, m2, hlim]
    rw [opMul_int (show mulOk ((st.cell * 48271 + (st.left - 1) * 69621 + 7) % 2147483647) ((st.cell * 48271 + (st.left - 1) * 69621 + 7) % 2147483647) from m3)]
    simp [m4, hlim, a]
def drawM : List PD → M PD := runFn 2 5 (sSeq drA drB)
theorem draw_ok {st : S} (h : Good st) {lim : Int} (h1 : 1 ≤ lim) (h2 : lim < 1073741824) : ∃ r st', drawM [STT, .int lim] st = .ok (.int r) st' ∧ 0 ≤ r ∧ r < lim ∧ Good st' := by
  rcases drA_ok st h lim with e | ⟨c2, st1, e, g1, l1⟩
  · refine ⟨0, st, ?_, by decide, by omega, h⟩
    exact runFn_of rfl (seq_rt e)
  · obtain ⟨r, st', e2, r0, r1, g2⟩ := drB_ok st1 g1 l1 lim h1 h2 c2
    refine ⟨r, st', ?_, r0, r1, g2⟩
    refine runFn_of (o := .rt (.int r)) rfl ?_
    rw [show startE 5 [STT, .int lim] = [some (.v STT), some (.v (.int lim)), none, none, none] from rfl, seq_nx e]
    exact e2
end DL
/-! DL10: equality upon known kinds, comprehensions and loops as plain lists. -/
namespace DL
open PySem PySem.Spec PyProof.Rows L2
@[simp] theorem shp_int (i : Int) : SeqAt.shaped (.int i) = true := rfl
theorem opEq_sh {st : S} {d e : PD} (h : SeqAt.shaped d = true) (h' : SeqAt.shaped e = true) : opEq st d e = some (.bool (PyData.eqv d e)) := if_pos ⟨h, h'⟩
theorem opNe_sh {st : S} {d e : PD} (h : SeqAt.shaped d = true) (h' : SeqAt.shaped e = true) : opNe st d e = some (.bool (!PyData.eqv d e)) := if_pos ⟨h, h'⟩
theorem eqv_int (a b : Int) : PyData.eqv (.int a) (.int b) = decide (a = b) := by
  simp [PyData.eqv]; rfl
theorem eqv_tup (a b : List PD) : PyData.eqv (.tuple a) (.tuple b) = PyData.eqvAll a b := by simp [PyData.eqv]
theorem eqv_lst (a b : List PD) : PyData.eqv (.list a) (.list b) = PyData.eqvAll a b := by simp [PyData.eqv]
theorem eqv_str (a b : Str) : PyData.eqv (.str a) (.str b) = decide (a = b) := by simp [PyData.eqv]; rfl
theorem eqvAll_nil : PyData.eqvAll [] [] = true := by simp [PyData.eqvAll]
theorem eqvAll_cons (a b : PD) (as bs : List PD) : PyData.eqvAll (a :: as) (b :: bs) = (PyData.eqv a b && PyData.eqvAll as bs) := by simp [PyData.eqvAll]
def pr (p : Int × Int) : PD := .tuple [.int p.1, .int p.2]
theorem shp_t2 (a b : Int) : SeqAt.shaped (.tuple [.int a, .int b]) = true := rfl
theorem shp_t22 (a b c d : Int) : SeqAt.shaped (.tuple [.tuple [.int a, .int b], .tuple [.int c, .int d]]) = true := rfl
@[simp] theorem opEq_t2 {st : S} (a b c d : Int) : opEq st (.tuple [.int a, .int b]) (.tuple [.int c, .int d]) = some (.bool (decide (a = c) && decide (b = d))) := by
  rw [opEq_sh (shp_t2 ..) (shp_t2 ..)]; simp [eqv_tup, eqvAll_cons, eqvAll_nil, eqv_int]
@[simp] theorem opNe_t2 {st : S} (a b c d : Int) : opNe st (.tuple [.int a, .int b]) (.tuple [.int c, .int d]) = some (.bool (!(decide (a = c) && decide (b = d)))) := by
  rw [opNe_sh (shp_t2 ..) (shp_t2 ..)]; simp [eqv_tup, eqvAll_cons, eqvAll_nil, eqv_int]
theorem opNe_t22 {st : S} (a b c d : Int) : opNe st (.tuple [.tuple [.int a, .int b], .tuple [.int c, .int d]]) (.tuple [.tuple [.int a, .int b], .tuple [.int c, .int d]]) = some (.bool false) := by
  rw [opNe_sh (shp_t22 ..) (shp_t22 ..)]; simp [eqv_tup, eqvAll_cons, eqvAll_nil, eqv_int]
theorem opEq_str {st : S} {x y : Str} (h : PyData.strOk x = true) (h' : PyData.strOk y = true) : opEq st (.str x) (.str y) = some (.bool (decide (x = y))) := by
  rw [opEq_sh (show SeqAt.shaped (.str x) = true by simp [SeqAt.shaped, PyData.canLay0, PyData.depth, h]) (show SeqAt.shaped (.str y) = true by simp [SeqAt.shaped, PyData.canLay0, PyData.depth, h']), eqv_str]
theorem opNe_str {st : S} {x y : Str} (h : PyData.strOk x = true) (h' : PyData.strOk y = true) : opNe st (.str x) (.str y) = some (.bool (!decide (x = y))) := by
  rw [opNe_sh (show SeqAt.shaped (.str x) = true by simp [SeqAt.shaped, PyData.canLay0, PyData.depth, h]) (show SeqAt.shaped (.str y) = true by simp [SeqAt.shaped, PyData.canLay0, PyData.depth, h']), eqv_str]
theorem clay_prs : ∀ l : List (Int × Int), PyData.canLayAll0 (l.map pr) = true
  | [] => by simp [PyData.canLayAll0]
  | p :: l => by
    rw [List.map_cons, PyData.canLayAll0, clay_prs l]; rfl
theorem dep_prs : ∀ l : List (Int × Int), PyData.depthAll (l.map pr) ≤ 1
  | [] => by simp [PyData.depthAll]
  | p :: l => by
    rw [List.map_cons, PyData.depthAll]
    exact Nat.max_le.mpr ⟨(by decide : (1 : Nat) ≤ 1), dep_prs l⟩
theorem shp_prs (l : List (Int × Int)) : SeqAt.shaped (.list (l.map pr)) = true := by
  have h1 := clay_prs l
  have h2 := dep_prs l
  unfold SeqAt.shaped
  rw [PyData.canLay0, h1, PyData.depth]
  simp; omega
theorem eqv_pr (p q : Int × Int) : PyData.eqv (pr p) (pr q) = decide (p = q) := by
  obtain ⟨a, b⟩ := p
  obtain ⟨c, d⟩ := q
  simp [pr, eqv_tup, eqvAll_cons, eqvAll_nil, eqv_int]
theorem eqv_prs : ∀ l l' : List (Int × Int), PyData.eqvAll (l.map pr) (l'.map pr) = decide (l = l')
  | [], [] => by simp [PyData.eqvAll]
  | [], q :: l' => by simp [PyData.eqvAll]
  | p :: l, [] => by simp [PyData.eqvAll]
  | p :: l, q :: l' => by
    rw [List.map_cons, List.map_cons, eqvAll_cons, eqv_pr, eqv_prs l l']
    simp
theorem opEq_prs {st : S} (l l' : List (Int × Int)) : opEq st (.list (l.map pr)) (.list (l'.map pr)) = some (.bool (decide (l = l'))) := by
  rw [opEq_sh (shp_prs l) (shp_prs l'), eqv_lst, eqv_prs]
theorem opNe_prs {st : S} (l l' : List (Int × Int)) : opNe st (.list (l.map pr)) (.list (l'.map pr)) = some (.bool (!decide (l = l'))) := by
  rw [opNe_sh (shp_prs l) (shp_prs l'), eqv_lst, eqv_prs]
theorem any_pr (l : List (Int × Int)) (p : Int × Int) : ((l.map pr).any fun z => PyData.eqv z (pr p)) = l.contains p := by
  induction l with
  | nil => rfl
  | cons q l ih =>
    rw [List.map_cons, List.any_cons, ih, eqv_pr, List.contains_cons]
    congr 1
    by_cases h : q = p
    · simp [h]
    · have h2 : ¬ p = q := fun e => h e.symm
      simp [h, h2]
theorem opIn_prs {st : S} (neg : Bool) (l : List (Int × Int)) (p : Int × Int) : opIn neg st (pr p) (.list (l.map pr)) = some (.bool (if neg then !l.contains p else l.contains p)) := by
  show (if SeqAt.shaped (pr p) = true ∧ SeqAt.shaped (.list (l.map pr)) = true then some (PyData.bool (if neg then !(l.map pr).any fun z => PyData.eqv z (pr p) else (l.map pr).any fun z => PyData.eqv z (pr p))) else none) = _
  rw [if_pos ⟨rfl, shp_prs l⟩, any_pr]
section
variable {env : Env} {st : S}
def augD (i : Nat) (env : Env) (o : Option PD) (s : S) : RS := match o with
  | some z => .ok (.nx (env.set i (some (.v z)))) s
  | none => .bad
def augC (i : Nat) (op : S → PD → PD → Option PD) (d : PD) (env : Env) (r : R PD) : RS := RS.of env r fun e s => augD i env (op s d e) s
def augS (i : Nat) (op : S → PD → PD → Option PD) (f : Env → M PD) (o : Option (Option Sl)) (env : Env) (st : S) : RS := match o with
  | some (some (.v d)) => augC i op d env (f env st)
  | _ => .bad
theorem sAug_ap (i : Nat) (op : S → PD → PD → Option PD) (f : Env → M PD) : sAug i op f env st = augS i op f env[i]? env st := rfl
theorem sAug_at {i : Nat} {op : S → PD → PD → Option PD} {f : Env → M PD} {d : PD} (h : env[i]? = some (some (.v d))) : sAug i op f env st = augC i op d env (f env st) := by
  rw [sAug_ap, h]; rfl
@[simp] theorem sAug_0 (op : S → PD → PD → Option PD) (f : Env → M PD) (d : PD) (r : Env) : sAug 0 op f (some (.v d) :: r) st = augC 0 op d (some (.v d) :: r) (f (some (.v d) :: r) st) := rfl
@[simp] theorem sAug_1 (op : S → PD → PD → Option PD) (f : Env → M PD) (d : PD) (a : Option Sl) (r : Env) : sAug 1 op f (a :: some (.v d) :: r) st = augC 1 op d (a :: some (.v d) :: r) (f (a :: some (.v d) :: r) st) := rfl
@[simp] theorem sAug_2 (op : S → PD → PD → Option PD) (f : Env → M PD) (d : PD) (a b : Option Sl) (r : Env) : sAug 2 op f (a :: b :: some (.v d) :: r) st = augC 2 op d (a :: b :: some (.v d) :: r) (f (a :: b :: some (.v d) :: r) st) := rfl
@[simp] theorem sAug_3 (op : S → PD → PD → Option PD) (f : Env → M PD) (d : PD) (a b c : Option Sl) (r : Env) : sAug 3 op f (a :: b :: c :: some (.v d) :: r) st = augC 3 op d (a :: b :: c :: some (.v d) :: r) (f (a :: b :: c :: some (.v d) :: r) st) := rfl
@[simp] theorem sAug_4 (op : S → PD → PD → Option PD) (f : Env → M PD) (d : PD) (a b c e : Option Sl) (r : Env) : sAug 4 op f (a :: b :: c :: e :: some (.v d) :: r) st = augC 4 op d (a :: b :: c :: e :: some (.v d) :: r) (f (a :: b :: c :: e :: some (.v d) :: r) st) := rfl
@[simp] theorem augC_ok (i : Nat) (op : S → PD → PD → Option PD) (d e : PD) : augC i op d env (.ok e st) = augD i env (op st d e) st := rfl
@[simp] theorem augD_some (i : Nat) (z : PD) : augD i env (some z) st = .ok (.nx (env.set i (some (.v z)))) st := rfl
def appA (i : Nat) (xs : List PD) (env : Env) (r : R PD) : RS := RS.of env r fun d s => if isD d = true ∧ xs.length ≤ 10000000 then .ok (.nx (env.set i (some (.o (xs ++ [d]))))) s else .bad
theorem sApp_at {i : Nat} {f : Env → M PD} {xs : List PD} (h : env[i]? = some (some (.o xs))) : sApp i f env st = appA i xs env (f env st) := by
  unfold sApp; rw [h]; rfl
theorem appA_ok {i : Nat} {xs : List PD} {d : PD} (h : isD d = true) (h' : xs.length ≤ 10000000) : appA i xs env (.ok d st) = .ok (.nx (env.set i (some (.o (xs ++ [d]))))) st := if_pos ⟨h, h'⟩
def extA (i : Nat) (xs : List PD) (env : Env) (r : R PD) : RS := RS.of env r fun d s => match d with
    | .list ys => if xs.length + ys.length ≤ 10000000 then .ok (.nx (env.set i (some (.o (xs ++ ys))))) s else .bad
    | _ => .bad
theorem sExt_at {i : Nat} {f : Env → M PD} {xs : List PD} (h : env[i]? = some (some (.o xs))) : sExt i f env st = extA i xs env (f env st) := by
  unfold sExt; rw [h]; rfl
theorem extA_ok {i : Nat} {xs ys : List PD} (h' : xs.length + ys.length ≤ 10000000) : extA i xs env (.ok (.list ys) st) = .ok (.nx (env.set i (some (.o (xs ++ ys))))) st := if_pos h'
theorem sFrz_at {i : Nat} {g : MS} {xs : List PD} (h : env[i]? = some (some (.o xs))) : sFrz i g env st = g (env.set i (some (.v (.list xs)))) st := by
  unfold sFrz; rw [h]
end
/-! comprehensions -/
theorem compGo_lst {β : Type} {env : Env} {tg : PD → Env → Option Env} {tf : Env → M Bool} {ef : Env → M PD} {st : S} {h g : β → PD} {p : β → Bool} : ∀ l : List β,
    (∀ x ∈ l, ∃ env2, tg (h x) env = some env2 ∧ tf env2 st = .ok (p x) st ∧ (p x = true → ef env2 st = .ok (g x) st ∧ isD (g x) = true)) → compGo env tg tf ef (l.map h) st = .ok ((l.filter p).map g) st
  | [], _ => rfl
  | x :: l, hy => by
    obtain ⟨env2, e1, e2, e3⟩ := hy x (List.mem_cons_self ..)
    have ih := compGo_lst (env := env) (tg := tg) (tf := tf) (ef := ef) (st := st) (h := h) (g := g) (p := p) l (fun y m => hy y (List.mem_cons_of_mem _ m))
    rw [List.map_cons]
    unfold compGo
    rw [e1]
    show ((tf env2 st).noex.bind _) = _
    rw [e2]
    cases q : p x with
    | false =>
      rw [List.filter_cons_of_neg (by simp [q])]
      exact ih
    | true =>
      rw [List.filter_cons_of_pos (by simp [q])]
      obtain ⟨e4, e5⟩ := e3 q
      show ((ef env2 st).noex.bind _) = _
      rw [e4]
      show (if isD (g x) = true then _ else _) = _
      rw [if_pos e5, ih]
      rfl
theorem compGo_all {β : Type} {env : Env} {tg : PD → Env → Option Env} {ef : Env → M PD} {st : S} {h g : β → PD} (l : List β)
    (hy : ∀ x ∈ l, ∃ env2, tg (h x) env = some env2 ∧ ef env2 st = .ok (g x) st ∧ isD (g x) = true) : compGo env tg tYesF ef (l.map h) st = .ok (l.map g) st := by
  have := compGo_lst (env := env) (tg := tg) (tf := tYesF) (ef := ef) (st := st) (h := h) (g := g) (p := fun _ => true) l (fun x m => by
    obtain ⟨env2, e1, e2, e3⟩ := hy x m
    exact ⟨env2, e1, rfl, fun _ => ⟨e2, e3⟩⟩)
  rw [this, List.filter_eq_self.mpr (fun _ _ => rfl)]
/-! for: an invariant by places -/
theorem forGo_ind {tg : PD → Env → Option Env} {b : MS} (I : Nat → Env → S → Prop) : ∀ (l : List PD) (k : Nat) (env : Env) (st : S),
    (∀ i d env st, l[i]? = some d → I (k + i) env st → ∃ env1 env2 st2, tg d env = some env1 ∧ b env1 st = .ok (.nx env2) st2 ∧ I (k + i + 1) env2 st2) → I k env st → ∃ env' st', forGo tg b l env st = .ok (.nx env') st' ∧ I (k + l.length) env' st'
  | [], k, env, st, _, h => ⟨env, st, rfl, h⟩
  | d :: l, k, env, st, hs, h => by
    obtain ⟨env1, env2, st2, e1, e2, e3⟩ := hs 0 d env st rfl h
    obtain ⟨env', st', e4, e5⟩ := forGo_ind I l (k + 1) env2 st2 (fun i d' en s q r => by
      have := hs (i + 1) d' en s (by simpa using q) (by rw [show k + (i + 1) = k + 1 + i from by omega]; exact r)
      rw [show k + (i + 1) + 1 = k + 1 + i + 1 from by omega] at this
      exact this) e3
    refine ⟨env', st', ?_, by rw [List.length_cons, show k + (l.length + 1) = k + 1 + l.length from by omega]; exact e5⟩
    unfold forGo
    rw [e1]
    dsimp only
    rw [e2]
    exact e4
theorem forGo_cons {tg : PD → Env → Option Env} {b : MS} {d : PD} {l : List PD} {env env1 env2 : Env} {st st2 : S} (e1 : tg d env = some env1) (e2 : b env1 st = .ok (.nx env2) st2) : forGo tg b (d :: l) env st = forGo tg b l env2 st2 := by
  conv => lhs; unfold forGo
  rw [e1]
  dsimp only
  rw [e2]
theorem rng1D_nat (n : Nat) (h : n < 2 ^ 62) : rng1D [.int (n : Int)] = some (rangeL 0 1 n) := by
  show (if rngOk (n : Int) = true then some (rangeL 0 1 (n : Int).toNat) else none) = _
  rw [if_pos (by unfold rngOk; simp; omega), Int.toNat_natCast]
theorem rng2D_ok (i j : Int) (h : rngOk i = true) (h' : rngOk j = true) : rng2D [.int i, .int j] = some (rangeL i 1 (j - i).toNat) := if_pos (by rw [h, h']; rfl)
theorem iRng_of {g : List PD → Option (List PD)} {f : Env → M (List PD)} {env : Env} {st st' : S} {ds es : List PD} (h : f env st = .ok ds st') (hg : g ds = some es) : iRng g f env st = .ok es st' := by
  unfold iRng
  rw [h]
  show R.ofO (g ds) st' = _
  rw [hg]
  rfl
theorem sFor_of {itf : Env → M (List PD)} {tg : PD → Env → Option Env} {b : MS} {env : Env} {st st' : S} {ds : List PD} (h : itf env st = .ok ds st') : sFor itf tg b env st = forGo tg b ds env st' := by
  unfold sFor
  rw [h]
theorem nComp_of {itf : Env → M (List PD)} {tg : PD → Env → Option Env} {tf : Env → M Bool} {ef : Env → M PD} {vs : List Nat} {env : Env} {st st' : S} {ds : List PD} {r : R (List PD)} (h : itf env st = .ok ds st') (hl : ds.length ≤ 10000000) (h2 : compGo (wipeE env vs) tg tf ef ds st' = r) : nComp itf tg tf ef vs env st = r := by
  rw [nComp_ap, h, nCa_ok hl, h2]
theorem sNew_of {i : Nat} {f : Env → M (List PD)} {env : Env} {st st' : S} {xs : List PD} (h : f env st = .ok xs st') : sNew i f env st = .ok (.nx (env.set i (some (.o xs)))) st' := by
  rw [sNew_ap, h, newA_ok]
theorem eL_of {f : Env → M (List PD)} {env : Env} {st st' : S} {xs : List PD} (h : f env st = .ok xs st') : eL f env st = .ok (.list xs) st' := by
  rw [eL_ap, h, eLa_ok]
theorem rng3D_down (n k : Nat) (h : k ≤ n) (hn : n ≤ 10000) : rng3D [.int n, .int k, .int (-1)] = some (rangeL n (-1) (n - k)) := by
  have e : Builtin.Range.rangeSize (n : Int) (k : Int) (-1) = ((n - k : Nat) : Int) := by
    unfold Builtin.Range.rangeSize
    rw [if_neg (by decide)]
    by_cases z : (n : Int) > (k : Int)
    · rw [if_pos z]
      have : (-(-1) : Int) = 1 := by decide
      rw [this, Int.ediv_one]
      omega
    · rw [if_neg z]; omega
  show (if (-1 : Int) ≠ 0 ∧ (-1 : Int).natAbs < 1073741824 ∧ Builtin.Range.small (n : Int) (k : Int) (-1) = true ∧ 0 ≤ Builtin.Range.rangeSize (n : Int) (k : Int) (-1) then some (rangeL (n : Int) (-1) (Builtin.Range.rangeSize (n : Int) (k : Int) (-1)).toNat) else none) = _
  rw [if_pos ?_, e, Int.toNat_natCast]
  refine ⟨by decide, by decide, ?_, by rw [e]; omega⟩
  unfold Builtin.Range.small
  rw [e]
  simp [Builtin.Range.rangeFitsLong]
  omega
theorem rangeL_map {lo c : Int} {n : Nat} {h : Nat → PD} (e : ∀ i, i < n → PyData.int (lo + (i : Int) * c) = h i) : rangeL lo c n = (List.range n).map h := by
  unfold rangeL
  exact List.map_congr_left fun i m => e i (List.mem_range.mp m)
theorem rngOk_small {i : Int} (h : -1000000 ≤ i) (h' : i ≤ 1000000) : rngOk i = true := by
  unfold rngOk
  have e : (2 : Int) ^ 62 = 4611686018427387904 := by decide
  rw [e]
  simp; omega
end DL
/-! DL11: sorted pairs, joined texts, a display of words looked up. -/
namespace DL
open PySem PySem.Spec PyProof.Rows L2
/-! ### sorted(xs), xs pairs of small ints -/
def allPairs : List PD → Option (List (Int × Int))
  | [] => some []
  | .tuple [.int a, .int b] :: r => (allPairs r).map fun l => (a, b) :: l
  | _ :: _ => none
theorem allPairs_eq : ∀ {xs : List PD} {ns : List (Int × Int)}, allPairs xs = some ns → xs = ns.map pr
  | [], ns, h => by cases h; rfl
  | d :: r, ns, h => by
    unfold allPairs at h
    split at h
    · rename_i h0; cases h0
    · rename_i a b r' h0
      cases h0
      cases e : allPairs r with
      | none => rw [e] at h; cases h
      | some l =>
        rw [e] at h
        cases h
        rw [allPairs_eq e]
        rfl
    · cases h
theorem allPairs_map : ∀ l : List (Int × Int), allPairs (l.map pr) = some l
  | [] => rfl
  | p :: l => by
    rw [List.map_cons]
    show (allPairs (l.map pr)).map (fun z => (p.1, p.2) :: z) = _
    rw [allPairs_map l]; rfl
def pcode (p : Int × Int) : Int := p.1 * 1000 + p.2
def pdec (c : Int) : Int × Int := (c / 1000, c % 1000)
def smP (p : Int × Int) : Bool := decide (0 ≤ p.1) && decide (p.1 < 1000) && decide (0 ≤ p.2) && decide (p.2 < 1000)
theorem pdec_code {p : Int × Int} (h : smP p = true) : pdec (pcode p) = p := by
  obtain ⟨a, b⟩ := p
  unfold smP at h
  simp at h
  unfold pdec pcode
  have h1 : (a * 1000 + b) / 1000 = a := by omega
  have h2 : (a * 1000 + b) % 1000 = b := by omega
  simp [h1, h2]
def isortP (ns : List (Int × Int)) : List (Int × Int) := (isort (ns.map pcode)).map pdec
def opSortP : S → List PD → Option (List PD) := fun _ ds => match ds with
  | [.list xs] => match allPairs xs with
    | some ns => if (decide (ns.length < 64) && ns.all smP) = true then some ((isortP ns).map pr) else none
    | none => none
  | _ => none
theorem code_2 (x y : Int) : TS.code 1000 [x, y] = x * 1000 + y := by
  have e1 : (1000 : Int) ^ 1 = 1000 := by decide
  have e0 : (1000 : Int) ^ 0 = 1 := by decide
  show x * 1000 ^ 1 + (y * 1000 ^ 0 + 0) = x * 1000 + y
  rw [e1, e0, Int.mul_one, Int.add_zero]
section
variable {K : PySem.W.Frag} {F : Hp}
theorem DV.pr {x : V} {p : Int × Int} (h : DV K F x (pr p)) : ∃ t, x = .ref t ∧ SqT K F t ([p.1, p.2].map V.int) := by
  unfold DL.pr at h
  cases h with
  | tup h1 h2 =>
    cases h2 with
    | cons a b =>
      cases a
      cases b with
      | cons c d =>
        cases c
        cases d
        exact ⟨_, rfl, h1⟩
theorem DVs.permP {us ys : List V} (h : ys.Perm us) : ∀ {ns : List (Int × Int)}, DVs K F us (ns.map DL.pr) → ∃ ms : List (Int × Int), ms.Perm ns ∧ DVs K F ys (ms.map DL.pr) := by
  induction h with
  | nil => exact fun {ns} d => ⟨ns, .refl _, d⟩
  | cons x _ ih =>
    intro ns d
    cases ns with
    | nil => cases d
    | cons n ns =>
      cases d with
      | cons d1 d2 =>
        obtain ⟨ms, p, e⟩ := ih d2
        exact ⟨n :: ms, p.cons n, .cons d1 e⟩
  | swap x y l =>
    intro ns d
    cases ns with
    | nil => cases d
    | cons n ns =>
      cases d with
      | cons d1 d2 =>
        cases ns with
        | nil => cases d2
        | cons m ns =>
          cases d2 with
          | cons d3 d4 => exact ⟨m :: n :: ns, .swap n m ns, .cons d3 (.cons d1 d4)⟩
  | trans _ _ ih1 ih2 =>
    intro ns d
    obtain ⟨ms, p, e⟩ := ih2 d
    obtain ⟨ls, q, f⟩ := ih1 e
    exact ⟨ls, q.trans p, f⟩
theorem DVs.memP : ∀ {us : List V} {ns : List (Int × Int)}, DVs K F us (ns.map DL.pr) → ∀ x ∈ us, ∃ p ∈ ns, DV K F x (DL.pr p)
  | [], _, _, x, m => nomatch m
  | u :: us, [], d, _, _ => by cases d
  | u :: us, n :: ns, d, x, m => by
    cases d with
    | cons d1 d2 =>
      rcases List.mem_cons.mp m with rfl | m
      · exact ⟨n, List.mem_cons_self .., d1⟩
      · obtain ⟨p, hp, e⟩ := DVs.memP d2 x m
        exact ⟨p, List.mem_cons_of_mem _ hp, e⟩
theorem DVs.codeP {H : Hp} (s : Same F H) : ∀ {ys : List V} {ms : List (Int × Int)}, DVs K F ys (ms.map DL.pr) → ys.Pairwise (fun x y => ∀ n m, TupI K H x n → TupI K H y m → TS.code 1000 n ≤ TS.code 1000 m) → (ms.map pcode).Pairwise (· ≤ ·)
  | [], [], _, _ => .nil
  | [], _ :: _, d, _ => by cases d
  | _ :: _, [], d, _ => by cases d
  | y :: ys, m :: ms, d, h => by
    cases d with
    | cons d1 d2 =>
      obtain ⟨h1, h2⟩ := List.pairwise_cons.mp h
      rw [List.map_cons]
      refine List.pairwise_cons.mpr ⟨fun c hc => ?_, DVs.codeP s d2 h2⟩
      obtain ⟨q, hq, rfl⟩ := List.mem_map.mp hc
      obtain ⟨t, e, k⟩ := d1.pr
      have : ∃ z ∈ ys, DV K F z (DL.pr q) := by
        clear h h1 h2 hc k e d1
        induction ms generalizing ys with
        | nil => cases hq
        | cons m' ms ih =>
          cases ys with
          | nil => cases d2
          | cons y' ys =>
            cases d2 with
            | cons d3 d4 =>
              rcases List.mem_cons.mp hq with rfl | hq
              · exact ⟨y', List.mem_cons_self .., d3⟩
              · obtain ⟨z, hz, dz⟩ := ih ys d4 hq
                exact ⟨z, List.mem_cons_of_mem _ hz, dz⟩
      obtain ⟨z, hz, dz⟩ := this
      obtain ⟨t2, e2, k2⟩ := dz.pr
      have := h1 z hz [m.1, m.2] [q.1, q.2] ⟨t, e, sqT_mono s k⟩ ⟨t2, e2, sqT_mono s k2⟩
      rw [code_2, code_2] at this
      exact this
end
theorem map_dec : ∀ {ms : List (Int × Int)}, (∀ p ∈ ms, smP p = true) → (ms.map pcode).map pdec = ms
  | [], _ => rfl
  | p :: ms, h => by
    rw [List.map_cons, List.map_cons, pdec_code (h p (List.mem_cons_self ..)), map_dec fun q m => h q (List.mem_cons_of_mem _ m)]
theorem n_sortP {X : Cx} {K : PySem.W.Frag} {mg : Str → Option Value} (ok : OkX X K mg := by exact ⟨rfl, rfl⟩) : CallR X (.builtin "sorted") (rSortU K 2 1000) ∧ NRef K (rSortU K 2 1000) opSortP := by
  obtain ⟨rfl, rfl⟩ := ok
  refine ⟨cr_sortT (by decide), fun sa F H st vs ds z Q b r hz q => ?_⟩
  unfold opSortP at hz
  split at hz
  · rename_i xs
    split at hz
    · rename_i ns e
      split at hz
      · rename_i hg
        cases hz
        rw [Bool.and_eq_true] at hg
        have h64 := of_decide_eq_true hg.1
        have hsm := List.all_eq_true.mp hg.2
        obtain ⟨v, rfl, r1⟩ := r.one
        obtain ⟨a, us, rfl, h1, h2⟩ := RP.lst b r1
        rw [allPairs_eq e] at h2
        refine ⟨a, us, rfl, SqL.of h1, by rw [h2.len, List.length_map]; exact h64, fun x m => ?_, fun ys p hp hs hn => ?_⟩
        · obtain ⟨n, hn, d⟩ := h2.memP x m
          obtain ⟨t, e1, k⟩ := d.pr
          refine ⟨[n.1, n.2], ⟨t, e1, sqT_mono b.sub k⟩, rfl, fun c hc => ?_⟩
          have := hsm n hn
          unfold smP at this
          simp at this
          rcases List.mem_cons.mp hc with rfl | hc
          · omega
          · rcases List.mem_cons.mp hc with rfl | hc
            · omega
            · cases hc
        · obtain ⟨ms, p1, d⟩ := h2.permP hp
          have so := d.codeP b.sub hs
          have e3 : ms.map pcode = isort (ns.map pcode) := PySem.W.ksm_same ((p1.map pcode).trans (isort_perm _).symm) so (isort_sorted _)
          have e4 : ms = isortP ns := by
            unfold isortP
            rw [← e3, map_dec fun x m => hsm x (p1.mem_iff.mp m)]
          rw [e4] at d
          exact q p ys hn d
      · cases hz
    · cases hz
  · cases hz
theorem opSortP_prs (st : S) (l : List (Int × Int)) (h : l.length < 64) (h2 : l.all smP = true) : opSortP st [.list (l.map pr)] = some ((isortP l).map pr) := by
  show (match allPairs (l.map pr) with
    | some ns => if (decide (ns.length < 64) && ns.all smP) = true then some ((isortP ns).map pr) else none
    | none => none) = _
  rw [allPairs_map]
  dsimp only
  rw [if_pos (by rw [decide_eq_true h, h2]; rfl)]
/-! ### sep.join(texts) -/
def opJoin : PD → PD → Option PD := fun d e => match d, e with
  | .str a, .list ys => match allStrs ys with
    | some zs => if (zs.map (·.length)).sum + zs.length * a.length ≤ 16777216 then some (.str (Txt.join a zs)) else none
    | none => none
  | _, _ => none
def eJoin (fo fe : Env → M PD) : Env → M PD := fun env st => (fo env st).bind fun d s1 => match d with
  | .str a => (fe env s1).bind fun e s2 => R.ofO (opJoin (.str a) e) s2
  | _ => .bad
def rJoin (K : PySem.W.Frag) : V → List V → Hp → VK → Prop := fun x xs H Q => ∃ a p, ∃ ys : List Str, x = .str a ∧ xs = [.ref p] ∧ (SqL K H p (ys.map V.str) ∨ SqT K H p (ys.map V.str)) ∧
      (ys.map (·.length)).sum + ys.length * a.length ≤ 16777216 ∧ Q (.str (Txt.join a ys)) H
section
variable {X : Cx} {K : PySem.W.Frag} {mg : Str → Option Value} {W : WX} {o e : Expr} {to te : TE} {fo fe : Env → M PD}
theorem de_join {apos pos : Pos} (ho : DE X K mg W o to fo) (he : DE X K mg W e te fe) (hs : starEach [e] X.env = [(false, eval e X.env)] := by rfl) (hbase : attributeBase o "join" X.env (eval o X.env) = eval o X.env := by rfl) (hline : (apos.endLine == pos.line) = true := by rfl) (ok : OkX X K mg := by exact ⟨rfl, rfl⟩) :
    DE X K mg W (.Call (.Attribute o "join" apos) [e] [] pos) (tM1 (rJoin K) to te) (eJoin fo fe) := by
  obtain ⟨rfl, rfl⟩ := ok
  refine ⟨pe_join ho.pe he.pe hs hbase hline, fun sa F0 H0 F H σ env st Q s p => ?_⟩
  refine Ref.bind (ta := to) mono_E ho.rf s p fun x F1 H1 d st1 p1 s1 r1 p => ?_
  split at p
  · rename_i a
    refine ⟨⟨a, r1.str⟩, ?_⟩
    refine Ref.bind (ta := te) mono_E he.rf s1 p fun y F2 H2 e st2 p2 s2 r2 p => ?_
    unfold opJoin at p
    split at p
    · rename_i a' ys h0
      cases h0
      split at p
      · rename_i zs ez
        split at p
        · rename_i hg
          obtain ⟨q, us, rfl, h1, h2⟩ := r2.lst
          rw [allStrs_eq ez] at h2
          rw [h2.strs] at h1
          exact ⟨_, q, zs, r1.str, rfl, .inl (SqL.of (s2.bs.sub _ _ h1)), hg, p _ F2 H2 s2.bs.refl (.inl (.str _))⟩
        · exact p.elim
      · exact p.elim
    · exact p.elim
  · exact p.elim
end
/-! ### words = {..}; return words[key] -/
def wKv (kvs : List (Str × Str)) : List (Key × V) := kvs.map fun kv => (.inr kv.1, .str kv.2)
def dlook (kvs : List (Str × Str)) (k : Str) : Option Str := match valV (mergeK [] (wKv kvs)) (.inr k) with
  | some (.str v) => some v
  | _ => none
def eDict (i : Nat) (kvs : List (Str × Str)) (fe : Env → M PD) : Env → M PD := fun env st => if i < env.length then (match fe (env.set i none) st with
  | .ok (.str k) s => R.ofO ((dlook kvs k).map .str) s
  | _ => .bad) else .bad
def wTr (kvs : List (Str × Str)) : List (TE × TE) := kvs.map fun kv => (tC (.str kv.1), tC (.str kv.2))
theorem tPairs_w {σ : L2.St} {H : Hp} : ∀ {kvs : List (Str × Str)} {Q : List (V × V) → Hp → Prop}, Q (kvs.map fun kv => (.str kv.1, .str kv.2)) H → tPairs (wTr kvs) σ H Q
  | [], Q, h => h
  | kv :: r, Q, h => by
    show tPairs (wTr r) σ H fun ps H3 => Q ((V.str kv.1, V.str kv.2) :: ps) H3
    exact tPairs_w h
theorem Sim.setN {K : PySem.W.Frag} {sa : Addr} {F0 H0 F H : Hp} {σ : L2.St} {env : Env} {st : S} {i : Nat} {v : Option V} (s : Sim K sa F0 H0 F H σ env st) : Sim K sa F0 H0 F H (σ.set i v) (env.set i none) st where
  s0 := s.s0
  stp := s.stp
  len := by rw [List.length_set, List.length_set]; exact s.len
  vals := fun j d' e => by
    by_cases hj : i = j
    · subst hj
      by_cases hl : i < env.length
      · rw [List.getElem?_set_self hl] at e; cases e
      · rw [List.getElem?_eq_none (by simpa using hl)] at e; cases e
    · rw [List.getElem?_set_ne hj] at e ⊢
      exact s.vals j d' e
  own := fun j xs e => by
    by_cases hj : i = j
    · subst hj
      by_cases hl : i < env.length
      · rw [List.getElem?_set_self hl] at e; cases e
      · rw [List.getElem?_eq_none (by simpa using hl)] at e; cases e
    · rw [List.getElem?_set_ne hj] at e ⊢
      exact s.own j xs e
  dis := fun j k xs ys a e1 e2 e3 e4 => by
    by_cases hj : i = j
    · subst hj
      by_cases hl : i < env.length
      · rw [List.getElem?_set_self hl] at e1; cases e1
      · rw [List.getElem?_eq_none (by simpa using hl)] at e1; cases e1
    · by_cases hk : i = k
      · subst hk
        by_cases hl : i < env.length
        · rw [List.getElem?_set_self hl] at e2; cases e2
        · rw [List.getElem?_eq_none (by simpa using hl)] at e2; cases e2
      · rw [List.getElem?_set_ne hj] at e1 e3
        rw [List.getElem?_set_ne hk] at e2 e4
        exact s.dis j k xs ys a e1 e2 e3 e4
section
variable {X : Cx} {K : PySem.W.Frag} {mg : Str → Option Value} {W : WX} {e : Expr} {te : TE} {fe : Env → M PD}
theorem dss_words {k : Nat} (hr : Room k X.A) {i : Nat} {x : Str} {kvs : List (Str × Str)} {keys : List (Option Expr)} {values : List Expr} {dpos pos pos' p2 p3 p4 : Pos} (hN : X.N.Nodup) (hp : PPs X dpos keys values (wTr kvs)) (he : DE X K mg W e te fe) (hs : NoSl e := by exact fun _ _ => rfl)
    (hall : keys.all (·.isSome) = true := by rfl) (hl : keys.length = values.length := by rfl) (h0 : keys ≠ [] := by exact fun z => nomatch z) (h15 : keys.length ≤ 15 := by decide) (hlk : kvs.length ≤ 15 := by decide)
    (hi : X.N[i]? = some x := by rfl) (hx : Loc X.env.scope x := by first | exact Or.inl rfl | exact Or.inr rfl) (hsw : swapsWith (.Dict keys values dpos) (some (.Name x pos')) pos.line X.env = pure false := by rfl)
    (hf : X.fn x = true ∨ X.env.scope.names.lookup x = some .local := by first | exact .inl rfl | exact .inr rfl | assumption)
    (hv : Vis X.env.scope x := by first | exact Or.inl rfl | exact Or.inr (Or.inl rfl) | exact Or.inr (Or.inr rfl)) (hd : (x == ("__debug__" : Str)) = false := by decide) (hcd : (x == ("__classdict__" : Str)) = false := by decide) (ok : OkX X K mg := by exact ⟨rfl, rfl⟩) :
    DSs X K mg W [.Assign [.Name x pos'] (.Dict keys values dpos) pos, .Return (some (.Subscript (.Name x p2) e p3)) p4] (tSeq (tAsg (tDisp (wTr kvs)) (gName i)) (tRet (tDGet (tVar i) te))) (sRet (eDict i kvs fe)) := by
  obtain ⟨rfl, rfl⟩ := ok
  have hu : X.A.units + 1 < cLine := by have := room65 hr; omega
  refine ⟨pss_cons (ps_set hN hi hx (pe_disp hp hall hl h0 h15) hsw hf) (pss_one (ps_ret (pe_dget hu (pe_var hi hv hd hcd) he.pe hs))), fun sa F0 H0 F H σ env st D s p => ?_⟩
  intro a ha
  refine tPairs_w ⟨upd_same, wKv kvs, by unfold wKv; rw [List.map_map]; rfl, by unfold wKv; rw [List.length_map]; exact hlk, ?_⟩
  rw [upd_upd]
  unfold sRet eDict at p
  by_cases hi' : i < env.length
  · rw [if_pos hi'] at p
    have s1 := (s.step (s.bs.newU ha (.dK (mergeK [] (wKv kvs))))).setN (i := i) (v := some (.ref a))
    refine ⟨.ref a, List.getElem?_set_self (by rw [← s.len]; exact hi'), ?_⟩
    have ne : a ≠ sa := s.bs.ne ha
    generalize hr : (fe (env.set i none) st) = r at p
    have := he.rf sa F0 H0 F (upd H a (.dK (mergeK [] (wKv kvs)))) (σ.set i (some (.ref a))) (env.set i none) st
    refine this _ s1 ?_
    rw [hr]
    split at p
    · rename_i k st1
      intro v F1 H1 p1 r1
      have hk := p1.pr a _ upd_same ne
      unfold dlook at p
      split at p
      · rename_i w ew
        rw [r1.str]
        refine ⟨a, .str w, rfl, ?_, ?_⟩
        · have := DGet.k (k := .inr k) hk
          rw [ew] at this
          exact this
        · exact p (.str w) F1 H1 (s1.stp.trans p1) (.inl (.str w))
      · exact p.elim
    · exact p.elim
  · rw [if_neg hi'] at p
    exact p.elim
end
end DL
/-! DL12: whole expressions of whole numbers at once. -/
namespace DL
open PySem PySem.Spec PyProof.Rows L2
inductive AE where
  | at (f : Env → M PD) (z : Int)
  | add (a b : AE)
  | sub (a b : AE)
  | mul (a b : AE)
namespace AE
def fn : AE → Env → M PD
  | .at f _ => f
  | .add a b => e2 opAdd a.fn b.fn
  | .sub a b => e2 opSub a.fn b.fn
  | .mul a b => e2 opMul a.fn b.fn
def val : AE → Int
  | .at _ z => z
  | .add a b => a.val + b.val
  | .sub a b => a.val - b.val
  | .mul a b => a.val * b.val
def lv : AE → Nat
  | .at _ _ => 1
  | .add a b => a.lv + b.lv
  | .sub a b => a.lv + b.lv
  | .mul a b => a.lv + b.lv
def ok (n : Nat) (env : Env) (st : S) : AE → Prop
  | .at f z => f env st = .ok (.int z) st ∧ Bz n z
  | .add a b => a.ok n env st ∧ b.ok n env st
  | .sub a b => a.ok n env st ∧ b.ok n env st
  | .mul a b => a.ok n env st ∧ b.ok n env st
theorem lv_pos : ∀ a : AE, 1 ≤ a.lv
  | .at _ _ => Nat.le_refl 1
  | .add a b => Nat.le_trans (lv_pos a) (Nat.le_add_right _ _)
  | .sub a b => Nat.le_trans (lv_pos a) (Nat.le_add_right _ _)
  | .mul a b => Nat.le_trans (lv_pos a) (Nat.le_add_right _ _)
theorem mx {a b n : Nat} (ha : 1 ≤ a) (hb : 1 ≤ b) : max (a * (n + 1)) (b * (n + 1)) + 1 ≤ (a + b) * (n + 1) := by
  rw [Nat.add_mul]
  have h1 : 1 * (n + 1) ≤ a * (n + 1) := Nat.mul_le_mul_right _ ha
  have h2 : 1 * (n + 1) ≤ b * (n + 1) := Nat.mul_le_mul_right _ hb
  omega
theorem run {n : Nat} {env : Env} {st : S} : ∀ a : AE, a.ok n env st → a.lv * (n + 1) < 1000000 → a.fn env st = .ok (.int a.val) st ∧ Bz (a.lv * (n + 1)) a.val
  | .at f z, h, _ => ⟨h.1, h.2.mono (by show n ≤ 1 * (n + 1); omega)⟩
  | .add a b, h, hl => by
    have hl' : (a.lv + b.lv) * (n + 1) < 1000000 := hl
    rw [Nat.add_mul] at hl'
    obtain ⟨e1, b1⟩ := run a h.1 (by omega)
    obtain ⟨e2', b2⟩ := run b h.2 (by omega)
    refine ⟨?_, (b1.add b2).mono (mx (lv_pos a) (lv_pos b))⟩
    show e2 opAdd a.fn b.fn env st = _
    rw [e2_ap, e1, e2a_ok, e2', e2b_ok]
    rfl
  | .sub a b, h, hl => by
    have hl' : (a.lv + b.lv) * (n + 1) < 1000000 := hl
    rw [Nat.add_mul] at hl'
    obtain ⟨e1, b1⟩ := run a h.1 (by omega)
    obtain ⟨e2', b2⟩ := run b h.2 (by omega)
    refine ⟨?_, (b1.sub b2).mono (mx (lv_pos a) (lv_pos b))⟩
    show e2 opSub a.fn b.fn env st = _
    rw [e2_ap, e1, e2a_ok, e2', e2b_ok]
    rfl
  | .mul a b, h, hl => by
    have hl' : (a.lv + b.lv) * (n + 1) < 1000000 := hl
    rw [Nat.add_mul] at hl'
    obtain ⟨e1, b1⟩ := run a h.1 (by omega)
    obtain ⟨e2', b2⟩ := run b h.2 (by omega)
    refine ⟨?_, (b1.mul b2).mono (by show _ ≤ (a.lv + b.lv) * (n + 1); rw [Nat.add_mul]; exact Nat.le_refl _)⟩
    show e2 opMul a.fn b.fn env st = _
    rw [e2_ap, e1, e2a_ok, e2', e2b_ok, opMul_int (mulOk_bz b1 b2 hl')]
    rfl
end AE
/-- the value of an expression -/
theorem ae_run (a : AE) {n : Nat} {env : Env} {st : S} (h : a.ok n env st) (hl : a.lv * (n + 1) < 1000000) : a.fn env st = .ok (.int a.val) st := (AE.run a h hl).1
theorem ae_bz (a : AE) {n : Nat} {env : Env} {st : S} (h : a.ok n env st) (hl : a.lv * (n + 1) < 1000000) : Bz (a.lv * (n + 1)) a.val := (AE.run a h hl).2
/-- the size of a whole number built of others: the same tree without a program -/
def AE.bz (n : Nat) : AE → Prop
  | .at _ z => Bz n z
  | .add a b => a.bz n ∧ b.bz n
  | .sub a b => a.bz n ∧ b.bz n
  | .mul a b => a.bz n ∧ b.bz n
theorem bz_tree {n : Nat} : ∀ a : AE, a.bz n → Bz (a.lv * (n + 1)) a.val
  | .at f z, h => Bz.mono h (by show n ≤ 1 * (n + 1); omega)
  | .add a b, h => ((bz_tree a h.1).add (bz_tree b h.2)).mono (AE.mx (AE.lv_pos a) (AE.lv_pos b))
  | .sub a b, h => ((bz_tree a h.1).sub (bz_tree b h.2)).mono (AE.mx (AE.lv_pos a) (AE.lv_pos b))
  | .mul a b, h => ((bz_tree a h.1).mul (bz_tree b h.2)).mono (by show _ ≤ (a.lv + b.lv) * (n + 1); rw [Nat.add_mul]; exact Nat.le_refl _)
section
variable {env : Env} {st : S} {f1 f2 f3 f4 : Env → M PD} {d1 d2 d3 d4 : PD}
theorem args2 (h1 : f1 env st = .ok d1 st) (h2 : f2 env st = .ok d2 st) : aCons f1 (aCons f2 aNil) env st = .ok [d1, d2] st := by
  simp [h1, h2]
theorem args3 (h1 : f1 env st = .ok d1 st) (h2 : f2 env st = .ok d2 st) (h3 : f3 env st = .ok d3 st) : aCons f1 (aCons f2 (aCons f3 aNil)) env st = .ok [d1, d2, d3] st := by
  simp [h1, h2, h3]
theorem args4 (h1 : f1 env st = .ok d1 st) (h2 : f2 env st = .ok d2 st) (h3 : f3 env st = .ok d3 st) (h4 : f4 env st = .ok d4 st) : aCons f1 (aCons f2 (aCons f3 (aCons f4 aNil))) env st = .ok [d1, d2, d3, d4] st := by
  simp [h1, h2, h3, h4]
theorem tup_of {f : Env → M (List PD)} {ds : List PD} (h : f env st = .ok ds st) (hd : (ds.all isD && decide (ds.length ≤ 10000)) = true) : eTup f env st = .ok (.tuple ds) st := by
  rw [eTup_ap, h, eTa_ok hd]
theorem asg_ok {f : Env → M PD} {tg : PD → Env → Option Env} {d : PD} {env' : Env} (h : f env st = .ok d st) (h2 : tg d env = some env') : sAsg f tg env st = .ok (.nx env') st := by
  rw [sAsg_ap, h, asgA_ok, h2]; rfl
end
end DL
/-! TL1: typed functions behind the functions of data: the monad, values, expressions. -/
namespace DL.TL
open PySem PySem.Spec PyProof.Rows L2
def T (α : Type) : Type := S → R α
namespace T
def pure {α : Type} (a : α) : T α := fun s => .ok a s
def bind {α β : Type} (x : T α) (f : α → T β) : T β := fun s => (x s).bind fun a s' => f a s'
def bad {α : Type} : T α := fun _ => .bad
def ex {α : Type} (c : Str) : T α := fun s => .ex c s
instance : Monad T where
  pure := T.pure
  bind := T.bind
theorem pure_eq {α : Type} (a : α) : (Pure.pure a : T α) = T.pure a := rfl
theorem bind_eq {α β : Type} (x : T α) (f : α → T β) : (x >>= f) = T.bind x f := rfl
@[simp] theorem pure_ap {α : Type} (a : α) (s : S) : (Pure.pure a : T α) s = .ok a s := rfl
theorem bind_ap {α β : Type} (x : T α) (f : α → T β) (s : S) : (x >>= f) s = (x s).bind fun a s' => f a s' := rfl
@[simp] theorem bad_ap {α : Type} (s : S) : (T.bad : T α) s = .bad := rfl
@[simp] theorem ex_ap {α : Type} (c : Str) (s : S) : (T.ex c : T α) s = .ex c s := rfl
@[simp] theorem bad_bind {α β : Type} (f : α → T β) : (T.bad : T α) >>= f = T.bad := rfl
@[simp] theorem ex_bind {α β : Type} (c : Str) (f : α → T β) : (T.ex c : T α) >>= f = T.ex c := rfl
instance : LawfulMonad T := LawfulMonad.mk' T
  (id_map := fun x => by
    funext s
    show (x s).bind _ = x s
    cases x s <;> rfl)
  (pure_bind := fun _ _ => rfl)
  (bind_assoc := fun x f g => by
    funext s
    show ((x s).bind _).bind _ = (x s).bind _
    cases x s <;> rfl)
@[simp] theorem ret_bind {α β : Type} (a : α) (f : α → T β) : (Pure.pure a : T α) >>= f = f a := rfl
/-- an exception inside is taken for nothing said -/
def nox {α : Type} (x : T α) : T α := fun s => (x s).noex
@[simp] theorem nox_pure {α : Type} (a : α) : nox (Pure.pure a : T α) = Pure.pure a := rfl
end T

/-! ### what a typed computation says of one over data -/
def Rf {α β : Type} (g : α → β) (r : R β) (q : R α) : Prop := match q with
  | .ok a s => r = .ok (g a) s
  | .ex c s => r = .ex c s
  | .bad => True
theorem Rf.bind {α β γ δ : Type} {g : α → β} {h : γ → δ} {r : R β} {q : R α} {k : β → S → R δ} {l : α → S → R γ} (e : Rf g r q) (hk : ∀ a s, Rf h (k (g a) s) (l a s)) : Rf h (r.bind k) (q.bind l) := by
  cases q with
  | ok a s => rw [show r = .ok (g a) s from e]; exact hk a s
  | ex c s => rw [show r = .ex c s from e]; exact rfl
  | bad => exact trivial
theorem Rf.noex {α β : Type} {g : α → β} {r : R β} {q : R α} (e : Rf g r q) : Rf g r.noex q.noex := by
  cases q with
  | ok a s => rw [show r = .ok (g a) s from e]; exact rfl
  | ex c s => exact trivial
  | bad => exact trivial
def Mt (Γ env : Env) : Prop := Γ.length = env.length ∧ ∀ (i : Nat) (s : Sl), Γ[i]? = some (some s) → env[i]? = some (some s)
theorem Mt.refl (Γ : Env) : Mt Γ Γ := ⟨rfl, fun _ _ h => h⟩
theorem Mt.set {Γ env : Env} (h : Mt Γ env) (i : Nat) (s : Sl) : Mt (Γ.set i (some s)) (env.set i (some s)) := by
  refine ⟨by rw [List.length_set, List.length_set, h.1], fun j s' e => ?_⟩
  by_cases hj : i = j
  · subst hj
    by_cases hl : i < Γ.length
    · rw [List.getElem?_set_self hl] at e
      rw [List.getElem?_set_self (by rw [← h.1]; exact hl)]
      exact e
    · rw [List.getElem?_eq_none (by simpa using hl)] at e; cases e
  · rw [List.getElem?_set_ne hj] at e ⊢
    exact h.2 j s' e
theorem Mt.setN {Γ env : Env} (h : Mt Γ env) (i : Nat) : Mt (Γ.set i none) (env.set i none) := by
  refine ⟨by rw [List.length_set, List.length_set, h.1], fun j s' e => ?_⟩
  by_cases hj : i = j
  · subst hj
    by_cases hl : i < Γ.length
    · rw [List.getElem?_set_self hl] at e; cases e
    · rw [List.getElem?_eq_none (by simpa using hl)] at e; cases e
  · rw [List.getElem?_set_ne hj] at e ⊢
    exact h.2 j s' e
theorem Mt.wipe {Γ env : Env} (h : Mt Γ env) : ∀ vs : List Nat, Mt (wipeE Γ vs) (wipeE env vs)
  | [] => h
  | v :: vs => (Mt.wipe h vs).setN v
def Sub : Env → Env → Prop
  | [], [] => True
  | none :: a, _ :: b => Sub a b
  | some s :: a, x :: b => x = some s ∧ Sub a b
  | _, _ => False
theorem Sub.mt : ∀ {Γ Γ' : Env}, Sub Γ' Γ → Mt Γ' Γ
  | [], [], _ => Mt.refl _
  | x :: b, none :: a, h => by
    have q := Sub.mt (Γ := b) (Γ' := a) h
    refine ⟨by simp [q.1], fun i s e => ?_⟩
    cases i with
    | zero => cases e
    | succ i => exact q.2 i s e
  | x :: b, some s :: a, h => by
    obtain ⟨rfl, h2⟩ := h
    have q := Sub.mt (Γ := b) (Γ' := a) h2
    refine ⟨by simp [q.1], fun i s' e => ?_⟩
    cases i with
    | zero => exact e
    | succ i => exact q.2 i s' e
  | [], none :: _, h => h.elim
  | [], some _ :: _, h => h.elim
  | _ :: _, [], h => h.elim
theorem Mt.trans {Γ Γ' env : Env} (h : Mt Γ' Γ) (h2 : Mt Γ env) : Mt Γ' env := ⟨h.1.trans h2.1, fun i s e => h2.2 i s (h.2 i s e)⟩
theorem Mt.sub {Γ Γ' env : Env} (h : Mt Γ env) (s : Sub Γ' Γ) : Mt Γ' env := s.mt.trans h

def Ev {α β : Type} (Γ : Env) (g : α → β) (f : Env → M β) (t : T α) : Prop := ∀ env st, Mt Γ env → Rf g (f env st) (t st)
def Vl {β : Type} (Γ : Env) (d : β) (f : Env → M β) : Prop := ∀ env st, Mt Γ env → f env st = .ok d st
section
variable {α β γ δ : Type} {Γ : Env} {f h : Env → M PD} {d e z : PD}
theorem Vl.ev {g : α → β} {k : Env → M β} {a : α} (q : Vl Γ (g a) k) : Ev Γ g k (Pure.pure a) := fun env st m => q env st m
/-- the same with the datum named otherwise -/
theorem Vl.as {k : Env → M β} {x y : β} (q : Vl Γ x k) (e : x = y) : Vl Γ y k := e ▸ q
theorem vl_C (d : PD) : Vl Γ d (eC d) := fun _ _ _ => rfl
theorem vl_V {i : Nat} (q : Γ[i]? = some (some (.v d))) : Vl Γ d (eV i) := fun env st m => eV_at (m.2 i _ q)
theorem vl_Pv {i : Nat} (q : Γ[i]? = some (some (.v d))) : Vl Γ d (ePk i) := fun env st m => ePk_v (m.2 i _ q)
theorem vl_Po {i : Nat} {xs : List PD} (q : Γ[i]? = some (some (.o xs))) : Vl Γ (.list xs) (ePk i) := fun env st m => ePk_o (m.2 i _ q)
/-! two operands -/
theorem vl_e2 {op : S → PD → PD → Option PD} (h1 : Vl Γ d f) (h2 : Vl Γ e h) (ho : ∀ s, op s d e = some z) : Vl Γ z (e2 op f h) := fun env st m => by
  rw [e2_ap, h1 env st m, e2a_ok, h2 env st m, e2b_ok, ho st]; rfl
abbrev O2 {γ : Type} (op : S → PD → PD → Option PD) (d e : PD) (g : γ → PD) (t : T γ) : Prop := ∀ s, Rf g (R.ofO (op s d e) s) (t s)
theorem ev_e2vv {op : S → PD → PD → Option PD} {g : γ → PD} {t : T γ} (h1 : Vl Γ d f) (h2 : Vl Γ e h) (ho : O2 op d e g t) : Ev Γ g (e2 op f h) t := fun env st m => by
  rw [e2_ap, h1 env st m, e2a_ok, h2 env st m, e2b_ok]; exact ho st
theorem ev_e2 {op : S → PD → PD → Option PD} {g1 : α → PD} {g2 : β → PD} {g : γ → PD} {t1 : T α} {t2 : T β} {o : α → β → T γ} (h1 : Ev Γ g1 f t1) (h2 : Ev Γ g2 h t2) (ho : ∀ a b, O2 op (g1 a) (g2 b) g (o a b)) :
    Ev Γ g (e2 op f h) (t1 >>= fun a => t2 >>= fun b => o a b) := fun env st m => by
  show Rf g ((f env st).bind _) ((t1 st).bind _)
  exact (h1 env st m).bind fun a s => (h2 env s m).bind fun b s' => ho a b s'
theorem ev_e2v {op : S → PD → PD → Option PD} {g1 : α → PD} {g : γ → PD} {t1 : T α} {o : α → T γ} (h1 : Ev Γ g1 f t1) (h2 : Vl Γ e h) (ho : ∀ a, O2 op (g1 a) e g (o a)) :
    Ev Γ g (e2 op f h) (t1 >>= fun a => o a) := fun env st m => by
  show Rf g ((f env st).bind _) ((t1 st).bind _)
  refine (h1 env st m).bind fun a s => ?_
  rw [h2 env s m]
  exact ho a s
theorem ev_ve2 {op : S → PD → PD → Option PD} {g2 : β → PD} {g : γ → PD} {t2 : T β} {o : β → T γ} (h1 : Vl Γ d f) (h2 : Ev Γ g2 h t2) (ho : ∀ b, O2 op d (g2 b) g (o b)) :
    Ev Γ g (e2 op f h) (t2 >>= fun b => o b) := fun env st m => by
  show Rf g ((f env st).bind _) ((t2 st).bind _)
  rw [h1 env st m]
  exact (h2 env st m).bind fun b s' => ho b s'
/-! one operand -/
theorem vl_e1 {op : S → PD → Option PD} (h1 : Vl Γ d f) (ho : ∀ s, op s d = some z) : Vl Γ z (e1 op f) := fun env st m => by
  rw [e1_ap, h1 env st m, e1a_ok, ho st]; rfl
theorem ev_e1 {op : S → PD → Option PD} {g1 : α → PD} {g : γ → PD} {t1 : T α} {o : α → T γ} (h1 : Ev Γ g1 f t1) (ho : ∀ a s, Rf g (R.ofO (op s (g1 a)) s) (o a s)) : Ev Γ g (e1 op f) (t1 >>= fun a => o a) := fun env st m => by
  show Rf g ((f env st).bind _) ((t1 st).bind _)
  exact (h1 env st m).bind fun a s => ho a s
/-! lists of parts: what comes behind is given -/
def Ca {γ δ : Type} (Γ : Env) (fa : Env → M (List PD)) (K : List PD → M δ) (g : γ → δ) (t : T γ) : Prop := ∀ env st, Mt Γ env → Rf g ((fa env st).bind K) (t st)
variable {fa : Env → M (List PD)} {K : List PD → M δ} {g : γ → δ}
theorem ca_nil {t : T γ} (hk : ∀ s, Rf g (K [] s) (t s)) : Ca Γ aNil K g t := fun env st m => hk st
theorem ca_v {t : T γ} (h1 : Vl Γ d f) (h2 : Ca Γ fa (fun ds => K (d :: ds)) g t) : Ca Γ (aCons f fa) K g t := fun env st m => by
  have := h2 env st m
  rw [aCons_ap, h1 env st m, aCa_ok]
  show Rf g ((aCb d (fa env st)).bind K) (t st)
  unfold aCb
  cases q : fa env st with
  | ok ds s => rw [q] at this; exact this
  | ex c s => rw [q] at this; exact this
  | bad => rw [q] at this; exact this
theorem ca_e {g1 : α → PD} {t1 : T α} {k : α → T γ} (h1 : Ev Γ g1 f t1) (h2 : ∀ a, Ca Γ fa (fun ds => K (g1 a :: ds)) g (k a)) : Ca Γ (aCons f fa) K g (t1 >>= k) := fun env st m => by
  have hb := h1 env st m
  rw [aCons_ap]
  show Rf g ((aCa fa env (f env st)).bind K) ((t1 st).bind fun a s => k a s)
  cases q : t1 st with
  | ok a s =>
    rw [q] at hb
    rw [show f env st = .ok (g1 a) s from hb, aCa_ok]
    have := h2 a env s m
    show Rf g ((aCb (g1 a) (fa env s)).bind K) (k a s)
    unfold aCb
    cases q2 : fa env s with
    | ok ds s => rw [q2] at this; exact this
    | ex c s => rw [q2] at this; exact this
    | bad => rw [q2] at this; exact this
  | ex c s =>
    rw [q] at hb
    rw [show f env st = .ex c s from hb]; exact rfl
  | bad => exact trivial
theorem vl_nil : Vl Γ [] aNil := fun _ _ _ => rfl
theorem vl_cons {ds : List PD} (h1 : Vl Γ d f) (h2 : Vl Γ ds fa) : Vl Γ (d :: ds) (aCons f fa) := fun env st m => by
  rw [aCons_ap, h1 env st m, aCa_ok, h2 env st m, aCb_ok]
abbrev tupK : List PD → M PD := fun ds s => if (ds.all isD && decide (ds.length ≤ 10000)) = true then .ok (.tuple ds) s else .bad
theorem vl_tup {ds : List PD} (h1 : Vl Γ ds fa) (hd : (ds.all isD && decide (ds.length ≤ 10000)) = true) : Vl Γ (.tuple ds) (eTup fa) := fun env st m => by
  rw [eTup_ap, h1 env st m, eTa_ok hd]
theorem ev_tup {g : γ → PD} {t : T γ} (hc : Ca Γ fa tupK g t) : Ev Γ g (eTup fa) t := fun env st m => hc env st m
abbrev lstK : List PD → M (List PD) := fun ds s => if (ds.all isD && decide (ds.length ≤ 10000)) = true then .ok ds s else .bad
theorem vl_lst {ds : List PD} (h1 : Vl Γ ds fa) (hd : (ds.all isD && decide (ds.length ≤ 10000)) = true) : Vl Γ ds (nLst fa) := fun env st m => by
  rw [nLst_ap, h1 env st m, nLa_ok hd]
theorem ev_lst {g : γ → List PD} {t : T γ} (hc : Ca Γ fa lstK g t) : Ev Γ g (nLst fa) t := fun env st m => hc env st m
theorem vl_L {ds : List PD} (h1 : Vl Γ ds fa) : Vl Γ (.list ds) (eL fa) := fun env st m => by
  rw [eL_ap, h1 env st m, eLa_ok]
theorem ev_L {g : γ → List PD} {t : T γ} (h1 : Ev Γ g fa t) : Ev Γ (fun a => PyData.list (g a)) (eL fa) t := fun env st m => by
  have := h1 env st m
  show Rf _ ((fa env st).bind _) (t st)
  cases q : t st with
  | ok a s => rw [q] at this; rw [show fa env st = .ok (g a) s from this]; exact rfl
  | ex c s => rw [q] at this; rw [show fa env st = .ex c s from this]; exact rfl
  | bad => exact trivial
/-! calls -/
def Fn {γ : Type} (g : γ → PD) (m : M PD) (t : T γ) : Prop := ∀ s, Rf g (m s) (t s)
abbrev callK (n : Nat) (m : List PD → M PD) : List PD → M PD := fun ds s => if ds.length = n then m ds s else .bad
theorem ev_call {n : Nat} {m : List PD → M PD} {g : γ → PD} {t : T γ} (hc : Ca Γ fa (callK n m) g t) : Ev Γ g (callF n m fa) t := fun env st mt => hc env st mt
theorem ev_callv {n : Nat} {m : List PD → M PD} {g : γ → PD} {t : T γ} {ds : List PD} (h1 : Vl Γ ds fa) (hf : Fn g (m ds) t) (hl : ds.length = n := by rfl) : Ev Γ g (callF n m fa) t := fun env st mt => by
  rw [callF_ap, h1 env st mt]
  show Rf g (if ds.length = n then m ds st else .bad) (t st)
  rw [if_pos hl]; exact hf st
theorem vl_B {op : S → List PD → Option PD} {ds : List PD} (h1 : Vl Γ ds fa) (ho : ∀ s, op s ds = some z) : Vl Γ z (eB op fa) := fun env st m => by
  rw [eB_ap, h1 env st m, eBa_ok, ho st]; rfl
theorem vl_nB {op : S → List PD → Option (List PD)} {ds zs : List PD} (h1 : Vl Γ ds fa) (ho : ∀ s, op s ds = some zs) : Vl Γ zs (nB op fa) := fun env st m => by
  rw [nB_ap, h1 env st m, nBa_ok, ho st]; rfl
abbrev opK (op : S → List PD → Option PD) : List PD → M PD := fun ds s => R.ofO (op s ds) s
abbrev opNK (op : S → List PD → Option (List PD)) : List PD → M (List PD) := fun ds s => R.ofO (op s ds) s
theorem ev_B {op : S → List PD → Option PD} {g : γ → PD} {t : T γ} (hc : Ca Γ fa (opK op) g t) : Ev Γ g (eB op fa) t := fun env st m => hc env st m
theorem ev_nB {op : S → List PD → Option (List PD)} {g : γ → List PD} {t : T γ} (hc : Ca Γ fa (opNK op) g t) : Ev Γ g (nB op fa) t := fun env st m => hc env st m
/-! truths -/
variable {b b1 b2 : Bool} {p q : Env → M Bool} {t t1 t2 : T Bool}
theorem vl_tV (h1 : Vl Γ (.bool b) f) : Vl Γ b (tV f) := fun env st m => by
  rw [tV_ap, h1 env st m, tVa_ok]
theorem ev_tV (h1 : Ev Γ PyData.bool f t) : Ev Γ id (tV f) t := fun env st m => by
  have := h1 env st m
  rw [tV_ap]
  cases q : t st with
  | ok a s => rw [q] at this; rw [show f env st = .ok (.bool a) s from this]; exact rfl
  | ex c s => rw [q] at this; rw [show f env st = .ex c s from this]; exact rfl
  | bad => exact trivial
theorem vl_not (h1 : Vl Γ b p) : Vl Γ (!b) (tNotF p) := fun env st m => by
  rw [tNotF_ap, h1 env st m, tNa_ok]
theorem ev_not (h1 : Ev Γ id p t) : Ev Γ id (tNotF p) (t >>= fun b => Pure.pure (!b)) := fun env st m => by
  show Rf id ((p env st).bind _) ((t st).bind _)
  exact (h1 env st m).bind fun a s => rfl
theorem vl_and (h1 : Vl Γ b1 p) (h2 : Vl Γ b2 q) : Vl Γ (b1 && b2) (tAndF p q) := fun env st m => by
  rw [tAndF_ap, h1 env st m]
  cases b1 with
  | true => rw [tAa_t, h2 env st m]; rfl
  | false => rfl
theorem vl_or (h1 : Vl Γ b1 p) (h2 : Vl Γ b2 q) : Vl Γ (b1 || b2) (tOrF p q) := fun env st m => by
  rw [tOrF_ap, h1 env st m]
  cases b1 with
  | true => rfl
  | false => rw [tOa_f, h2 env st m]; rfl
theorem ev_andv (h1 : Vl Γ b1 p) (h2 : Ev Γ id q t) : Ev Γ id (tAndF p q) (if b1 = true then t else Pure.pure false) := fun env st m => by
  rw [tAndF_ap, h1 env st m]
  cases b1 with
  | true => exact h2 env st m
  | false => exact rfl
theorem ev_orv (h1 : Vl Γ b1 p) (h2 : Ev Γ id q t) : Ev Γ id (tOrF p q) (if b1 = true then Pure.pure true else t) := fun env st m => by
  rw [tOrF_ap, h1 env st m]
  cases b1 with
  | true => exact rfl
  | false => exact h2 env st m
theorem ev_and (h1 : Ev Γ id p t1) (h2 : Ev Γ id q t2) : Ev Γ id (tAndF p q) (t1 >>= fun b => if b = true then t2 else Pure.pure false) := fun env st m => by
  show Rf id ((p env st).bind _) ((t1 st).bind _)
  refine (h1 env st m).bind fun a s => ?_
  cases a with
  | true => exact h2 env s m
  | false => exact rfl
theorem ev_or (h1 : Ev Γ id p t1) (h2 : Ev Γ id q t2) : Ev Γ id (tOrF p q) (t1 >>= fun b => if b = true then Pure.pure true else t2) := fun env st m => by
  show Rf id ((p env st).bind _) ((t1 st).bind _)
  refine (h1 env st m).bind fun a s => ?_
  cases a with
  | true => exact rfl
  | false => exact h2 env s m
theorem vl_eAnd (h1 : Vl Γ (.bool b1) f) (h2 : Vl Γ (.bool b2) h) : Vl Γ (.bool (b1 && b2)) (eAnd f h) := fun env st m => by
  rw [eAnd_ap, h1 env st m, tVa_ok]
  cases b1 with
  | true => rw [eAa_t, h2 env st m]; rfl
  | false => rfl
theorem vl_eOr (h1 : Vl Γ (.bool b1) f) (h2 : Vl Γ (.bool b2) h) : Vl Γ (.bool (b1 || b2)) (eOr f h) := fun env st m => by
  rw [eOr_ap, h1 env st m, tVa_ok]
  cases b1 with
  | true => rfl
  | false => rw [eOa_f, h2 env st m]; rfl
theorem ev_eAndv (h1 : Vl Γ (.bool b1) f) (h2 : Ev Γ PyData.bool h t) : Ev Γ PyData.bool (eAnd f h) (if b1 = true then t else Pure.pure false) := fun env st m => by
  rw [eAnd_ap, h1 env st m, tVa_ok]
  cases b1 with
  | true => exact h2 env st m
  | false => exact rfl
theorem ev_eOrv (h1 : Vl Γ (.bool b1) f) (h2 : Ev Γ PyData.bool h t) : Ev Γ PyData.bool (eOr f h) (if b1 = true then Pure.pure true else t) := fun env st m => by
  rw [eOr_ap, h1 env st m, tVa_ok]
  cases b1 with
  | true => exact rfl
  | false => exact h2 env st m
theorem ev_eAnd (h1 : Ev Γ PyData.bool f t1) (h2 : Ev Γ PyData.bool h t2) : Ev Γ PyData.bool (eAnd f h) (t1 >>= fun b => if b = true then t2 else Pure.pure false) := fun env st m => by
  have h1 := ev_tV h1 env st m
  show Rf PyData.bool ((tV f env st).bind _) ((t1 st).bind _)
  refine h1.bind fun a s => ?_
  cases a with
  | true => exact h2 env s m
  | false => exact rfl
theorem ev_eOr (h1 : Ev Γ PyData.bool f t1) (h2 : Ev Γ PyData.bool h t2) : Ev Γ PyData.bool (eOr f h) (t1 >>= fun b => if b = true then Pure.pure true else t2) := fun env st m => by
  have h1 := ev_tV h1 env st m
  show Rf PyData.bool ((tV f env st).bind _) ((t1 st).bind _)
  refine h1.bind fun a s => ?_
  cases a with
  | true => exact rfl
  | false => exact h2 env s m
theorem vl_eNot (h1 : Vl Γ (.bool b) f) : Vl Γ (.bool (!b)) (eNot f) := fun env st m => by
  rw [eNot_ap, h1 env st m, tVa_ok, eNa_ok]
theorem ev_eNot (h1 : Ev Γ PyData.bool f t) : Ev Γ PyData.bool (eNot f) (t >>= fun b => Pure.pure (!b)) := fun env st m => by
  have h1 := ev_tV h1 env st m
  show Rf PyData.bool ((tV f env st).bind _) ((t st).bind _)
  exact h1.bind fun a s => rfl
/-- c ? f : h; the branches' data are of one kind -/
theorem vl_eIf {g : α → PD} {x y : α} (hc : Vl Γ b p) (h1 : Vl Γ (g x) f) (h2 : Vl Γ (g y) h) : Vl Γ (g (if b = true then x else y)) (eIf p f h) := fun env st m => by
  rw [eIf_ap, hc env st m]
  cases b with
  | true => exact h1 env st m
  | false => exact h2 env st m
theorem ev_eIfv {g : α → PD} {x y : T α} (hc : Vl Γ b p) (h1 : Ev Γ g f x) (h2 : Ev Γ g h y) : Ev Γ g (eIf p f h) (if b = true then x else y) := fun env st m => by
  rw [eIf_ap, hc env st m]
  cases b with
  | true => exact h1 env st m
  | false => exact h2 env st m
theorem ev_eIf {g : α → PD} {x y : T α} (hc : Ev Γ id p t) (h1 : Ev Γ g f x) (h2 : Ev Γ g h y) : Ev Γ g (eIf p f h) (t >>= fun b => if b = true then x else y) := fun env st m => by
  show Rf g ((p env st).bind _) ((t st).bind _)
  refine (hc env st m).bind fun a s => ?_
  cases a with
  | true => exact h1 env s m
  | false => exact h2 env s m
/-- a op b op' c, all values -/
theorem vl_chain {op op' : S → PD → PD → Option PD} {fc : Env → M PD} {c : PD} (h1 : Vl Γ d f) (h2 : Vl Γ e h) (h3 : Vl Γ c fc) (o1 : ∀ s, op s d e = some (.bool b1)) (o2 : ∀ s, op' s e c = some (.bool b2)) : Vl Γ (.bool (b1 && b2)) (eChain op op' f h fc) := fun env st m => by
  rw [eChain_ap, h1 env st m]
  show eCb op op' fc env d (h env st) = _
  rw [h2 env st m]
  show eCc op' fc env e ((R.ofO (op st d e) st).bind _) = _
  rw [o1 st]
  cases b1 with
  | true =>
    show eCd op' e (fc env st) = _
    rw [h3 env st m]
    show R.ofO (op' st e c) st = _
    rw [o2 st]; rfl
  | false => rfl
end

/-! ### kinds of values -/
abbrev eI : Int → PD := PyData.int
abbrev eBo : Bool → PD := PyData.bool
abbrev eSt : Str → PD := PyData.str
abbrev eNo : Unit → PD := fun _ => PyData.none
abbrev eST : Unit → PD := fun _ => STT
abbrev eLs {α : Type} (en : α → PD) : List α → PD := fun l => .list (l.map en)
abbrev eVT {α : Type} (en : α → PD) : List α → PD := fun l => .tuple (l.map en)
def eOp {α : Type} (en : α → PD) : Option α → PD := fun o => match o with
  | some a => en a
  | none => .none
section
variable {A B C D E F : Type}
abbrev eT1 (a : A → PD) : A → PD := fun x => .tuple [a x]
abbrev eT2 (a : A → PD) (b : B → PD) : A × B → PD := fun x => .tuple [a x.1, b x.2]
abbrev eT3 (a : A → PD) (b : B → PD) (c : C → PD) : A × B × C → PD := fun x => .tuple [a x.1, b x.2.1, c x.2.2]
abbrev eT4 (a : A → PD) (b : B → PD) (c : C → PD) (d : D → PD) : A × B × C × D → PD := fun x => .tuple [a x.1, b x.2.1, c x.2.2.1, d x.2.2.2]
abbrev eT5 (a : A → PD) (b : B → PD) (c : C → PD) (d : D → PD) (e : E → PD) : A × B × C × D × E → PD := fun x => .tuple [a x.1, b x.2.1, c x.2.2.1, d x.2.2.2.1, e x.2.2.2.2]
abbrev eT6 (a : A → PD) (b : B → PD) (c : C → PD) (d : D → PD) (e : E → PD) (f : F → PD) : A × B × C × D × E × F → PD := fun x => .tuple [a x.1, b x.2.1, c x.2.2.1, d x.2.2.2.1, e x.2.2.2.2.1, f x.2.2.2.2.2]
abbrev eF1 (a : A → PD) : A → PD := fun x => .list [a x]
abbrev eF2 (a : A → PD) (b : B → PD) : A × B → PD := fun x => .list [a x.1, b x.2]
abbrev eF3 (a : A → PD) (b : B → PD) (c : C → PD) : A × B × C → PD := fun x => .list [a x.1, b x.2.1, c x.2.2]
abbrev eF4 (a : A → PD) (b : B → PD) (c : C → PD) (d : D → PD) : A × B × C × D → PD := fun x => .list [a x.1, b x.2.1, c x.2.2.1, d x.2.2.2]
end
/-- a kind whose equality is that of its values; n: how deep it lies -/
structure Kd {α : Type} [DecidableEq α] (n : Nat) (en : α → PD) : Prop where
  lay : ∀ a, (en a).canLay0 = true
  dep : ∀ a, (en a).depth ≤ n
  eqv : ∀ a b, PyData.eqv (en a) (en b) = decide (a = b)
  isd : ∀ a, isD (en a) = true
section
variable {A B C D : Type} [DecidableEq A] [DecidableEq B] [DecidableEq C] [DecidableEq D] {n m k l : Nat} {a : A → PD} {b : B → PD} {c : C → PD} {d : D → PD}
theorem kI : Kd 0 eI := ⟨fun _ => rfl, fun _ => by show PyData.depth (.int _) ≤ 0; simp [PyData.depth], eqv_int, fun _ => rfl⟩
theorem kB : Kd 0 eBo := ⟨fun _ => rfl, fun _ => by show PyData.depth (.bool _) ≤ 0; simp [PyData.depth], fun a b => by cases a <;> cases b <;> simp [PyData.eqv], fun _ => rfl⟩
theorem Kd.le (h : Kd n a) (hl : n ≤ m) : Kd m a := ⟨h.lay, fun x => Nat.le_trans (h.dep x) hl, h.eqv, h.isd⟩
theorem Kd.shp (h : Kd n a) (hn : n ≤ 64) (x : A) : SeqAt.shaped (a x) = true := by
  unfold SeqAt.shaped
  rw [h.lay x, Bool.true_and]
  exact decide_eq_true (Nat.le_trans (h.dep x) hn)
theorem Kd.layAll (h : Kd n a) : ∀ xs : List A, PyData.canLayAll0 (xs.map a) = true
  | [] => by simp [PyData.canLayAll0]
  | x :: xs => by rw [List.map_cons, PyData.canLayAll0, h.layAll xs, h.lay x]; rfl
theorem Kd.depAll (h : Kd n a) : ∀ xs : List A, PyData.depthAll (xs.map a) ≤ n
  | [] => by simp [PyData.depthAll]
  | x :: xs => by rw [List.map_cons, PyData.depthAll]; exact Nat.max_le.mpr ⟨h.dep x, h.depAll xs⟩
theorem Kd.eqvAll (h : Kd n a) : ∀ xs ys : List A, PyData.eqvAll (xs.map a) (ys.map a) = decide (xs = ys)
  | [], [] => by simp [PyData.eqvAll]
  | [], _ :: _ => by simp [PyData.eqvAll]
  | _ :: _, [] => by simp [PyData.eqvAll]
  | x :: xs, y :: ys => by
    rw [List.map_cons, List.map_cons, eqvAll_cons, h.eqv, h.eqvAll xs ys]
    simp
theorem kLs (h : Kd n a) : Kd (n + 1) (eLs a) := ⟨fun x => by show PyData.canLay0 (.list _) = true; rw [PyData.canLay0]; exact h.layAll x, fun x => by show PyData.depth (.list _) ≤ _; rw [PyData.depth]; have := h.depAll x; omega, fun x y => by rw [eqv_lst, h.eqvAll], fun _ => rfl⟩
theorem kVT (h : Kd n a) : Kd (n + 1) (eVT a) := ⟨fun x => by show PyData.canLay0 (.tuple _) = true; rw [PyData.canLay0]; exact h.layAll x, fun x => by show PyData.depth (.tuple _) ≤ _; rw [PyData.depth]; have := h.depAll x; omega, fun x y => by rw [eqv_tup, h.eqvAll], fun _ => rfl⟩
theorem kT2 (h : Kd n a) (h2 : Kd m b) : Kd (max n m + 1) (eT2 a b) := ⟨fun x => by show PyData.canLay0 (.tuple _) = true; simp [PyData.canLay0, PyData.canLayAll0, h.lay, h2.lay], fun x => by
  show PyData.depth (.tuple _) ≤ _
  have q1 := h.dep x.1
  have q2 := h2.dep x.2
  simp only [PyData.depth, PyData.depthAll]; omega, fun x y => by
  obtain ⟨x1, x2⟩ := x
  obtain ⟨y1, y2⟩ := y
  simp only [eqv_tup, eqvAll_cons, eqvAll_nil, h.eqv, h2.eqv, Prod.mk.injEq, Bool.decide_and, Bool.and_true], fun _ => rfl⟩
theorem kT3 (h : Kd n a) (h2 : Kd m b) (h3 : Kd k c) : Kd (max n (max m k) + 1) (eT3 a b c) := ⟨fun x => by show PyData.canLay0 (.tuple _) = true; simp [PyData.canLay0, PyData.canLayAll0, h.lay, h2.lay, h3.lay], fun x => by
  show PyData.depth (.tuple _) ≤ _
  have q1 := h.dep x.1
  have q2 := h2.dep x.2.1
  have q3 := h3.dep x.2.2
  simp only [PyData.depth, PyData.depthAll]; omega, fun x y => by
  obtain ⟨x1, x2, x3⟩ := x
  obtain ⟨y1, y2, y3⟩ := y
  simp only [eqv_tup, eqvAll_cons, eqvAll_nil, h.eqv, h2.eqv, h3.eqv, Prod.mk.injEq, Bool.decide_and, Bool.and_true], fun _ => rfl⟩
theorem kT4 (h : Kd n a) (h2 : Kd m b) (h3 : Kd k c) (h4 : Kd l d) : Kd (max n (max m (max k l)) + 1) (eT4 a b c d) := ⟨fun x => by show PyData.canLay0 (.tuple _) = true; simp [PyData.canLay0, PyData.canLayAll0, h.lay, h2.lay, h3.lay, h4.lay], fun x => by
  show PyData.depth (.tuple _) ≤ _
  have q1 := h.dep x.1
  have q2 := h2.dep x.2.1
  have q3 := h3.dep x.2.2.1
  have q4 := h4.dep x.2.2.2
  simp only [PyData.depth, PyData.depthAll]; omega, fun x y => by
  obtain ⟨x1, x2, x3, x4⟩ := x
  obtain ⟨y1, y2, y3, y4⟩ := y
  simp only [eqv_tup, eqvAll_cons, eqvAll_nil, h.eqv, h2.eqv, h3.eqv, h4.eqv, Prod.mk.injEq, Bool.decide_and, Bool.and_true], fun _ => rfl⟩
theorem eq_k {st : S} (h : Kd n a) (x y : A) (hn : n ≤ 64 := by decide) : opEq st (a x) (a y) = some (.bool (decide (x = y))) := by
  rw [opEq_sh (h.shp hn x) (h.shp hn y), h.eqv]
theorem ne_k {st : S} (h : Kd n a) (x y : A) (hn : n ≤ 64 := by decide) : opNe st (a x) (a y) = some (.bool (!decide (x = y))) := by
  rw [opNe_sh (h.shp hn x) (h.shp hn y), h.eqv]
theorem Kd.any (h : Kd n a) (y : A) : ∀ xs : List A, ((xs.map a).any fun z => PyData.eqv z (a y)) = decide (y ∈ xs)
  | [] => by simp
  | x :: xs => by
    rw [List.map_cons, List.any_cons, h.any y xs, h.eqv]
    by_cases q : x = y
    · simp [q]
    · have q' : ¬ y = x := fun e => q e.symm
      simp [q, q']
theorem in_k {st : S} (h : Kd n a) (y : A) (xs : List A) (hn : n ≤ 62 := by decide) : opIn false st (a y) (.list (xs.map a)) = some (.bool (decide (y ∈ xs))) := by
  show (if SeqAt.shaped (a y) = true ∧ SeqAt.shaped (.list (xs.map a)) = true then _ else _) = _
  rw [if_pos ⟨h.shp (by omega) y, (kLs h).shp (by omega) xs⟩, if_neg (by decide), h.any]
theorem nin_k {st : S} (h : Kd n a) (y : A) (xs : List A) (hn : n ≤ 62 := by decide) : opIn true st (a y) (.list (xs.map a)) = some (.bool (!decide (y ∈ xs))) := by
  show (if SeqAt.shaped (a y) = true ∧ SeqAt.shaped (.list (xs.map a)) = true then _ else _) = _
  rw [if_pos ⟨h.shp (by omega) y, (kLs h).shp (by omega) xs⟩, if_pos rfl, h.any]
theorem inT_i {st : S} (y : Int) (xs : List Int) : opIn false st (.int y) (.tuple (xs.map eI)) = some (.bool (decide (y ∈ xs))) := by
  show (if flatD (.int y) = true ∧ (xs.map eI).all flatD = true then _ else _) = _
  rw [if_pos ⟨rfl, by rw [List.all_map]; exact List.all_eq_true.mpr fun _ _ => rfl⟩, if_neg (by decide), kI.any]
theorem ninT_i {st : S} (y : Int) (xs : List Int) : opIn true st (.int y) (.tuple (xs.map eI)) = some (.bool (!decide (y ∈ xs))) := by
  show (if flatD (.int y) = true ∧ (xs.map eI).all flatD = true then _ else _) = _
  rw [if_pos ⟨rfl, by rw [List.all_map]; exact List.all_eq_true.mpr fun _ _ => rfl⟩, if_pos rfl, kI.any]
end
end DL.TL
/-! TL2: whole expressions, operators, loops, statements, defs. -/
namespace DL.TL
open PySem PySem.Spec PyProof.Rows L2
/-! ### whole numbers of a size that all can be reckoned with -/
def Sm (z : Int) : Prop := Bz 20000 z
noncomputable instance (z : Int) : Decidable (Sm z) := Classical.propDecidable _
theorem Sm.bz {z : Int} (h : Sm z) : Bz 20000 z := h
theorem sm_bz {n : Nat} {z : Int} (h : Bz n z) (hn : n ≤ 20000 := by decide) : Sm z := h.mono hn
theorem lit_bz {z : Int} (h : z.natAbs < 1000000000000000000000000) : Bz 80 z := Nat.lt_of_lt_of_le h (by decide : (1000000000000000000000000 : Nat) ≤ 2 ^ 80)
theorem sm_lit {z : Int} (h : z.natAbs < 1000000000000000000000000 := by decide) : Sm z := by
  have : (1000000000000000000000000 : Nat) ≤ 2 ^ 80 := by decide
  exact sm_bz (n := 80) (Nat.lt_of_lt_of_le h this)
theorem sm_of {z : Int} (h1 : -1000000000000000000000000 < z) (h2 : z < 1000000000000000000000000) : Sm z := sm_lit (by omega)
namespace T
noncomputable def ar (L : List Int) (v : Int) : T Int := if ∀ z ∈ L, Sm z then Pure.pure v else T.bad
theorem ar_ok {L : List Int} {v : Int} (h : ∀ z ∈ L, Sm z) : ar L v = Pure.pure v := if_pos h
theorem ar_no {L : List Int} {v : Int} (h : ¬ ∀ z ∈ L, Sm z) : ar L v = T.bad := if_neg h
@[simp] theorem ar_nil (v : Int) : ar [] v = Pure.pure v := ar_ok (by simp)
theorem ar1 {a v : Int} (ha : Sm a) : ar [a] v = Pure.pure v := ar_ok (by simp [ha])
end T
inductive AX where
  | at (f : DL.Env → M PD) (z : Int)
  | ct (k : Int)
  | neg (a : AX)
  | add (a b : AX)
  | sub (a b : AX)
  | mul (a b : AX)
namespace AX
def fn : AX → DL.Env → M PD
  | .at f _ => f
  | .ct k => eC (.int k)
  | .neg a => e1 opNeg a.fn
  | .add a b => e2 opAdd a.fn b.fn
  | .sub a b => e2 opSub a.fn b.fn
  | .mul a b => e2 opMul a.fn b.fn
def val : AX → Int
  | .at _ z => z
  | .ct k => k
  | .neg a => -a.val
  | .add a b => a.val + b.val
  | .sub a b => a.val - b.val
  | .mul a b => a.val * b.val
def lvs : AX → List Int
  | .at _ z => [z]
  | .ct k => []
  | .neg a => a.lvs
  | .add a b => a.lvs ++ b.lvs
  | .sub a b => a.lvs ++ b.lvs
  | .mul a b => a.lvs ++ b.lvs
def lv : AX → Nat
  | .at _ _ => 1
  | .ct k => 1
  | .neg a => a.lv
  | .add a b => a.lv + b.lv
  | .sub a b => a.lv + b.lv
  | .mul a b => a.lv + b.lv
def vl (Γ : DL.Env) : AX → Prop
  | .at f z => Vl Γ (.int z) f
  | .ct k => decide (k.natAbs < 1000000000000000000000000) = true
  | .neg a => a.vl Γ
  | .add a b => a.vl Γ ∧ b.vl Γ
  | .sub a b => a.vl Γ ∧ b.vl Γ
  | .mul a b => a.vl Γ ∧ b.vl Γ
theorem lv_pos : ∀ a : AX, 1 ≤ a.lv
  | .at _ _ => Nat.le_refl 1
  | .ct _ => Nat.le_refl 1
  | .neg a => lv_pos a
  | .add a b => Nat.le_trans (lv_pos a) (Nat.le_add_right _ _)
  | .sub a b => Nat.le_trans (lv_pos a) (Nat.le_add_right _ _)
  | .mul a b => Nat.le_trans (lv_pos a) (Nat.le_add_right _ _)
theorem run {n : Nat} (hn : 80 ≤ n) {Γ env : DL.Env} {st : S} (m : Mt Γ env) : ∀ a : AX, a.vl Γ → (∀ z ∈ a.lvs, Bz n z) → a.lv * (n + 1) < 1000000 → a.fn env st = .ok (.int a.val) st ∧ Bz (a.lv * (n + 1)) a.val
  | .at f z, h, hz, _ => ⟨h env st m, (hz z (List.mem_singleton.mpr rfl)).mono (by show n ≤ 1 * (n + 1); omega)⟩
  | .ct k, h, hz, _ => ⟨rfl, (lit_bz (of_decide_eq_true h)).mono (by show 80 ≤ 1 * (n + 1); omega)⟩
  | .neg a, h, hz, hl => by
    obtain ⟨e1', b1⟩ := run hn m a h hz hl
    refine ⟨?_, b1.neg⟩
    show e1 opNeg a.fn env st = _
    rw [e1_ap, e1', e1a_ok]; rfl
  | .add a b, h, hz, hl => by
    have hl' : (a.lv + b.lv) * (n + 1) < 1000000 := hl
    rw [Nat.add_mul] at hl'
    obtain ⟨e1', b1⟩ := run hn m a h.1 (fun z q => hz z (List.mem_append_left _ q)) (by omega)
    obtain ⟨e2', b2⟩ := run hn m b h.2 (fun z q => hz z (List.mem_append_right _ q)) (by omega)
    refine ⟨?_, (b1.add b2).mono (AE.mx (lv_pos a) (lv_pos b))⟩
    show e2 opAdd a.fn b.fn env st = _
    rw [e2_ap, e1', e2a_ok, e2', e2b_ok]; rfl
  | .sub a b, h, hz, hl => by
    have hl' : (a.lv + b.lv) * (n + 1) < 1000000 := hl
    rw [Nat.add_mul] at hl'
    obtain ⟨e1', b1⟩ := run hn m a h.1 (fun z q => hz z (List.mem_append_left _ q)) (by omega)
    obtain ⟨e2', b2⟩ := run hn m b h.2 (fun z q => hz z (List.mem_append_right _ q)) (by omega)
    refine ⟨?_, (b1.sub b2).mono (AE.mx (lv_pos a) (lv_pos b))⟩
    show e2 opSub a.fn b.fn env st = _
    rw [e2_ap, e1', e2a_ok, e2', e2b_ok]; rfl
  | .mul a b, h, hz, hl => by
    have hl' : (a.lv + b.lv) * (n + 1) < 1000000 := hl
    rw [Nat.add_mul] at hl'
    obtain ⟨e1', b1⟩ := run hn m a h.1 (fun z q => hz z (List.mem_append_left _ q)) (by omega)
    obtain ⟨e2', b2⟩ := run hn m b h.2 (fun z q => hz z (List.mem_append_right _ q)) (by omega)
    refine ⟨?_, (b1.mul b2).mono (by show _ ≤ (a.lv + b.lv) * (n + 1); rw [Nat.add_mul]; exact Nat.le_refl _)⟩
    show e2 opMul a.fn b.fn env st = _
    rw [e2_ap, e1', e2a_ok, e2', e2b_ok, opMul_int (mulOk_bz b1 b2 hl')]; rfl
end AX
theorem ev_ar {Γ : DL.Env} (a : AX) (k : Nat) (h : a.vl Γ) (hlv : a.lv = k) (hk : decide (k ≤ 49) = true) : Ev Γ eI a.fn (T.ar a.lvs a.val) := fun env st m => by
  by_cases hz : ∀ z ∈ a.lvs, Sm z
  · rw [T.ar_ok hz]
    refine (AX.run (n := 20000) (by decide) m a h hz ?_).1
    have := of_decide_eq_true hk
    rw [hlv]; omega
  · rw [T.ar_no hz]; exact trivial
/-! ### operators that say nothing at some values -/
namespace T
def div (i j : Int) : T Int := if j ≠ 0 ∧ (j.natAbs < 1073741824 ∨ (0 < j ∧ j.natAbs.log2 < 9000)) then Pure.pure (i.fdiv j) else T.bad
def mod (i j : Int) : T Int := if j ≠ 0 then Pure.pure (i.fmod j) else T.bad
def divP (i j : Int) : T Int := if 0 < j ∧ j < 1073741824 then Pure.pure (i / j) else T.bad
def modP (i j : Int) : T Int := if 0 < j then Pure.pure (i % j) else T.bad
def ix {α : Type} (l : List α) (i : Int) : T α := match atI l i with
  | some a => Pure.pure a
  | none => T.bad
/-- if the condition holds, the value -/
def gd {α : Type} (p : Bool) (v : α) : T α := if p = true then Pure.pure v else T.bad
@[simp] theorem gd_true {α : Type} (v : α) : gd true v = Pure.pure v := rfl
theorem div_pos {i j : Int} (h : 0 < j) (h2 : Bz 9000 j) : div i j = Pure.pure (i / j) := by
  have hc : j ≠ 0 ∧ (j.natAbs < 1073741824 ∨ (0 < j ∧ j.natAbs.log2 < 9000)) := by
    refine ⟨by omega, .inr ⟨h, ?_⟩⟩
    have : j.natAbs ≠ 0 := by omega
    exact (Nat.log2_lt this).mpr h2
  unfold div
  rw [if_pos hc, Int.fdiv_eq_ediv_of_nonneg _ (by omega)]
theorem div_sm {i j : Int} (h : 0 < j) (h2 : j < 1000000000000000000000000) : div i j = Pure.pure (i / j) := div_pos h (Bz.mono (n := 80) (Bz.of (by omega) (by
  have : (1000000000000000000000000 : Int) ≤ 2 ^ 80 := by decide
  omega)) (by decide))
theorem mod_pos {i j : Int} (h : 0 < j) : mod i j = Pure.pure (i % j) := by
  unfold mod
  rw [if_pos (by omega), Int.fmod_eq_emod_of_nonneg _ (by omega)]
theorem divP_ok {i j : Int} (h : 0 < j) (h2 : j < 1073741824) : divP i j = Pure.pure (i / j) := if_pos ⟨h, h2⟩
theorem modP_ok {i j : Int} (h : 0 < j) : modP i j = Pure.pure (i % j) := if_pos h
theorem ix_ok {α : Type} {l : List α} {i : Int} {a : α} (h : atI l i = some a) : ix l i = Pure.pure a := by
  unfold ix; rw [h]
theorem ix_nat {α : Type} {l : List α} {i : Nat} {a : α} (h : l[i]? = some a) : ix l (i : Int) = Pure.pure a := ix_ok (atI_nat h)
end T
section
variable {α : Type} {en : α → PD}
theorem o_div (i j : Int) : O2 opDiv (.int i) (.int j) eI (T.div i j) := fun s => by
  unfold T.div opDiv
  by_cases h : j ≠ 0 ∧ (j.natAbs < 1073741824 ∨ (0 < j ∧ j.natAbs.log2 < 9000))
  · simp only [if_pos h]; exact rfl
  · simp only [if_neg h]; exact trivial
theorem o_mod (i j : Int) : O2 opMod (.int i) (.int j) eI (T.mod i j) := fun s => by
  unfold T.mod opMod
  by_cases h : j ≠ 0
  · simp only [if_pos h]; exact rfl
  · simp only [if_neg h]; exact trivial
theorem o_divP (i j : Int) : O2 opDivP (.int i) (.int j) eI (T.divP i j) := fun s => by
  unfold T.divP opDivP
  by_cases h : 0 < j ∧ j < 1073741824
  · simp only [if_pos h]; exact rfl
  · simp only [if_neg h]; exact trivial
theorem o_modP (i j : Int) : O2 opModP (.int i) (.int j) eI (T.modP i j) := fun s => by
  unfold T.modP opModP
  by_cases h : 0 < j
  · simp only [if_pos h]; exact rfl
  · simp only [if_neg h]; exact trivial
theorem mul_room {i j : Int} (h : Sm i ∧ Sm j) : i.natAbs.log2 + j.natAbs.log2 < 1000000 := by
  have h1 := h.1.bz.log
  have h2 := h.2.bz.log
  omega
theorem o_mul' (i j : Int) (o : Option PD) (e : o = if i.natAbs.log2 + j.natAbs.log2 < 1000000 then some (.int (i * j)) else none) (s : S) : Rf eI (R.ofO o s) (T.ar [i, j] (i * j) s) := by
  by_cases h : ∀ z ∈ [i, j], Sm z
  · have hm := mul_room ⟨h i (List.mem_cons_self ..), h j (List.mem_cons_of_mem _ (List.mem_cons_self ..))⟩
    rw [T.ar_ok h, e, if_pos hm]; exact rfl
  · rw [T.ar_no h]; exact trivial
theorem o_mul (i j : Int) : O2 opMul (.int i) (.int j) eI (T.ar [i, j] (i * j)) := fun s => o_mul' i j (opMul s (.int i) (.int j)) rfl s
theorem o_mulI (i j : Int) : O2 opMulI (.int i) (.int j) eI (T.ar [i, j] (i * j)) := fun s => o_mul' i j (opMulI s (.int i) (.int j)) rfl s
theorem atI_map {α β : Type} (f : α → β) (l : List α) (i : Int) : atI (l.map f) i = (atI l i).map f := by
  unfold atI
  rw [List.length_map]
  cases ixN l.length i with
  | none => rfl
  | some j => exact List.getElem?_map
theorem o_ixL (l : List α) (i : Int) : O2 opIx (eLs en l) (.int i) en (T.ix l i) := fun s => by
  show Rf en (R.ofO (atI (l.map en) i) s) (T.ix l i s)
  unfold T.ix
  rw [atI_map]
  cases atI l i with
  | some a => exact rfl
  | none => exact trivial
theorem o_ixT (l : List α) (i : Int) : O2 opIx (eVT en l) (.int i) en (T.ix l i) := fun s => by
  show Rf en (R.ofO (atI (l.map en) i) s) (T.ix l i s)
  unfold T.ix
  rw [atI_map]
  cases atI l i with
  | some a => exact rfl
  | none => exact trivial
theorem v_div (i k : Int) (h : (decide (0 < k) && decide (k < 1073741824)) = true := by rfl) (s : S) : opDiv s (.int i) (.int k) = some (.int (i / k)) := by
  rw [Bool.and_eq_true] at h
  have h1 := of_decide_eq_true h.1
  have h2 := of_decide_eq_true h.2
  rw [opDiv_int (by omega) (by omega), Int.fdiv_eq_ediv_of_nonneg _ (by omega)]
theorem v_divP (i k : Int) (h : (decide (0 < k) && decide (k < 1073741824)) = true := by rfl) (s : S) : opDivP s (.int i) (.int k) = some (.int (i / k)) := by
  rw [Bool.and_eq_true] at h
  have h1 := of_decide_eq_true h.1
  have h2 := of_decide_eq_true h.2
  unfold opDivP; simp only [if_pos (And.intro h1 h2)]
theorem v_mod (i k : Int) (h : decide (0 < k) = true := by rfl) (s : S) : opMod s (.int i) (.int k) = some (.int (i % k)) := opMod_pos (of_decide_eq_true h)
theorem v_modP (i k : Int) (h : decide (0 < k) = true := by rfl) (s : S) : opModP s (.int i) (.int k) = some (.int (i % k)) := by
  unfold opModP; simp only [if_pos (of_decide_eq_true h)]
/-- two lists, one behind the other -/
def T.cat (l m : List α) : T (List α) := T.gd (decide (l.length + m.length ≤ sizeLine)) (l ++ m)
theorem T.cat_ok {l m : List α} (h : l.length + m.length ≤ 1000000) : T.cat l m = Pure.pure (l ++ m) := by
  unfold T.cat T.gd
  rw [if_pos (decide_eq_true (by rw [sizeLine_eq]; omega))]
theorem o_cat (l m : List α) : O2 opAdd (eLs en l) (eLs en m) (eLs en) (T.cat l m) := fun s => by
  show Rf (eLs en) (R.ofO (if (l.map en).length + (m.map en).length ≤ sizeLine then some (PyData.list (l.map en ++ m.map en)) else none) s) (T.cat l m s)
  unfold T.cat T.gd
  rw [List.length_map, List.length_map]
  by_cases h : l.length + m.length ≤ sizeLine
  · rw [if_pos h, if_pos (decide_eq_true h)]
    show R.ok _ _ = R.ok (PyData.list ((l ++ m).map en)) s
    rw [List.map_append]
  · rw [if_neg h, if_neg (by simpa using h)]; exact trivial
theorem o_catT (l m : List α) : O2 opAdd (eVT en l) (eVT en m) (eVT en) (T.cat l m) := fun s => by
  show Rf (eVT en) (R.ofO (if (l.map en).length + (m.map en).length ≤ sizeLine then some (PyData.tuple (l.map en ++ m.map en)) else none) s) (T.cat l m s)
  unfold T.cat T.gd
  rw [List.length_map, List.length_map]
  by_cases h : l.length + m.length ≤ sizeLine
  · rw [if_pos h, if_pos (decide_eq_true h)]
    show R.ok _ _ = R.ok (PyData.tuple ((l ++ m).map en)) s
    rw [List.map_append]
  · rw [if_neg h, if_neg (by simpa using h)]; exact trivial
/-- one list many times -/
def T.rep (l : List α) (n : Int) : T (List α) := T.gd (smallRep l.length n) (List.replicate n.toNat l).flatten
theorem o_rep (l : List α) (n : Int) : O2 opMul (eLs en l) (.int n) (eLs en) (T.rep l n) := fun s => by
  show Rf (eLs en) (R.ofO (if smallRep (l.map en).length n = true then some (PyData.list (List.replicate n.toNat (l.map en)).flatten) else none) s) (T.rep l n s)
  unfold T.rep T.gd
  rw [List.length_map]
  by_cases h : smallRep l.length n = true
  · rw [if_pos h, if_pos h]
    show R.ok _ _ = R.ok (PyData.list ((List.replicate n.toNat l).flatten.map en)) s
    rw [List.map_flatten, List.map_replicate]
  · rw [if_neg h, if_neg h]; exact trivial
theorem v_isB (neg : Bool) (a b : Bool) (s : S) : opIs neg s (.bool a) (.bool b) = some (.bool (if neg then !decide (a = b) else decide (a = b))) := rfl
theorem v_isN (h : ∀ a, isD (en a) = true) (hn : ∀ a, isNon (en a) = false) (neg : Bool) (o : Option α) (s : S) : opIs neg s (eOp en o) .none = some (.bool (if neg then o.isSome else o.isNone)) := by
  cases o with
  | none => cases neg <;> rfl
  | some a =>
    show opIs neg s (en a) .none = _
    have h1 := h a
    have h2 := hn a
    generalize en a = d at h1 h2 ⊢
    cases d <;> first | (cases h2; done) | (unfold opIs; simp only [h1, if_true, h2]; cases neg <;> rfl) | (cases h1)
/-! built-in calls -/
theorem v_lenL (l : List α) (s : S) : opLen s [eLs en l] = some (.int l.length) := by
  show some (PyData.int ((l.map en).length : Int)) = _
  rw [List.length_map]
theorem v_lenT (l : List α) (s : S) : opLen s [eVT en l] = some (.int l.length) := by
  show some (PyData.int ((l.map en).length : Int)) = _
  rw [List.length_map]
theorem v_lenTp (l : List PD) (s : S) : opLen s [.tuple l] = some (.int l.length) := rfl
theorem v_abs (i : Int) (s : S) : opAbs s [.int i] = some (.int (i.natAbs : Int)) := rfl
theorem v_intI (i : Int) (s : S) : opInt s [.int i] = some (.int i) := rfl
theorem v_intB (k : Bool) (s : S) : opInt s [.bool k] = some (.int (if k = true then 1 else 0)) := by cases k <;> rfl
theorem v_min (i j : Int) (s : S) : opMin2 s [.int i, .int j] = some (.int (min i j)) := rfl
theorem v_max (i j : Int) (s : S) : opMax2 s [.int i, .int j] = some (.int (max i j)) := rfl
theorem v_tupL (l : List α) (s : S) : opTuple s [eLs en l] = some (eVT en l) := rfl
theorem v_tupT (l : List α) (s : S) : opTuple s [eVT en l] = some (eVT en l) := rfl
theorem v_lisL (l : List α) (s : S) : opList s [eLs en l] = some (l.map en) := rfl
theorem v_lisT (l : List α) (s : S) : opList s [eVT en l] = some (l.map en) := rfl
theorem allInts_map : ∀ l : List Int, allInts (l.map eI) = some l
  | [] => rfl
  | x :: l => by
    rw [List.map_cons, allInts, allInts_map l]; rfl
theorem allBools_map : ∀ l : List Bool, allBools (l.map eBo) = some l
  | [] => rfl
  | x :: l => by
    rw [List.map_cons, allBools, allBools_map l]; rfl
theorem v_sum (l : List Int) (s : S) : opSum s [eLs eI l] = some (.int l.sum) := by
  show (allInts (l.map eI)).map _ = _
  rw [allInts_map]; rfl
theorem v_all (l : List Bool) (s : S) : opAll s [eLs eBo l] = some (.bool (l.all id)) := by
  show (allBools (l.map eBo)).map _ = _
  rw [allBools_map]; rfl
theorem v_sortI (l : List Int) (s : S) : opSortI s [eLs eI l] = some ((isort l).map eI) := by
  show (allInts (l.map eI)).map _ = _
  rw [allInts_map]; rfl
theorem v_str (i : Int) (h : i.natAbs.log2 < 1920) (s : S) : opStr s [.int i] = some (.str (toString i)) := if_pos h
def T.str (i : Int) : T Str := T.gd (decide (i.natAbs.log2 < 1920)) (toString i)
theorem o_str (i : Int) (s : S) : Rf eSt (opK opStr [.int i] s) (T.str i s) := by
  show Rf eSt (R.ofO (if i.natAbs.log2 < 1920 then some (PyData.str (toString i)) else none) s) _
  unfold T.str T.gd
  by_cases h : i.natAbs.log2 < 1920
  · rw [if_pos h, if_pos (decide_eq_true h)]; exact rfl
  · rw [if_neg h, if_neg (by simpa using h)]; exact trivial
def T.sortP (l : List (Int × Int)) : T (List (Int × Int)) := T.gd (decide (l.length < 64) && l.all smP) (isortP l)
theorem pr_eq : (eT2 eI eI) = pr := rfl
theorem o_sortP (l : List (Int × Int)) (s : S) : Rf (List.map (eT2 eI eI)) (opNK opSortP [eLs (eT2 eI eI) l] s) (T.sortP l s) := by
  show Rf (List.map (eT2 eI eI)) (R.ofO (match allPairs (l.map pr) with
    | some ns => if (decide (ns.length < 64) && ns.all smP) = true then some ((isortP ns).map pr) else none
    | none => none) s) _
  rw [allPairs_map]
  dsimp only
  unfold T.sortP T.gd
  by_cases h : (decide (l.length < 64) && l.all smP) = true
  · rw [if_pos h, if_pos h]; exact rfl
  · rw [if_neg h, if_neg h]; exact trivial
/-! ### what is gone through -/
def rangeI (lo hi : Int) : List Int := (List.range (hi - lo).toNat).map fun i : Nat => lo + (i : Int)
theorem rangeI_map (lo hi : Int) : (rangeI lo hi).map eI = rangeL lo 1 (hi - lo).toNat := by
  unfold rangeI rangeL
  rw [List.map_map]
  exact List.map_congr_left fun i _ => by show PyData.int _ = PyData.int _; rw [Int.mul_one]
def T.rng1 (n : Int) : T (List Int) := T.gd (rngOk n) (rangeI 0 n)
def T.rng2 (i j : Int) : T (List Int) := T.gd (rngOk i && rngOk j) (rangeI i j)
theorem T.rng1_ok {n : Int} (h1 : -1000000000000 ≤ n) (h2 : n ≤ 1000000000000) : T.rng1 n = Pure.pure (rangeI 0 n) := by
  unfold T.rng1 T.gd rngOk
  rw [if_pos]
  have : (2 : Int) ^ 62 = 4611686018427387904 := by decide
  rw [this]; simp; omega
theorem T.rng2_ok {m n : Int} (h1 : -1000000000000 ≤ m) (h2 : m ≤ 1000000000000) (h3 : -1000000000000 ≤ n) (h4 : n ≤ 1000000000000) : T.rng2 m n = Pure.pure (rangeI m n) := by
  unfold T.rng2 T.gd rngOk
  rw [if_pos]
  have : (2 : Int) ^ 62 = 4611686018427387904 := by decide
  rw [this]; simp; omega
theorem rng1_map {α : Type} (n : Int) (s : S) : Rf (List.map eI) (R.ofO (rng1D [.int n]) s) (T.rng1 n s) := by
  show Rf _ (R.ofO (if rngOk n = true then some (rangeL 0 1 n.toNat) else none) s) _
  unfold T.rng1 T.gd
  by_cases h : rngOk n = true
  · rw [if_pos h, if_pos h]
    show R.ok _ _ = R.ok _ _
    rw [rangeI_map, Int.sub_zero]
  · rw [if_neg h, if_neg h]; exact trivial
theorem rng2_map {α : Type} (m n : Int) (s : S) : Rf (List.map eI) (R.ofO (rng2D [.int m, .int n]) s) (T.rng2 m n s) := by
  show Rf _ (R.ofO (if (rngOk m && rngOk n) = true then some (rangeL m 1 (n - m).toNat) else none) s) _
  unfold T.rng2 T.gd
  by_cases h : (rngOk m && rngOk n) = true
  · rw [if_pos h, if_pos h]
    show R.ok _ _ = R.ok _ _
    rw [rangeI_map]
  · rw [if_neg h, if_neg h]; exact trivial
end
section
variable {Γ : DL.Env} {α β γ δ ρ σ σ' φ : Type} {en : α → PD} {f h : DL.Env → M PD} {fa : DL.Env → M (List PD)} {d e z : PD}
theorem vl_itL {ds : List PD} (h1 : Vl Γ (.list ds) f) : Vl Γ ds (iAny f) := fun env st m => by
  rw [iAny_ap, h1 env st m, iAa_ok]; rfl
theorem vl_itT {ds : List PD} (h1 : Vl Γ (.tuple ds) f) : Vl Γ ds (iAny f) := fun env st m => by
  rw [iAny_ap, h1 env st m, iAa_ok]; rfl
theorem ev_itL {t : T (List α)} (h1 : Ev Γ (eLs en) f t) : Ev Γ (List.map en) (iAny f) t := fun env st m => by
  have := h1 env st m
  rw [iAny_ap]
  cases q : t st with
  | ok a s => rw [q] at this; rw [show f env st = .ok (eLs en a) s from this]; exact rfl
  | ex c s => rw [q] at this; rw [show f env st = .ex c s from this]; exact rfl
  | bad => exact trivial
theorem ev_itT {t : T (List α)} (h1 : Ev Γ (eVT en) f t) : Ev Γ (List.map en) (iAny f) t := fun env st m => by
  have := h1 env st m
  rw [iAny_ap]
  cases q : t st with
  | ok a s => rw [q] at this; rw [show f env st = .ok (eVT en a) s from this]; exact rfl
  | ex c s => rw [q] at this; rw [show f env st = .ex c s from this]; exact rfl
  | bad => exact trivial
abbrev itK (r : List PD → Option (List PD)) : List PD → M (List PD) := fun ds s => R.ofO (r ds) s
theorem ev_rng {r : List PD → Option (List PD)} {g : γ → List PD} {t : T γ} (hc : Ca Γ fa (itK r) g t) : Ev Γ g (iRng r fa) t := fun env st m => hc env st m
theorem vl_rng1 (k : Int) (hk : Vl Γ [.int k] fa) (h : rngOk k = true := by rfl) : Vl Γ ((rangeI 0 k).map eI) (iRng rng1D fa) := fun env st m => by
  rw [iRng_ap, hk env st m, iRa_ok]
  show R.ofO (if rngOk k = true then some (rangeL 0 1 k.toNat) else none) st = _
  rw [if_pos h, rangeI_map, Int.sub_zero]; rfl
/-! ### targets -/
def Tg (Γ : DL.Env) (tg : PD → DL.Env → Option DL.Env) (d : PD) (Γ' : DL.Env) : Prop := ∀ env, Mt Γ env → ∃ env', tg d env = some env' ∧ Mt Γ' env'
def Tgs (Γ : DL.Env) (tg : List PD → DL.Env → Option DL.Env) (d : List PD) (Γ' : DL.Env) : Prop := ∀ env, Mt Γ env → ∃ env', tg d env = some env' ∧ Mt Γ' env'
theorem tg_n {i : Nat} : Tg Γ (tgN i) d (Γ.set i (some (.v d))) := fun env m => ⟨_, rfl, m.set i _⟩
theorem tgs_nil : Tgs Γ tgsNil [] Γ := fun env m => ⟨_, rfl, m⟩
theorem tgs_cons {Γ1 Γ2 : DL.Env} {tg : PD → DL.Env → Option DL.Env} {tgs : List PD → DL.Env → Option DL.Env} {ds : List PD} (h1 : Tg Γ tg d Γ1) (h2 : Tgs Γ1 tgs ds Γ2) : Tgs Γ (tgsCons tg tgs) (d :: ds) Γ2 := fun env m => by
  obtain ⟨e1, q1, m1⟩ := h1 env m
  obtain ⟨e2, q2, m2⟩ := h2 e1 m1
  exact ⟨e2, by rw [tgsCons_ap, q1]; exact q2, m2⟩
theorem tg_t {n : Nat} {Γ1 : DL.Env} {tgs : List PD → DL.Env → Option DL.Env} {ds : List PD} (h2 : Tgs Γ tgs ds Γ1) (hl : ds.length = n := by rfl) : Tg Γ (tgT n tgs) (.tuple ds) Γ1 := fun env m => by
  obtain ⟨e2, q2, m2⟩ := h2 env m
  exact ⟨e2, (show (if ds.length = n then tgs ds env else none) = some e2 by rw [if_pos hl]; exact q2), m2⟩
theorem tg_l {n : Nat} {Γ1 : DL.Env} {tgs : List PD → DL.Env → Option DL.Env} {ds : List PD} (h2 : Tgs Γ tgs ds Γ1) (hl : ds.length = n := by rfl) : Tg Γ (tgT n tgs) (.list ds) Γ1 := fun env m => by
  obtain ⟨e2, q2, m2⟩ := h2 env m
  exact ⟨e2, (show (if ds.length = n then tgs ds env else none) = some e2 by rw [if_pos hl]; exact q2), m2⟩
/-! ### comprehensions -/
namespace T
def compGo (c : α → T Bool) (e : α → T β) : List α → T (List β)
  | [] => Pure.pure []
  | a :: l => nox (c a) >>= fun b => if b = true then nox (e a) >>= fun y => compGo c e l >>= fun r => Pure.pure (y :: r) else compGo c e l
def comp (l : List α) (c : α → T Bool) (e : α → T β) : T (List β) := if l.length ≤ 10000000 then compGo c e l else T.bad
/-- of values alone -/
def cmp (l : List α) (c : α → Bool) (e : α → β) : T (List β) := if l.length ≤ 10000000 then Pure.pure ((l.filter c).map e) else T.bad
def mp (l : List α) (e : α → β) : T (List β) := if l.length ≤ 10000000 then Pure.pure (l.map e) else T.bad
theorem cmp_ok {l : List α} {c : α → Bool} {e : α → β} (h : l.length ≤ 10000000) : cmp l c e = Pure.pure ((l.filter c).map e) := if_pos h
theorem mp_ok {l : List α} {e : α → β} (h : l.length ≤ 10000000) : mp l e = Pure.pure (l.map e) := if_pos h
theorem comp_pure {l : List α} {c : α → T Bool} {e : α → T β} {c' : α → Bool} {e' : α → β} (hc : ∀ a ∈ l, c a = Pure.pure (c' a)) (he : ∀ a ∈ l, c' a = true → e a = Pure.pure (e' a)) (h : l.length ≤ 10000000) : comp l c e = Pure.pure ((l.filter c').map e') := by
  unfold comp
  rw [if_pos h]
  clear h
  induction l with
  | nil => rfl
  | cons a l ih =>
    have i := ih (fun x m => hc x (List.mem_cons_of_mem _ m)) (fun x m => he x (List.mem_cons_of_mem _ m))
    unfold compGo
    rw [hc a (List.mem_cons_self ..), nox_pure, ret_bind]
    cases q : c' a with
    | true => rw [if_pos rfl, he a (List.mem_cons_self ..) q, nox_pure, ret_bind, i, ret_bind, List.filter_cons_of_pos q, List.map_cons]
    | false => rw [if_neg (by decide), i, List.filter_cons_of_neg (by simp [q])]
theorem comp_all {l : List α} {e : α → T β} {e' : α → β} (he : ∀ a ∈ l, e a = Pure.pure (e' a)) (h : l.length ≤ 10000000) : comp l (fun _ => Pure.pure true) e = Pure.pure (l.map e') := by
  rw [comp_pure (c' := fun _ => true) (e' := e') (fun _ _ => rfl) (fun a m _ => he a m) h, List.filter_eq_self.mpr (fun _ _ => rfl)]
end T
theorem compGo_ev {Γ' : α → DL.Env} {tg : PD → DL.Env → Option DL.Env} {tf : DL.Env → M Bool} {ef : DL.Env → M PD} {ea : α → PD} {eb : β → PD} {c : α → T Bool} {k : α → T β} (ht : ∀ a, Tg Γ tg (ea a) (Γ' a)) (hc : ∀ a, Ev (Γ' a) id tf (c a)) (he : ∀ a, Ev (Γ' a) eb ef (k a)) (hb : ∀ b, isD (eb b) = true) {env : DL.Env} (m : Mt Γ env) :
    ∀ (l : List α) (st : S), Rf (List.map eb) (DL.compGo env tg tf ef (l.map ea) st) (T.compGo c k l st)
  | [], st => rfl
  | a :: l, st => by
    obtain ⟨env', e1, m1⟩ := ht a env m
    have ih := compGo_ev ht hc he hb m l
    rw [List.map_cons]
    unfold DL.compGo T.compGo
    rw [e1]
    show Rf _ ((tf env' st).noex.bind _) (((c a) st).noex.bind _)
    refine (hc a env' st m1).noex.bind fun b s => ?_
    cases b with
    | false => exact ih s
    | true =>
      show Rf _ ((ef env' s).noex.bind _) (((k a) s).noex.bind _)
      refine (he a env' s m1).noex.bind fun y s2 => ?_
      rw [if_pos (hb y)]
      exact (ih s2).bind fun r s3 => rfl
theorem ev_comp {Γ' : α → DL.Env} {tg : PD → DL.Env → Option DL.Env} {tf : DL.Env → M Bool} {ef : DL.Env → M PD} {vs : List Nat} {ea : α → PD} {eb : β → PD} {c : α → T Bool} {k : α → T β} {tl : T (List α)} (hi : Ev Γ (List.map ea) fa tl) (ht : ∀ a, Tg (wipeE Γ vs) tg (ea a) (Γ' a)) (hc : ∀ a, Ev (Γ' a) id tf (c a)) (he : ∀ a, Ev (Γ' a) eb ef (k a)) (hb : ∀ b, isD (eb b) = true := by exact fun _ => rfl) :
    Ev Γ (List.map eb) (nComp fa tg tf ef vs) (tl >>= fun l => T.comp l c k) := fun env st m => by
  show Rf _ ((fa env st).bind _) ((tl st).bind _)
  refine (hi env st m).bind fun l s => ?_
  show Rf _ _ (T.comp l c k s)
  unfold T.comp
  rw [List.length_map]
  by_cases hl : l.length ≤ 10000000
  · rw [if_pos hl, if_pos hl]
    exact compGo_ev ht hc he hb (m.wipe vs) l s
  · rw [if_neg hl, if_neg hl]; exact trivial
theorem ev_compv {Γ' : α → DL.Env} {tg : PD → DL.Env → Option DL.Env} {tf : DL.Env → M Bool} {ef : DL.Env → M PD} {vs : List Nat} {ea : α → PD} {eb : β → PD} {c : α → T Bool} {k : α → T β} {l : List α} (hi : Vl Γ (l.map ea) fa) (ht : ∀ a, Tg (wipeE Γ vs) tg (ea a) (Γ' a)) (hc : ∀ a, Ev (Γ' a) id tf (c a)) (he : ∀ a, Ev (Γ' a) eb ef (k a)) (hb : ∀ b, isD (eb b) = true := by exact fun _ => rfl) :
    Ev Γ (List.map eb) (nComp fa tg tf ef vs) (T.comp l c k) := ev_comp (tl := Pure.pure l) (Vl.ev (g := List.map ea) hi) ht hc he hb
theorem ev_cmp {Γ' : α → DL.Env} {tg : PD → DL.Env → Option DL.Env} {tf : DL.Env → M Bool} {ef : DL.Env → M PD} {vs : List Nat} {ea : α → PD} {eb : β → PD} {c : α → Bool} {k : α → β} {l : List α} (hi : Vl Γ (l.map ea) fa) (ht : ∀ a, Tg (wipeE Γ vs) tg (ea a) (Γ' a)) (hc : ∀ a, Vl (Γ' a) (c a) tf) (he : ∀ a, Vl (Γ' a) (eb (k a)) ef) (hb : ∀ b, isD (eb b) = true := by exact fun _ => rfl) :
    Ev Γ (List.map eb) (nComp fa tg tf ef vs) (T.cmp l c k) := fun env st m => by
  have := ev_compv hi ht (fun a => Vl.ev (g := id) (hc a)) (fun a => Vl.ev (he a)) hb env st m
  unfold T.cmp
  by_cases hl : l.length ≤ 10000000
  · rw [if_pos hl]
    rw [T.comp_pure (c' := c) (e' := k) (fun _ _ => rfl) (fun _ _ _ => rfl) hl] at this
    exact this
  · rw [if_neg hl]; exact trivial
theorem ev_mp {Γ' : α → DL.Env} {tg : PD → DL.Env → Option DL.Env} {ef : DL.Env → M PD} {vs : List Nat} {ea : α → PD} {eb : β → PD} {k : α → β} {l : List α} (hi : Vl Γ (l.map ea) fa) (ht : ∀ a, Tg (wipeE Γ vs) tg (ea a) (Γ' a)) (he : ∀ a, Vl (Γ' a) (eb (k a)) ef) (hb : ∀ b, isD (eb b) = true := by exact fun _ => rfl) :
    Ev Γ (List.map eb) (nComp fa tg tYesF ef vs) (T.mp l k) := fun env st m => by
  have := ev_cmp (c := fun _ => true) hi ht (fun a => (fun _ _ _ => rfl)) he hb env st m
  unfold T.cmp at this
  unfold T.mp
  by_cases hl : l.length ≤ 10000000
  · rw [if_pos hl] at this ⊢
    rw [List.filter_eq_self.mpr (fun _ _ => rfl)] at this
    exact this
  · rw [if_neg hl]; exact trivial
theorem ev_yes : Ev Γ id tYesF (Pure.pure true) := fun _ _ _ => rfl
/-! ### statements -/
inductive Fl (σ ρ : Type) where
  | nx (x : σ)
  | ct (x : σ)
  | bk (x : σ)
  | rt (v : ρ)
/-- what a statement may do: P says what each outcome looks like -/
def Oc (X : DL.Env → Prop) (P : φ → S → RS → Prop) (r : RS) (q : R φ) : Prop := match q with
  | .ok x s => P x s r
  | .ex c s => ∃ e, r = .ok (.ex c e) s ∧ X e
  | .bad => True
def Sg (X : DL.Env → Prop) (Γ : DL.Env) (P : φ → S → RS → Prop) (g : MS) (t : T φ) : Prop := ∀ env st, Mt Γ env → Oc X P (g env st) (t st)
def Sv (Γ : DL.Env) (g : MS) (Γ' : DL.Env) : Prop := ∀ env st, Mt Γ env → ∃ e, g env st = .ok (.nx e) st ∧ Mt Γ' e
/-- falls through with an environment told by the value -/
def Pn (G : σ → DL.Env) : σ → S → RS → Prop := fun x s r => ∃ e, r = .ok (.nx e) s ∧ Mt (G x) e
def Pf (en : ρ → PD) : ρ → S → RS → Prop := fun v s r => r = .ok (.rt (en v)) s
def Pl (G : σ → DL.Env) (en : ρ → PD) : Fl σ ρ → S → RS → Prop := fun x s r => match x with
  | .nx x => ∃ e, r = .ok (.nx e) s ∧ Mt (G x) e
  | .ct x => ∃ e, r = .ok (.ct e) s ∧ Mt (G x) e
  | .bk x => ∃ e, r = .ok (.bk e) s ∧ Mt (G x) e
  | .rt v => r = .ok (.rt (en v)) s
/-- and does not fall through -/
def Lv (P : φ → S → RS → Prop) : φ → S → RS → Prop := fun x s r => P x s r ∧ ∀ e s', r ≠ .ok (.nx e) s'
variable {X : DL.Env → Prop} {P : φ → S → RS → Prop} {g g2 : MS} {t : T φ} {G : σ → DL.Env}
theorem sg_unlv (h1 : Sg X Γ (Lv P) g t) : Sg X Γ P g t := fun env st m => by
  have := h1 env st m
  cases q : t st with
  | ok x s => rw [q] at this; exact this.1
  | ex c s => rw [q] at this; exact this
  | bad => exact trivial
abbrev InX (X : DL.Env → Prop) (Γ : DL.Env) : Prop := ∀ env, Mt Γ env → X env
abbrev X0 : DL.Env → Prop := fun _ => True
theorem inx0 : InX X0 Γ := fun _ _ => trivial
theorem inx_sub {Γx : DL.Env} (h : Sub Γx Γ) : InX (Mt Γx) Γ := fun env m => m.sub h
theorem Mt.inx {env : DL.Env} (m : Mt Γ env) (hx : InX X Γ) : X env := hx env m
/-! one after another -/
theorem sg_v {Γ1 : DL.Env} (h1 : Sv Γ g Γ1) (h2 : Sg X Γ1 P g2 t) : Sg X Γ P (sSeq g g2) t := fun env st m => by
  obtain ⟨e, q, m1⟩ := h1 env st m
  rw [seq_nx q]
  exact h2 e st m1
theorem sg_let {Γ1 : σ → DL.Env} {a : σ} {k : σ → T φ} (h1 : Sv Γ g (Γ1 a)) (h2 : ∀ x, Sg X (Γ1 x) P g2 (k x)) : Sg X Γ P (sSeq g g2) (k a) := sg_v h1 (h2 a)
theorem sg_seq {Γ1 : σ → DL.Env} {t1 : T σ} {k : σ → T φ} (h1 : Sg X Γ (Pn Γ1) g t1) (h2 : ∀ x, Sg X (Γ1 x) P g2 (k x)) : Sg X Γ P (sSeq g g2) (t1 >>= k) := fun env st m => by
  have := h1 env st m
  show Oc X P (sSeq g g2 env st) ((t1 st).bind fun a s => k a s)
  cases q : t1 st with
  | ok x s =>
    rw [q] at this
    obtain ⟨e, q2, m1⟩ := this
    show Oc X P (sSeq g g2 env st) (k x s)
    rw [seq_nx q2]
    exact h2 x e s m1
  | ex c s =>
    rw [q] at this
    obtain ⟨e, q2, m1⟩ := this
    exact ⟨e, seq_ex q2, m1⟩
  | bad => exact trivial
/-- a statement that may leave, and what comes behind it -/
def T.next {σ ρ φ : Type} (r : Fl σ ρ) (k : σ → T φ) (ret : ρ → φ) : T φ := match r with
  | .nx x => k x
  | .rt v => Pure.pure (ret v)
  | _ => T.bad
@[simp] theorem T.next_nx {σ ρ φ : Type} (x : σ) (k : σ → T φ) (ret : ρ → φ) : T.next (.nx x) k ret = k x := rfl
@[simp] theorem T.next_rt {σ ρ φ : Type} (v : ρ) (k : σ → T φ) (ret : ρ → φ) : T.next (.rt v) k ret = Pure.pure (ret v) := rfl
theorem sg_fl {Γ1 : σ → DL.Env} {en : ρ → PD} {t1 : T (Fl σ ρ)} {k : σ → T φ} {ret : ρ → φ} (h1 : Sg X Γ (Pl Γ1 en) g t1) (h2 : ∀ x, Sg X (Γ1 x) P g2 (k x)) (hr : ∀ v s, P (ret v) s (.ok (.rt (en v)) s)) : Sg X Γ P (sSeq g g2) (t1 >>= fun r => T.next r k ret) := fun env st m => by
  have := h1 env st m
  show Oc X P (sSeq g g2 env st) ((t1 st).bind fun a s => T.next a k ret s)
  cases q : t1 st with
  | ok x s =>
    rw [q] at this
    cases x with
    | nx x =>
      obtain ⟨e, q2, m1⟩ := this
      show Oc X P (sSeq g g2 env st) (k x s)
      rw [seq_nx q2]
      exact h2 x e s m1
    | rt v =>
      show P (ret v) s (sSeq g g2 env st)
      rw [seq_rt this]
      exact hr v s
    | ct x => exact trivial
    | bk x => exact trivial
  | ex c s =>
    rw [q] at this
    obtain ⟨e, q2, m1⟩ := this
    exact ⟨e, seq_ex q2, m1⟩
  | bad => exact trivial
/-! values set -/
theorem sv_skip : Sv Γ sSkip Γ := fun env st m => ⟨env, rfl, m⟩
theorem sv_set {i : Nat} (h1 : Vl Γ d f) : Sv Γ (sSet i f) (Γ.set i (some (.v d))) := fun env st m => ⟨_, set_ok (h1 env st m), m.set i _⟩
theorem sv_asg {tg : PD → DL.Env → Option DL.Env} {Γ' : DL.Env} (h1 : Vl Γ d f) (h2 : Tg Γ tg d Γ') : Sv Γ (sAsg f tg) Γ' := fun env st m => by
  obtain ⟨e, q, m1⟩ := h2 env m
  exact ⟨e, by rw [sAsg_ap, h1 env st m, asgA_ok, q]; rfl, m1⟩
theorem sv_par2 {i j : Nat} (h1 : Vl Γ [d, e] fa) : Sv Γ (sPar2 i j fa) ((Γ.set i (some (.v d))).set j (some (.v e))) := fun env st m => ⟨_, by rw [sPar2_ap, h1 env st m, par2A_ok], (m.set i _).set j _⟩
theorem sv_par3 {i j l : Nat} (h1 : Vl Γ [d, e, z] fa) : Sv Γ (sPar3 i j l fa) (((Γ.set i (some (.v d))).set j (some (.v e))).set l (some (.v z))) := fun env st m => ⟨_, by rw [sPar3_ap, h1 env st m, par3A_ok], ((m.set i _).set j _).set l _⟩
theorem sv_new {i : Nat} {ds : List PD} (h1 : Vl Γ ds fa) : Sv Γ (sNew i fa) (Γ.set i (some (.o ds))) := fun env st m => ⟨_, by rw [sNew_ap, h1 env st m, newA_ok], m.set i _⟩
theorem sv_aug {i : Nat} {op : S → PD → PD → Option PD} (hg : Γ[i]? = some (some (.v d))) (h1 : Vl Γ e f) (ho : ∀ s, op s d e = some z) : Sv Γ (sAug i op f) (Γ.set i (some (.v z))) := fun env st m => ⟨_, by rw [sAug_at (m.2 i _ hg), h1 env st m, augC_ok, ho st]; rfl, m.set i _⟩
theorem sv_expr (h1 : Vl Γ d f) : Sv Γ (sExpr f) Γ := fun env st m => ⟨_, by rw [sExpr_ap, h1 env st m, exprA_ok], m⟩
/-! the same with something to be reckoned first -/
theorem Sg.of1 {g1 : α → β} {k : DL.Env → M β} {t1 : T α} {body : DL.Env → β → S → RS} {Γ1 : α → DL.Env} (h1 : Ev Γ g1 k t1) (hx : InX X Γ) (hb : ∀ env a s, Mt Γ env → ∃ e, body env (g1 a) s = .ok (.nx e) s ∧ Mt (Γ1 a) e) : Sg X Γ (Pn Γ1) (fun env st => RS.of env (k env st) (body env)) t1 := fun env st m => by
  have := h1 env st m
  cases q : t1 st with
  | ok a s =>
    rw [q] at this
    obtain ⟨e, e1, m1⟩ := hb env a s m
    refine ⟨e, ?_, m1⟩
    show RS.of env (k env st) (body env) = _
    rw [show k env st = .ok (g1 a) s from this]
    exact e1
  | ex c s =>
    rw [q] at this
    refine ⟨env, ?_, m.inx hx⟩
    show RS.of env (k env st) (body env) = _
    rw [show k env st = .ex c s from this]
  | bad => exact trivial
theorem s1_set {i : Nat} {g1 : α → PD} {t1 : T α} (h1 : Ev Γ g1 f t1) (hx : InX X Γ) : Sg X Γ (Pn fun a => Γ.set i (some (.v (g1 a)))) (sSet i f) t1 := Sg.of1 (body := fun env d s => .ok (.nx (env.set i (some (.v d)))) s) h1 hx fun env a s m => ⟨_, rfl, m.set i _⟩
theorem s1_asg {tg : PD → DL.Env → Option DL.Env} {g1 : α → PD} {t1 : T α} {Γ1 : α → DL.Env} (h1 : Ev Γ g1 f t1) (h2 : ∀ a, Tg Γ tg (g1 a) (Γ1 a)) (hx : InX X Γ) : Sg X Γ (Pn Γ1) (sAsg f tg) t1 := Sg.of1 (body := fun env d s => match tg d env with
  | some env' => .ok (.nx env') s
  | none => .bad) h1 hx fun env a s m => by
    obtain ⟨e, q, m1⟩ := h2 a env m
    exact ⟨e, by rw [q], m1⟩
theorem s1_par2 {i j : Nat} {g1 : α → PD} {g2 : β → PD} {t1 : T (α × β)} (h1 : Ev Γ (fun p : α × β => [g1 p.1, g2 p.2]) fa t1) (hx : InX X Γ) : Sg X Γ (Pn fun p => (Γ.set i (some (.v (g1 p.1)))).set j (some (.v (g2 p.2)))) (sPar2 i j fa) t1 := Sg.of1 (body := fun env ds s => match ds with
  | [d, e] => .ok (.nx ((env.set i (some (.v d))).set j (some (.v e)))) s
  | _ => .bad) h1 hx fun env a s m => ⟨_, rfl, (m.set i _).set j _⟩
theorem s1_par3 {i j l : Nat} {g1 : α → PD} {g2 : β → PD} {g3 : γ → PD} {t1 : T (α × β × γ)} (h1 : Ev Γ (fun p : α × β × γ => [g1 p.1, g2 p.2.1, g3 p.2.2]) fa t1) (hx : InX X Γ) : Sg X Γ (Pn fun p => ((Γ.set i (some (.v (g1 p.1)))).set j (some (.v (g2 p.2.1)))).set l (some (.v (g3 p.2.2)))) (sPar3 i j l fa) t1 := Sg.of1 (body := fun env ds s => match ds with
  | [d, e, g] => .ok (.nx (((env.set i (some (.v d))).set j (some (.v e))).set l (some (.v g)))) s
  | _ => .bad) h1 hx fun env a s m => ⟨_, rfl, ((m.set i _).set j _).set l _⟩
theorem s1_new {i : Nat} {g1 : α → List PD} {t1 : T α} (h1 : Ev Γ g1 fa t1) (hx : InX X Γ) : Sg X Γ (Pn fun a => Γ.set i (some (.o (g1 a)))) (sNew i fa) t1 := Sg.of1 (body := fun env d s => .ok (.nx (env.set i (some (.o d)))) s) h1 hx fun env a s m => ⟨_, rfl, m.set i _⟩
theorem s1_expr {g1 : α → PD} {t1 : T α} (h1 : Ev Γ g1 f t1) (hx : InX X Γ) : Sg X Γ (Pn fun _ => Γ) (sExpr f) t1 := Sg.of1 (body := fun env d s => .ok (.nx env) s) h1 hx fun env a s m => ⟨_, rfl, m⟩
/-- x op= value, where the operator may say nothing -/
theorem s1_augv {i : Nat} {op : S → PD → PD → Option PD} {g1 : α → PD} {t1 : T α} (hg : Γ[i]? = some (some (.v d))) (h1 : Vl Γ e f) (ho : O2 op d e g1 t1) (hx : InX X Γ) : Sg X Γ (Pn fun a => Γ.set i (some (.v (g1 a)))) (sAug i op f) t1 := fun env st m => by
  have := ho st
  rw [sAug_at (m.2 i _ hg), h1 env st m, augC_ok]
  cases q : t1 st with
  | ok a s =>
    rw [q] at this
    cases q2 : op st d e with
    | none => rw [q2] at this; cases this
    | some z =>
      rw [q2] at this
      cases this
      exact ⟨_, rfl, m.set i _⟩
  | ex c s =>
    rw [q] at this
    cases q2 : op st d e with
    | none => rw [q2] at this; cases this
    | some z => rw [q2] at this; cases this
  | bad => exact trivial
theorem s1_aug {i : Nat} {op : S → PD → PD → Option PD} {g2 : β → PD} {g1 : α → PD} {t2 : T β} {o : β → T α} (hg : Γ[i]? = some (some (.v d))) (h1 : Ev Γ g2 f t2) (ho : ∀ b, O2 op d (g2 b) g1 (o b)) (hx : InX X Γ) : Sg X Γ (Pn fun a => Γ.set i (some (.v (g1 a)))) (sAug i op f) (t2 >>= o) := fun env st m => by
  have h1 := h1 env st m
  rw [sAug_at (m.2 i _ hg)]
  show Oc X (Pn (fun a => Γ.set i (some (.v (g1 a))))) (augC i op d env (f env st)) ((t2 st).bind fun a s => o a s)
  cases q0 : t2 st with
  | bad => exact trivial
  | ex c s =>
    rw [q0] at h1
    rw [show f env st = .ex c s from h1]
    exact ⟨env, rfl, m.inx hx⟩
  | ok b s0 =>
    rw [q0] at h1
    rw [show f env st = .ok (g2 b) s0 from h1, augC_ok]
    have := ho b s0
    show Oc X (Pn (fun a => Γ.set i (some (.v (g1 a))))) (augD i env (op s0 d (g2 b)) s0) (o b s0)
    cases q : o b s0 with
    | ok a s =>
      rw [q] at this
      cases q2 : op s0 d (g2 b) with
      | none => rw [q2] at this; cases this
      | some z =>
        rw [q2] at this
        cases this
        exact ⟨_, rfl, m.set i _⟩
    | ex c s =>
      rw [q] at this
      cases q2 : op s0 d (g2 b) with
      | none => rw [q2] at this; cases this
      | some z => rw [q2] at this; cases this
    | bad => exact trivial
/-- xs.append(a), xs.extend(l) -/
def T.app {α : Type} (l : List α) (a : α) : T (List α) := T.gd (decide (l.length ≤ 10000000)) (l ++ [a])
def T.ext {α : Type} (l m : List α) : T (List α) := T.gd (decide (l.length + m.length ≤ 10000000)) (l ++ m)
theorem T.app_ok {α : Type} {l : List α} {a : α} (h : l.length ≤ 10000000) : T.app l a = Pure.pure (l ++ [a]) := by
  unfold T.app; rw [decide_eq_true h]; rfl
theorem T.ext_ok {α : Type} {l m : List α} (h : l.length + m.length ≤ 10000000) : T.ext l m = Pure.pure (l ++ m) := by
  unfold T.ext; rw [decide_eq_true h]; rfl
theorem s1_app {i : Nat} {ea : α → PD} {l : List α} {t1 : T α} (hg : Γ[i]? = some (some (.o (l.map ea)))) (h1 : Ev Γ ea f t1) (hx : InX X Γ) (hd : ∀ a, isD (ea a) = true := by exact fun _ => rfl) : Sg X Γ (Pn fun r : List α => Γ.set i (some (.o (r.map ea)))) (sApp i f) (t1 >>= fun a => T.app l a) := fun env st m => by
  have h1 := h1 env st m
  rw [sApp_at (m.2 i _ hg)]
  show Oc X (Pn (fun r : List α => Γ.set i (some (.o (r.map ea))))) (appA i (l.map ea) env (f env st)) ((t1 st).bind fun a s => T.app l a s)
  cases q0 : t1 st with
  | bad => exact trivial
  | ex c s =>
    rw [q0] at h1
    rw [show f env st = .ex c s from h1]
    exact ⟨env, rfl, m.inx hx⟩
  | ok b s0 =>
    rw [q0] at h1
    rw [show f env st = .ok (ea b) s0 from h1]
    by_cases hl : l.length ≤ 10000000
    · rw [appA_ok (hd b) (by rw [List.length_map]; exact hl)]
      show Oc X (Pn (fun r : List α => Γ.set i (some (.o (r.map ea))))) _ (T.app l b s0)
      rw [T.app_ok hl]
      refine ⟨_, rfl, ?_⟩
      have := m.set i (.o (l.map ea ++ [ea b]))
      show Mt (Γ.set i (some (.o ((l ++ [b]).map ea)))) _
      rw [show (l ++ [b]).map ea = l.map ea ++ [ea b] by rw [List.map_append]; rfl]
      exact this
    · show Oc X (Pn (fun r : List α => Γ.set i (some (.o (r.map ea))))) _ (T.app l b s0)
      unfold T.app
      rw [decide_eq_false hl]
      exact trivial
theorem s1_appv {i : Nat} {ea : α → PD} {l : List α} {a : α} (hg : Γ[i]? = some (some (.o (l.map ea)))) (h1 : Vl Γ (ea a) f) (hx : InX X Γ) (hd : ∀ a, isD (ea a) = true := by exact fun _ => rfl) : Sg X Γ (Pn fun r : List α => Γ.set i (some (.o (r.map ea)))) (sApp i f) (T.app l a) := s1_app (t1 := Pure.pure a) hg (Vl.ev h1) hx hd
theorem s1_ext {i : Nat} {ea : α → PD} {l : List α} {t1 : T (List α)} (hg : Γ[i]? = some (some (.o (l.map ea)))) (h1 : Ev Γ (eLs ea) f t1) (hx : InX X Γ) : Sg X Γ (Pn fun r : List α => Γ.set i (some (.o (r.map ea)))) (sExt i f) (t1 >>= fun a => T.ext l a) := fun env st m => by
  have h1 := h1 env st m
  rw [sExt_at (m.2 i _ hg)]
  show Oc X (Pn (fun r : List α => Γ.set i (some (.o (r.map ea))))) (extA i (l.map ea) env (f env st)) ((t1 st).bind fun a s => T.ext l a s)
  cases q0 : t1 st with
  | bad => exact trivial
  | ex c s =>
    rw [q0] at h1
    rw [show f env st = .ex c s from h1]
    exact ⟨env, rfl, m.inx hx⟩
  | ok b s0 =>
    rw [q0] at h1
    rw [show f env st = .ok (.list (b.map ea)) s0 from h1]
    by_cases hl : l.length + b.length ≤ 10000000
    · rw [extA_ok (by rw [List.length_map, List.length_map]; exact hl)]
      show Oc X (Pn (fun r : List α => Γ.set i (some (.o (r.map ea))))) _ (T.ext l b s0)
      rw [T.ext_ok hl]
      refine ⟨_, rfl, ?_⟩
      have := m.set i (.o (l.map ea ++ b.map ea))
      show Mt (Γ.set i (some (.o ((l ++ b).map ea)))) _
      rw [List.map_append]
      exact this
    · show Oc X (Pn (fun r : List α => Γ.set i (some (.o (r.map ea))))) _ (T.ext l b s0)
      unfold T.ext
      rw [decide_eq_false hl]
      exact trivial
theorem sg_frz {i : Nat} {ds : List PD} (hg : Γ[i]? = some (some (.o ds))) (h1 : Sg X (Γ.set i (some (.v (.list ds)))) P g t) : Sg X Γ P (sFrz i g) t := fun env st m => by
  have := h1 (env.set i (some (.v (.list ds)))) st (m.set i _)
  rw [sFrz_at (m.2 i _ hg)]
  exact this
/-- what was frozen already -/
theorem sg_frzv {i : Nat} (hg : Γ[i]? = some (some (.v d))) (h1 : Sg X Γ P g t) : Sg X Γ P (sFrz i g) t := fun env st m => by
  have := h1 env st m
  have e : sFrz i g env st = g env st := by unfold sFrz; rw [m.2 i _ hg]
  rw [e]
  exact this
/-! if -/
variable {c : DL.Env → M Bool} {b : Bool} {tb : T Bool} {x y : T φ}
theorem sg_ifv (hc : Vl Γ b c) (h1 : Sg X Γ P g x) (h2 : Sg X Γ P g2 y) : Sg X Γ P (sIf c g g2) (if b = true then x else y) := fun env st m => by
  rw [sIf_ap, hc env st m]
  cases b with
  | true => exact h1 env st m
  | false => exact h2 env st m
theorem sg_if (hc : Ev Γ id c tb) (hx : InX X Γ) (h1 : Sg X Γ P g x) (h2 : Sg X Γ P g2 y) : Sg X Γ P (sIf c g g2) (tb >>= fun b => if b = true then x else y) := fun env st m => by
  have hc := hc env st m
  rw [sIf_ap]
  show Oc X P (ifA g g2 env (c env st)) ((tb st).bind fun (b : Bool) s => (if b = true then x else y) s)
  cases q : tb st with
  | ok b s =>
    rw [q] at hc
    rw [show c env st = .ok b s from hc]
    cases b with
    | true => exact h1 env s m
    | false => exact h2 env s m
  | ex k s =>
    rw [q] at hc
    rw [show c env st = .ex k s from hc]
    exact ⟨env, rfl, m.inx hx⟩
  | bad => exact trivial
/-- the first branch leaves: what comes behind belongs to the second -/
theorem seq_lv {g g2 : MS} {env : DL.Env} {st : S} (h : ∀ e s', g env st ≠ .ok (.nx e) s') : sSeq g g2 env st = g env st := by
  unfold sSeq
  split
  · rename_i e s q; exact absurd q (h e s)
  · rfl
theorem Sg.lvseq {g3 : MS} {x : T φ} (h1 : Sg X Γ (Lv P) g x) : Sg X Γ P (sSeq g g3) x := fun env st m => by
  have := h1 env st m
  cases q : x st with
  | ok a s =>
    rw [q] at this
    show P a s (sSeq g g3 env st)
    rw [seq_lv this.2]; exact this.1
  | ex k s =>
    rw [q] at this
    obtain ⟨e, q2, m2⟩ := this
    exact ⟨e, seq_ex q2, m2⟩
  | bad => exact trivial
theorem if_seq {g g2 g3 : MS} (env : DL.Env) (st : S) : sSeq (sIf c g g2) g3 env st = sIf c (sSeq g g3) (sSeq g2 g3) env st := by
  rw [sSeq_ap, sIf_ap, sIf_ap]
  cases c env st with
  | ok b s => cases b <;> rfl
  | ex k s => rfl
  | bad => rfl
theorem Sg.congr {g g' : MS} (e : ∀ env st, g env st = g' env st) (h : Sg X Γ P g' t) : Sg X Γ P g t := fun env st m => by
  have := h env st m
  rw [e env st]; exact this
theorem sg_ifv_seq {g3 : MS} (hc : Vl Γ b c) (h1 : Sg X Γ P (sSeq g g3) x) (h2 : Sg X Γ P (sSeq g2 g3) y) : Sg X Γ P (sSeq (sIf c g g2) g3) (if b = true then x else y) := Sg.congr if_seq (sg_ifv hc h1 h2)
theorem sg_if_seq {g3 : MS} (hc : Ev Γ id c tb) (hx : InX X Γ) (h1 : Sg X Γ P (sSeq g g3) x) (h2 : Sg X Γ P (sSeq g2 g3) y) : Sg X Γ P (sSeq (sIf c g g2) g3) (tb >>= fun b => if b = true then x else y) := Sg.congr if_seq (sg_if hc hx h1 h2)
theorem sg_skip_seq (h : Sg X Γ P g t) : Sg X Γ P (sSeq sSkip g) t := Sg.congr (fun _ _ => rfl) h
/-! ends of blocks -/
theorem sn_v {Γ1 : DL.Env} {x : σ} (h1 : Sv Γ g Γ1) (hs : Sub (G x) Γ1) : Sg X Γ (Pn G) g (Pure.pure x) := fun env st m => by
  obtain ⟨e, q, m1⟩ := h1 env st m
  exact ⟨e, q, m1.sub hs⟩
theorem sn_e {Γ1 : α → DL.Env} {t1 : T α} {k : α → σ} (h1 : Sg X Γ (Pn Γ1) g t1) (hs : ∀ a, Sub (G (k a)) (Γ1 a)) : Sg X Γ (Pn G) g (t1 >>= fun a => Pure.pure (k a)) := fun env st m => by
  have := h1 env st m
  show Oc X (Pn G) (g env st) ((t1 st).bind fun a s => (Pure.pure (k a) : T σ) s)
  cases q : t1 st with
  | ok a s =>
    rw [q] at this
    obtain ⟨e, q2, m2⟩ := this
    exact ⟨e, q2, m2.sub (hs a)⟩
  | ex k s => rw [q] at this; exact this
  | bad => exact trivial
theorem sn_sub {Γ1 : σ → DL.Env} {t1 : T σ} (h1 : Sg X Γ (Pn Γ1) g t1) (hs : ∀ a, Sub (G a) (Γ1 a)) : Sg X Γ (Pn G) g t1 := fun env st m => by
  have := h1 env st m
  cases q : t1 st with
  | ok a s =>
    rw [q] at this
    obtain ⟨e, q2, m2⟩ := this
    exact ⟨e, q2, m2.sub (hs a)⟩
  | ex k s => rw [q] at this; exact this
  | bad => exact trivial
/-- a block that only falls through, where more is allowed -/
theorem sl_n {en : ρ → PD} {t1 : T σ} (h1 : Sg X Γ (Pn G) g t1) : Sg X Γ (Pl G en) g (t1 >>= fun a => Pure.pure (.nx a)) := fun env st m => by
  have := h1 env st m
  show Oc X (Pl G en) (g env st) ((t1 st).bind fun a s => (Pure.pure (.nx a) : T (Fl σ ρ)) s)
  cases q : t1 st with
  | ok a s => rw [q] at this; exact this
  | ex k s => rw [q] at this; exact this
  | bad => exact trivial
theorem sl_v {en : ρ → PD} {Γ1 : DL.Env} {x : σ} (h1 : Sv Γ g Γ1) (hs : Sub (G x) Γ1) : Sg X Γ (Pl G en) g (Pure.pure (.nx x)) := sl_n (t1 := Pure.pure x) (sn_v h1 hs)
theorem sl_bk {en : ρ → PD} {x : σ} (hs : Sub (G x) Γ) : Sg X Γ (Lv (Pl G en)) sBrk (Pure.pure (.bk x)) := fun env st m => ⟨⟨env, rfl, m.sub hs⟩, fun e s' q => by cases q⟩
theorem sl_ct {en : ρ → PD} {x : σ} (hs : Sub (G x) Γ) : Sg X Γ (Lv (Pl G en)) sCnt (Pure.pure (.ct x)) := fun env st m => ⟨⟨env, rfl, m.sub hs⟩, fun e s' q => by cases q⟩
theorem sg_raise {cl : Str} (hx : InX X Γ) : Sg X Γ (Lv P) (sRaise cl) (T.ex cl) := fun env st m => ⟨env, rfl, m.inx hx⟩
theorem sf_retv {en : ρ → PD} {v : ρ} (h1 : Vl Γ (en v) f) : Sg X Γ (Lv (Pf en)) (sRet f) (Pure.pure v) := fun env st m => ⟨ret_ok (h1 env st m), fun e s' q => by rw [ret_ok (h1 env st m)] at q; cases q⟩
theorem sf_ret {en : ρ → PD} {t1 : T ρ} (h1 : Ev Γ en f t1) (hx : InX X Γ) : Sg X Γ (Lv (Pf en)) (sRet f) t1 := fun env st m => by
  have h1 := h1 env st m
  cases q : t1 st with
  | ok a s =>
    rw [q] at h1
    have := ret_ok (show f env st = .ok (en a) s from h1)
    exact ⟨this, fun e s' q => by rw [this] at q; cases q⟩
  | ex k s =>
    rw [q] at h1
    refine ⟨env, ?_, m.inx hx⟩
    rw [sRet_ap, show f env st = .ex k s from h1]; rfl
  | bad => exact trivial
theorem sl_retv {en : ρ → PD} {v : ρ} (h1 : Vl Γ (en v) f) : Sg X Γ (Lv (Pl G en)) (sRet f) (Pure.pure (.rt v)) := fun env st m => ⟨ret_ok (h1 env st m), fun e s' q => by rw [ret_ok (h1 env st m)] at q; cases q⟩
theorem sl_ret {en : ρ → PD} {t1 : T ρ} (h1 : Ev Γ en f t1) (hx : InX X Γ) : Sg X Γ (Lv (Pl G en)) (sRet f) (t1 >>= fun v => Pure.pure (.rt v)) := fun env st m => by
  have h1 := h1 env st m
  show Oc X (Lv (Pl G en)) (sRet f env st) ((t1 st).bind fun a s => (Pure.pure (.rt a) : T (Fl σ ρ)) s)
  cases q : t1 st with
  | ok a s =>
    rw [q] at h1
    have := ret_ok (show f env st = .ok (en a) s from h1)
    exact ⟨this, fun e s' q => by rw [this] at q; cases q⟩
  | ex k s =>
    rw [q] at h1
    refine ⟨env, ?_, m.inx hx⟩
    rw [sRet_ap, show f env st = .ex k s from h1]; rfl
  | bad => exact trivial
theorem sf_rt {en : ρ → PD} (v : ρ) (s : S) : Pf en v s (.ok (.rt (en v)) s) := rfl
theorem sl_rt {en : ρ → PD} (v : ρ) (s : S) : Pl G en (.rt v) s (.ok (.rt (en v)) s) := rfl
/-! for -/
namespace T
def fo (k : σ → α → T σ) : List α → σ → T σ
  | [], x => Pure.pure x
  | a :: l, x => k x a >>= fun y => fo k l y
def foF (k : σ → α → T (Fl σ ρ)) : List α → σ → T (Fl σ ρ)
  | [], x => Pure.pure (.nx x)
  | a :: l, x => k x a >>= fun r => match r with
    | .nx y => foF k l y
    | .ct y => foF k l y
    | .bk y => Pure.pure (.nx y)
    | .rt v => Pure.pure (.rt v)
@[simp] theorem fo_nil (k : σ → α → T σ) (x : σ) : fo k [] x = Pure.pure x := rfl
@[simp] theorem fo_cons (k : σ → α → T σ) (x : σ) (a : α) (l : List α) : fo k (a :: l) x = k x a >>= fun y => fo k l y := rfl
@[simp] theorem foF_nil (k : σ → α → T (Fl σ ρ)) (x : σ) : foF k [] x = Pure.pure (.nx x) := rfl
theorem foF_cons (k : σ → α → T (Fl σ ρ)) (x : σ) (a : α) (l : List α) : foF k (a :: l) x = k x a >>= fun r => match r with
    | .nx y => foF k l y
    | .ct y => foF k l y
    | .bk y => Pure.pure (.nx y)
    | .rt v => Pure.pure (.rt v) := rfl
theorem foF_nx {k : σ → α → T (Fl σ ρ)} {x y : σ} {a : α} {l : List α} (h : k x a = Pure.pure (.nx y)) : foF k (a :: l) x = foF k l y := by rw [foF_cons, h]; rfl
theorem foF_ct {k : σ → α → T (Fl σ ρ)} {x y : σ} {a : α} {l : List α} (h : k x a = Pure.pure (.ct y)) : foF k (a :: l) x = foF k l y := by rw [foF_cons, h]; rfl
theorem foF_bk {k : σ → α → T (Fl σ ρ)} {x y : σ} {a : α} {l : List α} (h : k x a = Pure.pure (.bk y)) : foF k (a :: l) x = Pure.pure (.nx y) := by rw [foF_cons, h]; rfl
theorem foF_rt {k : σ → α → T (Fl σ ρ)} {x : σ} {v : ρ} {a : α} {l : List α} (h : k x a = Pure.pure (.rt v)) : foF k (a :: l) x = Pure.pure (.rt v) := by rw [foF_cons, h]; rfl
/-- with an invariant -/
theorem fo_inv {k : σ → α → T σ} (I : Nat → σ → Prop) : ∀ (l : List α) (n : Nat) (x : σ), (∀ i a x, l[i]? = some a → I (n + i) x → ∃ y, k x a = Pure.pure y ∧ I (n + i + 1) y) → I n x → ∃ y, fo k l x = Pure.pure y ∧ I (n + l.length) y
  | [], n, x, _, h => ⟨x, rfl, h⟩
  | a :: l, n, x, hs, h => by
    obtain ⟨y, e, i⟩ := hs 0 a x rfl h
    obtain ⟨z, e2, i2⟩ := fo_inv I l (n + 1) y (fun j b w q r => by
      have := hs (j + 1) b w (by simpa using q) (by rw [show n + (j + 1) = n + 1 + j from by omega]; exact r)
      rw [show n + (j + 1) + 1 = n + 1 + j + 1 from by omega] at this
      exact this) i
    refine ⟨z, ?_, by rw [List.length_cons, show n + (l.length + 1) = n + 1 + l.length from by omega]; exact i2⟩
    rw [fo_cons, e]
    exact e2
theorem fo_pure {k : σ → α → T σ} {g : σ → α → σ} : ∀ (l : List α) (x : σ), (∀ x, ∀ a ∈ l, k x a = Pure.pure (g x a)) → fo k l x = Pure.pure (l.foldl g x)
  | [], x, _ => rfl
  | a :: l, x, h => by
    rw [fo_cons, h x a (List.mem_cons_self ..)]
    exact fo_pure l (g x a) fun y b m => h y b (List.mem_cons_of_mem _ m)
end T
theorem forGo_fo {Γ1 : σ → α → DL.Env} {ea : α → PD} {tg : PD → DL.Env → Option DL.Env} {body : MS} {k : σ → α → T σ} (ht : ∀ x a, Tg (G x) tg (ea a) (Γ1 x a)) (hb : ∀ x a, Sg X (Γ1 x a) (Pn G) body (k x a)) : ∀ (l : List α) (x : σ), Sg X (G x) (Pn G) (forGo tg body (l.map ea)) (T.fo k l x)
  | [], x => fun env st m => ⟨env, rfl, m⟩
  | a :: l, x => fun env st m => by
    obtain ⟨env1, e1, m1⟩ := ht x a env m
    have hb' := hb x a env1 st m1
    rw [List.map_cons]
    show Oc X (Pn G) (forGo tg body (ea a :: l.map ea) env st) ((k x a st).bind fun y s => T.fo k l y s)
    unfold forGo
    rw [e1]
    dsimp only
    cases q : k x a st with
    | ok y s =>
      rw [q] at hb'
      obtain ⟨e, q2, m2⟩ := hb'
      rw [q2]
      exact forGo_fo ht hb l y e s m2
    | ex c s =>
      rw [q] at hb'
      obtain ⟨e, q2, m2⟩ := hb'
      rw [q2]
      exact ⟨e, rfl, m2⟩
    | bad => exact trivial
theorem forGo_foF {Γ1 : σ → α → DL.Env} {en : ρ → PD} {ea : α → PD} {tg : PD → DL.Env → Option DL.Env} {body : MS} {k : σ → α → T (Fl σ ρ)} (ht : ∀ x a, Tg (G x) tg (ea a) (Γ1 x a)) (hb : ∀ x a, Sg X (Γ1 x a) (Pl G en) body (k x a)) : ∀ (l : List α) (x : σ), Sg X (G x) (Pl G en) (forGo tg body (l.map ea)) (T.foF k l x)
  | [], x => fun env st m => ⟨env, rfl, m⟩
  | a :: l, x => fun env st m => by
    obtain ⟨env1, e1, m1⟩ := ht x a env m
    have hb' := hb x a env1 st m1
    rw [List.map_cons, T.foF_cons]
    show Oc X (Pl G en) (forGo tg body (ea a :: l.map ea) env st) ((k x a st).bind _)
    unfold forGo
    rw [e1]
    dsimp only
    cases q : k x a st with
    | ok r s =>
      rw [q] at hb'
      cases r with
      | nx y =>
        obtain ⟨e, q2, m2⟩ := hb'
        rw [q2]
        exact forGo_foF ht hb l y e s m2
      | ct y =>
        obtain ⟨e, q2, m2⟩ := hb'
        rw [q2]
        exact forGo_foF ht hb l y e s m2
      | bk y =>
        obtain ⟨e, q2, m2⟩ := hb'
        rw [q2]
        exact ⟨e, rfl, m2⟩
      | rt v =>
        rw [show body env1 st = .ok (.rt (en v)) s from hb']
        exact rfl
    | ex c s =>
      rw [q] at hb'
      obtain ⟨e, q2, m2⟩ := hb'
      rw [q2]
      exact ⟨e, rfl, m2⟩
    | bad => exact trivial
theorem s_for {Γ1 : σ → α → DL.Env} {ea : α → PD} {tg : PD → DL.Env → Option DL.Env} {body : MS} {k : σ → α → T σ} {l : List α} {x : σ} (hi : Vl Γ (l.map ea) fa) (hs : Sub (G x) Γ) (ht : ∀ x a, Tg (G x) tg (ea a) (Γ1 x a)) (hb : ∀ x a, Sg X (Γ1 x a) (Pn G) body (k x a)) : Sg X Γ (Pn G) (sFor fa tg body) (T.fo k l x) := fun env st m => by
  have := forGo_fo ht hb l x env st (m.sub hs)
  rw [sFor_of (hi env st m)]
  exact this
theorem s_forE {Γ1 : σ → α → DL.Env} {ea : α → PD} {tg : PD → DL.Env → Option DL.Env} {body : MS} {k : σ → α → T σ} {tl : T (List α)} {x : σ} (hi : Ev Γ (List.map ea) fa tl) (hx : InX X Γ) (hs : Sub (G x) Γ) (ht : ∀ x a, Tg (G x) tg (ea a) (Γ1 x a)) (hb : ∀ x a, Sg X (Γ1 x a) (Pn G) body (k x a)) : Sg X Γ (Pn G) (sFor fa tg body) (tl >>= fun l => T.fo k l x) := fun env st m => by
  have hi := hi env st m
  show Oc X (Pn G) (sFor fa tg body env st) ((tl st).bind fun l s => T.fo k l x s)
  cases q : tl st with
  | ok l s =>
    rw [q] at hi
    rw [sFor_of (show fa env st = .ok (l.map ea) s from hi)]
    exact forGo_fo ht hb l x env s (m.sub hs)
  | ex c s =>
    rw [q] at hi
    refine ⟨env, ?_, m.inx hx⟩
    rw [sFor_ap, show fa env st = .ex c s from hi]; rfl
  | bad => exact trivial
theorem s_forF {Γ1 : σ → α → DL.Env} {en : ρ → PD} {ea : α → PD} {tg : PD → DL.Env → Option DL.Env} {body : MS} {k : σ → α → T (Fl σ ρ)} {l : List α} {x : σ} (hi : Vl Γ (l.map ea) fa) (hs : Sub (G x) Γ) (ht : ∀ x a, Tg (G x) tg (ea a) (Γ1 x a)) (hb : ∀ x a, Sg X (Γ1 x a) (Pl G en) body (k x a)) : Sg X Γ (Pl G en) (sFor fa tg body) (T.foF k l x) := fun env st m => by
  have := forGo_foF ht hb l x env st (m.sub hs)
  rw [sFor_of (hi env st m)]
  exact this
theorem s_forFE {Γ1 : σ → α → DL.Env} {en : ρ → PD} {ea : α → PD} {tg : PD → DL.Env → Option DL.Env} {body : MS} {k : σ → α → T (Fl σ ρ)} {tl : T (List α)} {x : σ} (hi : Ev Γ (List.map ea) fa tl) (hx : InX X Γ) (hs : Sub (G x) Γ) (ht : ∀ x a, Tg (G x) tg (ea a) (Γ1 x a)) (hb : ∀ x a, Sg X (Γ1 x a) (Pl G en) body (k x a)) : Sg X Γ (Pl G en) (sFor fa tg body) (tl >>= fun l => T.foF k l x) := fun env st m => by
  have hi := hi env st m
  show Oc X (Pl G en) (sFor fa tg body env st) ((tl st).bind fun l s => T.foF k l x s)
  cases q : tl st with
  | ok l s =>
    rw [q] at hi
    rw [sFor_of (show fa env st = .ok (l.map ea) s from hi)]
    exact forGo_foF ht hb l x env s (m.sub hs)
  | ex c s =>
    rw [q] at hi
    refine ⟨env, ?_, m.inx hx⟩
    rw [sFor_ap, show fa env st = .ex c s from hi]; rfl
  | bad => exact trivial
end
end DL.TL
/-! TL3: while, try, defs, draws; what holds of a computation. -/
namespace DL.TL
open PySem PySem.Spec PyProof.Rows L2
namespace T
variable {α β σ ρ φ : Type}
/-- at most n times round -/
def whN (c : σ → T Bool) (k : σ → T σ) : Nat → σ → T σ
  | 0, _ => T.bad
  | n + 1, x => c x >>= fun b => if b = true then k x >>= fun y => whN c k n y else Pure.pure x
open Classical in
noncomputable def wh (c : σ → T Bool) (k : σ → T σ) (x : σ) : T σ := fun s => if h : ∃ n, whN c k n x s ≠ .bad then whN c k h.choose x s else .bad
theorem whN_more {c : σ → T Bool} {k : σ → T σ} : ∀ {n : Nat} {x : σ} {s : S}, whN c k n x s ≠ .bad → whN c k (n + 1) x s = whN c k n x s
  | 0, _, _, h => absurd rfl h
  | n + 1, x, s, h => by
    show (c x s).bind (fun b s1 => (if b = true then k x >>= fun y => whN c k (n + 1) y else Pure.pure x : T σ) s1) = (c x s).bind (fun b s1 => (if b = true then k x >>= fun y => whN c k n y else Pure.pure x : T σ) s1)
    have h' : (c x s).bind (fun b s1 => (if b = true then k x >>= fun y => whN c k n y else Pure.pure x : T σ) s1) ≠ .bad := h
    cases q : c x s with
    | bad => rfl
    | ex e s1 => rfl
    | ok b s1 =>
      rw [q] at h'
      cases b with
      | false => rfl
      | true =>
        show (k x s1).bind (fun y s2 => whN c k (n + 1) y s2) = (k x s1).bind (fun y s2 => whN c k n y s2)
        have h2 : (k x s1).bind (fun y s2 => whN c k n y s2) ≠ .bad := h'
        cases q2 : k x s1 with
        | bad => rfl
        | ex e s2 => rfl
        | ok y s2 =>
          rw [q2] at h2
          exact whN_more h2
theorem whN_le {c : σ → T Bool} {k : σ → T σ} {n m : Nat} {x : σ} {s : S} (h : whN c k n x s ≠ .bad) (hm : n ≤ m) : whN c k m x s = whN c k n x s := by
  induction hm with
  | refl => rfl
  | step _ ih => rw [whN_more (by rw [ih]; exact h), ih]
theorem wh_of {c : σ → T Bool} {k : σ → T σ} {n : Nat} {x : σ} {s : S} (h : whN c k n x s ≠ .bad) : wh c k x s = whN c k n x s := by
  have hx : ∃ n, whN c k n x s ≠ .bad := ⟨n, h⟩
  unfold wh
  rw [dif_pos hx]
  have h1 := whN_le hx.choose_spec (Nat.le_max_left hx.choose n)
  have h2 := whN_le h (Nat.le_max_right hx.choose n)
  rw [← h1, h2]
theorem wh_some {c : σ → T Bool} {k : σ → T σ} {x : σ} {s : S} (h : wh c k x s ≠ .bad) : ∃ n, whN c k n x s ≠ .bad ∧ wh c k x s = whN c k n x s := by
  by_cases hx : ∃ n, whN c k n x s ≠ .bad
  · obtain ⟨n, q⟩ := hx
    exact ⟨n, q, wh_of q⟩
  · unfold wh at h
    rw [dif_neg hx] at h
    exact absurd rfl h
theorem wh_f {c : σ → T Bool} {k : σ → T σ} {x : σ} (h : c x = Pure.pure false) : wh c k x = Pure.pure x := by
  funext s
  have e : whN c k 1 x s = .ok x s := by
    show (c x s).bind _ = _
    rw [h]; rfl
  rw [wh_of (n := 1) (by rw [e]; exact fun z => by cases z), e]; rfl
theorem wh_t' {c : σ → T Bool} {k : σ → T σ} {x y : σ} {s s1 s2 : S} (h : c x s = .ok true s1) (h2 : k x s1 = .ok y s2) : wh c k x s = wh c k y s2 := by
  have st : ∀ n, whN c k (n + 1) x s = whN c k n y s2 := fun n => by
    show (c x s).bind _ = _
    rw [h]
    show (k x s1).bind _ = _
    rw [h2]
  by_cases hx : ∃ n, whN c k n y s2 ≠ .bad
  · obtain ⟨n, q⟩ := hx
    rw [wh_of q, wh_of (n := n + 1) (by rw [st]; exact q), st]
  · have hy : ¬ ∃ n, whN c k n x s ≠ .bad := by
      rintro ⟨n, q⟩
      cases n with
      | zero => exact q rfl
      | succ n => rw [st] at q; exact hx ⟨n, q⟩
    unfold wh
    rw [dif_neg hx, dif_neg hy]
theorem wh_t {c : σ → T Bool} {k : σ → T σ} {x y : σ} (h : c x = Pure.pure true) (h2 : k x = Pure.pure y) : wh c k x = wh c k y := by
  funext s
  exact wh_t' (s1 := s) (s2 := s) (by rw [h]; rfl) (by rw [h2]; rfl)
/-- with an invariant and a measure -/
theorem wh_inv {c : σ → T Bool} {k : σ → T σ} (I : σ → Prop) (μ : σ → Nat) (q : σ → Bool) (hc : ∀ x, I x → c x = Pure.pure (q x)) (hk : ∀ x, I x → q x = true → ∃ y, k x = Pure.pure y ∧ I y ∧ μ y < μ x) : ∀ x, I x → ∃ y, wh c k x = Pure.pure y ∧ I y ∧ q y = false := by
  have H : ∀ (n : Nat) (x : σ), μ x ≤ n → I x → ∃ y, wh c k x = Pure.pure y ∧ I y ∧ q y = false := by
    intro n
    induction n with
    | zero =>
      intro x hm hi
      cases e : q x with
      | false => exact ⟨x, wh_f (by rw [hc x hi, e]), hi, e⟩
      | true =>
        obtain ⟨y, _, _, h3⟩ := hk x hi e
        omega
    | succ n ih =>
      intro x hm hi
      cases e : q x with
      | false => exact ⟨x, wh_f (by rw [hc x hi, e]), hi, e⟩
      | true =>
        obtain ⟨y, h1, h2, h3⟩ := hk x hi e
        obtain ⟨z, g1, g2, g3⟩ := ih y (by omega) h2
        exact ⟨z, (wh_t (by rw [hc x hi, e]) h1).trans g1, g2, g3⟩
  exact fun x hi => H (μ x) x (Nat.le_refl _) hi
/-! while with ways out -/
def whFN (c : σ → T Bool) (k : σ → T (Fl σ ρ)) : Nat → σ → T (Fl σ ρ)
  | 0, _ => T.bad
  | n + 1, x => c x >>= fun b => if b = true then k x >>= fun r => match r with
      | .nx y => whFN c k n y
      | .ct y => whFN c k n y
      | .bk y => Pure.pure (.nx y)
      | .rt v => Pure.pure (.rt v)
    else Pure.pure (.nx x)
open Classical in
noncomputable def whF (c : σ → T Bool) (k : σ → T (Fl σ ρ)) (x : σ) : T (Fl σ ρ) := fun s => if h : ∃ n, whFN c k n x s ≠ .bad then whFN c k h.choose x s else .bad
theorem whFN_more {c : σ → T Bool} {k : σ → T (Fl σ ρ)} : ∀ {n : Nat} {x : σ} {s : S}, whFN c k n x s ≠ .bad → whFN c k (n + 1) x s = whFN c k n x s
  | 0, _, _, h => absurd rfl h
  | n + 1, x, s, h => by
    unfold whFN at h ⊢
    rw [bind_ap] at h ⊢
    rw [bind_ap]
    cases q : c x s with
    | bad => rfl
    | ex e s1 => rfl
    | ok b s1 =>
      rw [q] at h
      cases b with
      | false => rfl
      | true =>
        simp only [R.bind, if_true] at h ⊢
        rw [bind_ap] at h ⊢
        rw [bind_ap]
        cases q2 : k x s1 with
        | bad => rfl
        | ex e s2 => rfl
        | ok r s2 =>
          rw [q2] at h
          cases r with
          | nx y => exact whFN_more h
          | ct y => exact whFN_more h
          | bk y => rfl
          | rt v => rfl
theorem whFN_le {c : σ → T Bool} {k : σ → T (Fl σ ρ)} {n m : Nat} {x : σ} {s : S} (h : whFN c k n x s ≠ .bad) (hm : n ≤ m) : whFN c k m x s = whFN c k n x s := by
  induction hm with
  | refl => rfl
  | step _ ih => rw [whFN_more (by rw [ih]; exact h), ih]
theorem whF_of {c : σ → T Bool} {k : σ → T (Fl σ ρ)} {n : Nat} {x : σ} {s : S} (h : whFN c k n x s ≠ .bad) : whF c k x s = whFN c k n x s := by
  have hx : ∃ n, whFN c k n x s ≠ .bad := ⟨n, h⟩
  unfold whF
  rw [dif_pos hx]
  have h1 := whFN_le hx.choose_spec (Nat.le_max_left hx.choose n)
  have h2 := whFN_le h (Nat.le_max_right hx.choose n)
  rw [← h1, h2]
theorem whF_some {c : σ → T Bool} {k : σ → T (Fl σ ρ)} {x : σ} {s : S} (h : whF c k x s ≠ .bad) : ∃ n, whFN c k n x s ≠ .bad ∧ whF c k x s = whFN c k n x s := by
  by_cases hx : ∃ n, whFN c k n x s ≠ .bad
  · obtain ⟨n, q⟩ := hx
    exact ⟨n, q, whF_of q⟩
  · unfold whF at h
    rw [dif_neg hx] at h
    exact absurd rfl h
theorem whF_f {c : σ → T Bool} {k : σ → T (Fl σ ρ)} {x : σ} (h : c x = Pure.pure false) : whF c k x = Pure.pure (.nx x) := by
  funext s
  have e : whFN c k 1 x s = .ok (.nx x) s := by
    show (c x s).bind _ = _
    rw [h]; rfl
  rw [whF_of (n := 1) (by rw [e]; exact fun z => by cases z), e]; rfl
theorem whF_t {c : σ → T Bool} {k : σ → T (Fl σ ρ)} {x y : σ} (h : c x = Pure.pure true) (h2 : k x = Pure.pure (.nx y) ∨ k x = Pure.pure (.ct y)) : whF c k x = whF c k y := by
  funext s
  have st : ∀ n, whFN c k (n + 1) x s = whFN c k n y s := fun n => by
    show (c x s).bind _ = _
    rw [h]
    show (k x s).bind _ = _
    rcases h2 with h2 | h2 <;> rw [h2] <;> rfl
  by_cases hx : ∃ n, whFN c k n y s ≠ .bad
  · obtain ⟨n, q⟩ := hx
    rw [whF_of q, whF_of (n := n + 1) (by rw [st]; exact q), st]
  · have hy : ¬ ∃ n, whFN c k n x s ≠ .bad := by
      rintro ⟨n, q⟩
      cases n with
      | zero => exact q rfl
      | succ n => rw [st] at q; exact hx ⟨n, q⟩
    unfold whF
    rw [dif_neg hx, dif_neg hy]
theorem whF_bk {c : σ → T Bool} {k : σ → T (Fl σ ρ)} {x y : σ} (h : c x = Pure.pure true) (h2 : k x = Pure.pure (.bk y)) : whF c k x = Pure.pure (.nx y) := by
  funext s
  have e : whFN c k 1 x s = .ok (.nx y) s := by
    show (c x s).bind _ = _
    rw [h]
    show (k x s).bind _ = _
    rw [h2]; rfl
  rw [whF_of (n := 1) (by rw [e]; exact fun z => by cases z), e]; rfl
theorem whF_rt {c : σ → T Bool} {k : σ → T (Fl σ ρ)} {x : σ} {v : ρ} (h : c x = Pure.pure true) (h2 : k x = Pure.pure (.rt v)) : whF c k x = Pure.pure (.rt v) := by
  funext s
  have e : whFN c k 1 x s = .ok (.rt v) s := by
    show (c x s).bind _ = _
    rw [h]
    show (k x s).bind _ = _
    rw [h2]; rfl
  rw [whF_of (n := 1) (by rw [e]; exact fun z => by cases z), e]; rfl
/-! try -/
def tr1 (known : List Str) (b : T φ) (c1 : Str) (h1 : T φ) : T φ := fun s => match b s with
  | .ex c s' => if c ∈ known then (if c = c1 then (h1 s').noex else .ex c s') else .bad
  | r => r
def tr2 (known : List Str) (b : T φ) (c1 : Str) (h1 : T φ) (c2 : Str) (h2 : T φ) : T φ := fun s => match b s with
  | .ex c s' => if c ∈ known then (if c = c1 then (h1 s').noex else if c = c2 then (h2 s').noex else .ex c s') else .bad
  | r => r
@[simp] theorem tr1_pure (known : List Str) (v : φ) (c1 : Str) (h1 : T φ) : tr1 known (Pure.pure v) c1 h1 = Pure.pure v := rfl
@[simp] theorem tr2_pure (known : List Str) (v : φ) (c1 c2 : Str) (h1 h2 : T φ) : tr2 known (Pure.pure v) c1 h1 c2 h2 = Pure.pure v := rfl
theorem tr1_ex {known : List Str} {v : φ} {c1 : Str} {h1 : T φ} (hk : c1 ∈ known) (h : h1 = Pure.pure v) : tr1 known (T.ex c1) c1 h1 = Pure.pure v := by
  funext s
  show (if c1 ∈ known then (if c1 = c1 then (h1 s).noex else .ex c1 s) else .bad) = _
  rw [if_pos hk, if_pos rfl, h]; rfl
theorem tr2_ex1 {known : List Str} {v : φ} {c1 c2 : Str} {h1 h2 : T φ} (hk : c1 ∈ known) (h : h1 = Pure.pure v) : tr2 known (T.ex c1) c1 h1 c2 h2 = Pure.pure v := by
  funext s
  show (if c1 ∈ known then (if c1 = c1 then (h1 s).noex else if c1 = c2 then (h2 s).noex else .ex c1 s) else .bad) = _
  rw [if_pos hk, if_pos rfl, h]; rfl
theorem tr2_ex2 {known : List Str} {v : φ} {c1 c2 : Str} {h1 h2 : T φ} (hk : c2 ∈ known) (hn : c2 ≠ c1) (h : h2 = Pure.pure v) : tr2 known (T.ex c2) c1 h1 c2 h2 = Pure.pure v := by
  funext s
  show (if c2 ∈ known then (if c2 = c1 then (h1 s).noex else if c2 = c2 then (h2 s).noex else .ex c2 s) else .bad) = _
  rw [if_pos hk, if_neg hn, if_pos rfl, h]; rfl
end T
section
variable {Γ : DL.Env} {α β γ δ ρ σ σ' φ : Type} {en : α → PD} {f h : DL.Env → M PD} {fa : DL.Env → M (List PD)} {d e z : PD}
variable {X : DL.Env → Prop} {P : φ → S → RS → Prop} {g g2 : MS} {t : T φ} {G : σ → DL.Env}
theorem whN_sim {c : DL.Env → M Bool} {tc : σ → T Bool} {k : σ → T σ} (hc : ∀ x, Ev (G x) id c (tc x)) (hX : ∀ x, InX X (G x)) (hb : ∀ x, Sg X (G x) (Pn G) g (k x)) : ∀ (n : Nat) (x : σ) (env : DL.Env) (s : S), Mt (G x) env → T.whN tc k n x s ≠ .bad → ∃ r, whIter c g n env s = some r ∧ Oc X (Pn G) r (T.whN tc k n x s)
  | 0, _, _, _, _, hn => absurd rfl hn
  | n + 1, x, env, s, m, hn => by
    have hc' := hc x env s m
    have hn' : (tc x s).bind (fun b s1 => (if b = true then k x >>= fun y => T.whN tc k n y else Pure.pure x : T σ) s1) ≠ .bad := hn
    show ∃ r, whIter c g (n + 1) env s = some r ∧ Oc X (Pn G) r ((tc x s).bind (fun b s1 => (if b = true then k x >>= fun y => T.whN tc k n y else Pure.pure x : T σ) s1))
    unfold whIter
    cases q : tc x s with
    | bad => rw [q] at hn'; exact absurd rfl hn'
    | ex e s1 =>
      rw [q] at hc'
      rw [show c env s = .ex e s1 from hc']
      exact ⟨_, rfl, env, rfl, m.inx (hX x)⟩
    | ok b s1 =>
      rw [q] at hc' hn'
      rw [show c env s = .ok b s1 from hc']
      cases b with
      | false => exact ⟨_, rfl, env, rfl, m⟩
      | true =>
        have hb' := hb x env s1 m
        have hn2 : (k x s1).bind (fun y s2 => T.whN tc k n y s2) ≠ .bad := hn'
        show ∃ r, _ = some r ∧ Oc X (Pn G) r ((k x s1).bind (fun y s2 => T.whN tc k n y s2))
        dsimp only
        cases q2 : k x s1 with
        | bad => rw [q2] at hn2; exact absurd rfl hn2
        | ex e s2 =>
          rw [q2] at hb'
          obtain ⟨e', q3, m3⟩ := hb'
          rw [q3]
          exact ⟨_, rfl, e', rfl, m3⟩
        | ok y s2 =>
          rw [q2] at hb' hn2
          obtain ⟨e', q3, m3⟩ := hb'
          rw [q3]
          exact whN_sim hc hX hb n y e' s2 m3 hn2
theorem s_while {c : DL.Env → M Bool} {tc : σ → T Bool} {k : σ → T σ} {x : σ} (hs : Sub (G x) Γ) (hc : ∀ x, Ev (G x) id c (tc x)) (hX : ∀ x, InX X (G x)) (hb : ∀ x, Sg X (G x) (Pn G) g (k x)) : Sg X Γ (Pn G) (sWhile c g) (T.wh tc k x) := fun env s m => by
  by_cases hn : T.wh tc k x s = .bad
  · rw [hn]; exact trivial
  · obtain ⟨n, h1, h2⟩ := T.wh_some hn
    obtain ⟨r, e, o⟩ := whN_sim hc hX hb n x env s (m.sub hs) h1
    rw [h2, sWhile_of e]
    exact o
theorem whFN_sim {en : ρ → PD} {c : DL.Env → M Bool} {tc : σ → T Bool} {k : σ → T (Fl σ ρ)} (hc : ∀ x, Ev (G x) id c (tc x)) (hX : ∀ x, InX X (G x)) (hb : ∀ x, Sg X (G x) (Pl G en) g (k x)) : ∀ (n : Nat) (x : σ) (env : DL.Env) (s : S), Mt (G x) env → T.whFN tc k n x s ≠ .bad → ∃ r, whIter c g n env s = some r ∧ Oc X (Pl G en) r (T.whFN tc k n x s)
  | 0, _, _, _, _, hn => absurd rfl hn
  | n + 1, x, env, s, m, hn => by
    have hc' := hc x env s m
    unfold T.whFN at hn ⊢
    rw [T.bind_ap] at hn ⊢
    unfold whIter
    cases q : tc x s with
    | bad => rw [q] at hn; exact absurd rfl hn
    | ex e s1 =>
      rw [q] at hc'
      rw [show c env s = .ex e s1 from hc']
      exact ⟨_, rfl, env, rfl, m.inx (hX x)⟩
    | ok b s1 =>
      rw [q] at hc' hn
      rw [show c env s = .ok b s1 from hc']
      cases b with
      | false => exact ⟨_, rfl, env, rfl, m⟩
      | true =>
        have hb' := hb x env s1 m
        simp only [R.bind, if_true] at hn ⊢
        rw [T.bind_ap] at hn ⊢
        cases q2 : k x s1 with
        | bad => rw [q2] at hn; exact absurd rfl hn
        | ex e s2 =>
          rw [q2] at hb'
          obtain ⟨e', q3, m3⟩ := hb'
          rw [q3]
          exact ⟨_, rfl, e', rfl, m3⟩
        | ok y s2 =>
          rw [q2] at hb' hn
          cases y with
          | nx y =>
            obtain ⟨e', q3, m3⟩ := hb'
            rw [q3]
            exact whFN_sim hc hX hb n y e' s2 m3 hn
          | ct y =>
            obtain ⟨e', q3, m3⟩ := hb'
            rw [q3]
            exact whFN_sim hc hX hb n y e' s2 m3 hn
          | bk y =>
            obtain ⟨e', q3, m3⟩ := hb'
            rw [q3]
            exact ⟨_, rfl, e', rfl, m3⟩
          | rt v =>
            rw [show g env s1 = .ok (.rt (en v)) s2 from hb']
            exact ⟨_, rfl, rfl⟩
theorem s_whileF {en : ρ → PD} {c : DL.Env → M Bool} {tc : σ → T Bool} {k : σ → T (Fl σ ρ)} {x : σ} (hs : Sub (G x) Γ) (hc : ∀ x, Ev (G x) id c (tc x)) (hX : ∀ x, InX X (G x)) (hb : ∀ x, Sg X (G x) (Pl G en) g (k x)) : Sg X Γ (Pl G en) (sWhile c g) (T.whF tc k x) := fun env s m => by
  by_cases hn : T.whF tc k x s = .bad
  · rw [hn]; exact trivial
  · obtain ⟨n, h1, h2⟩ := T.whF_some hn
    obtain ⟨r, e, o⟩ := whFN_sim hc hX hb n x env s (m.sub hs) h1
    rw [h2, sWhile_of e]
    exact o
/-! try: X are the slots that the handlers may read -/
theorem Oc.noex {r : RS} {q : R φ} {X' : DL.Env → Prop} (h : Oc X P r q) (hp : ∀ v s r, P v s r → r.noex = r) : Oc X' P r.noex q.noex := by
  cases q with
  | ok a s =>
    have : P a s r := h
    show P a s r.noex
    rw [hp a s r this]; exact this
  | ex c s => exact trivial
  | bad => exact trivial
theorem pf_noex {en : ρ → PD} : ∀ (v : ρ) (s : S) (r : RS), Pf en v s r → r.noex = r := fun v s r h => by rw [show r = _ from h]; rfl
theorem lv_noex {en : ρ → PD} : ∀ (v : ρ) (s : S) (r : RS), Lv (Pf en) v s r → r.noex = r := fun v s r h => by rw [show r = _ from h.1]; rfl
theorem sg_try1 {Γx : DL.Env} {known : List Str} {c1 : Str} {h1 : MS} {x1 : T φ} (hp : ∀ v s r, P v s r → r.noex = r) (hx : InX X Γx) (hb : Sg (Mt Γx) Γ P g t) (hh : Sg X Γx P h1 x1) : Sg X Γ P (sTry known g [(c1, h1)]) (T.tr1 known t c1 x1) := fun env st m => by
  have hb := hb env st m
  unfold sTry T.tr1
  cases q : t st with
  | ok v s =>
    rw [q] at hb
    have hb : P v s (g env st) := hb
    have e : g env st = (g env st).noex := (hp v s _ hb).symm
    show P v s _
    cases q2 : g env st with
    | bad => rw [q2] at hb; exact hb
    | ok o s' =>
      rw [q2] at hb e
      cases o with
      | ex c e' => cases e
      | _ => exact hb
  | bad => exact trivial
  | ex c s =>
    rw [q] at hb
    obtain ⟨e, q2, m2⟩ := hb
    rw [q2]
    dsimp only
    unfold sCatch
    by_cases hk : c ∈ known
    · rw [if_pos hk, if_pos hk]
      by_cases hc : c = c1
      · rw [if_pos hc, if_pos hc]
        exact (hh e s m2).noex hp
      · rw [if_neg hc, if_neg hc]
        exact ⟨e, rfl, hx e m2⟩
    · rw [if_neg hk, if_neg hk]; exact trivial
theorem sg_try2 {Γx : DL.Env} {known : List Str} {c1 c2 : Str} {h1 h2 : MS} {x1 x2 : T φ} (hp : ∀ v s r, P v s r → r.noex = r) (hx : InX X Γx) (hb : Sg (Mt Γx) Γ P g t) (hh : Sg X Γx P h1 x1) (hh2 : Sg X Γx P h2 x2) : Sg X Γ P (sTry known g [(c1, h1), (c2, h2)]) (T.tr2 known t c1 x1 c2 x2) := fun env st m => by
  have hb := hb env st m
  unfold sTry T.tr2
  cases q : t st with
  | ok v s =>
    rw [q] at hb
    have hb : P v s (g env st) := hb
    have e : g env st = (g env st).noex := (hp v s _ hb).symm
    show P v s _
    cases q2 : g env st with
    | bad => rw [q2] at hb; exact hb
    | ok o s' =>
      rw [q2] at hb e
      cases o with
      | ex c e' => cases e
      | _ => exact hb
  | bad => exact trivial
  | ex c s =>
    rw [q] at hb
    obtain ⟨e, q2, m2⟩ := hb
    rw [q2]
    dsimp only
    unfold sCatch
    by_cases hk : c ∈ known
    · rw [if_pos hk, if_pos hk]
      by_cases hc : c = c1
      · rw [if_pos hc, if_pos hc]
        exact (hh e s m2).noex hp
      · rw [if_neg hc, if_neg hc]
        unfold sCatch
        rw [if_pos hk]
        by_cases hc2 : c = c2
        · rw [if_pos hc2, if_pos hc2]
          exact (hh2 e s m2).noex hp
        · rw [if_neg hc2, if_neg hc2]
          exact ⟨e, rfl, hx e m2⟩
    · rw [if_neg hk, if_neg hk]; exact trivial
/-! defs -/
theorem fn_ok {n N : Nat} {g : MS} {ds : List PD} {en : ρ → PD} {t : T ρ} (h : Sg X0 (startE N ds) (Pf en) g t) (hl : ds.length = n := by rfl) : Fn en (runFn n N g ds) t := fun s => by
  have h := h _ s (Mt.refl _)
  unfold runFn
  rw [if_pos hl]
  cases q : t s with
  | ok v s' => rw [q] at h; rw [show g (startE N ds) s = .ok (.rt (en v)) s' from h]; exact rfl
  | ex c s' =>
    rw [q] at h
    obtain ⟨e, q2, _⟩ := h
    rw [q2]; exact rfl
  | bad => exact trivial
theorem Fn.run {en : ρ → PD} {m : M PD} {t : T ρ} {v : ρ} {s s' : S} (h : Fn en m t) (e : t s = .ok v s') : m s = .ok (en v) s' := by
  have := h s
  rw [e] at this
  exact this
end
/-! ### what holds after a computation -/
def wp {α : Type} (t : T α) (s : S) (Q : α → S → Prop) : Prop := match t s with
  | .ok a s' => Q a s'
  | _ => False
section
variable {α β : Type} {Q : α → S → Prop} {s : S}
theorem wp_iff {t : T α} : wp t s Q ↔ ∃ a s', t s = .ok a s' ∧ Q a s' := by
  unfold wp
  cases t s with
  | ok a s' => exact ⟨fun h => ⟨a, s', rfl, h⟩, fun ⟨a', s'', e, h⟩ => by cases e; exact h⟩
  | ex c s' => exact ⟨fun h => h.elim, fun ⟨_, _, e, _⟩ => by cases e⟩
  | bad => exact ⟨fun h => h.elim, fun ⟨_, _, e, _⟩ => by cases e⟩
theorem wp_pure {a : α} (h : Q a s) : wp (Pure.pure a : T α) s Q := h
theorem wp_bind {t : T α} {k : α → T β} {Q : β → S → Prop} (h : wp t s fun a s' => wp (k a) s' Q) : wp (t >>= k) s Q := by
  obtain ⟨a, s', e, h2⟩ := wp_iff.mp h
  obtain ⟨b, s2, e2, h3⟩ := wp_iff.mp h2
  refine wp_iff.mpr ⟨b, s2, ?_, h3⟩
  show (t s).bind _ = _
  rw [e]; exact e2
theorem wp_eq {t u : T α} (e : t = u) (h : wp u s Q) : wp t s Q := e ▸ h
theorem wp_mono {t : T α} {Q' : α → S → Prop} (h : wp t s Q') (i : ∀ a s', Q' a s' → Q a s') : wp t s Q := by
  obtain ⟨a, s', e, h2⟩ := wp_iff.mp h
  exact wp_iff.mpr ⟨a, s', e, i a s' h2⟩
theorem wp_val {t : T α} {a : α} (e : t = Pure.pure a) (h : Q a s) : wp t s Q := by rw [e]; exact h
end
/-! ### the law's draws -/
def draw (n : Int) : T Int := fun s => match drawM [STT, .int n] s with
  | .ok (.int i) s' => .ok i s'
  | .ok _ _ => .bad
  | .ex c s' => .ex c s'
  | .bad => .bad
theorem draw_fn (n : Int) : Fn eI (drawM [STT, .int n]) (draw n) := fun s => by
  unfold draw
  cases q : drawM [STT, .int n] s with
  | bad => exact trivial
  | ex c s' => exact rfl
  | ok d s' => cases d <;> first | exact rfl | exact trivial
theorem wp_draw {n : Int} {s : S} {Q : Int → S → Prop} (g : Good s) (h1 : 1 ≤ n) (h2 : n < 1073741824) (h : ∀ r s', 0 ≤ r → r < n → Good s' → Q r s') : wp (draw n) s Q := by
  obtain ⟨r, s', e, r0, r1, g'⟩ := draw_ok g h1 h2
  refine wp_iff.mpr ⟨r, s', ?_, h r s' r0 r1 g'⟩
  unfold draw
  rw [e]
end DL.TL
/-! TL4: small helpers of the printed proofs. -/
namespace DL.TL
open PySem PySem.Spec PyProof.Rows L2
section
variable {Γ : DL.Env} {α β γ δ ρ σ σ' φ : Type} {en : α → PD} {f h : DL.Env → M PD} {fa : DL.Env → M (List PD)} {d e z : PD}
variable {X : DL.Env → Prop} {P : φ → S → RS → Prop} {g g2 : MS} {t : T φ} {G : σ → DL.Env}
theorem o2_of {op : S → PD → PD → Option PD} {g : γ → PD} {v : γ} (ho : ∀ s, op s d e = some (g v)) : O2 op d e g (Pure.pure v) := fun s => by rw [ho s]; exact rfl
theorem o1_of {op : S → PD → Option PD} {g : γ → PD} {v : γ} (ho : ∀ s, op s d = some (g v)) : ∀ s, Rf g (R.ofO (op s d) s) ((Pure.pure v : T γ) s) := fun s => by rw [ho s]; exact rfl
theorem b_of {op : S → List PD → Option PD} {ds : List PD} {g : γ → PD} {v : γ} (ho : ∀ s, op s ds = some (g v)) : ∀ s, Rf g (opK op ds s) ((Pure.pure v : T γ) s) := fun s => by
  show Rf g (R.ofO (op s ds) s) _
  rw [ho s]; exact rfl
theorem n_of {op : S → List PD → Option (List PD)} {ds : List PD} {g : γ → List PD} {v : γ} (ho : ∀ s, op s ds = some (g v)) : ∀ s, Rf g (opNK op ds s) ((Pure.pure v : T γ) s) := fun s => by
  show Rf g (R.ofO (op s ds) s) _
  rw [ho s]; exact rfl
theorem call_k {n : Nat} {m : List PD → M PD} {ds : List PD} {g : γ → PD} {t : T γ} (hf : Fn g (m ds) t) (hl : ds.length = n := by rfl) : ∀ s, Rf g (callK n m ds s) (t s) := fun s => by
  show Rf g (if ds.length = n then m ds s else .bad) (t s)
  rw [if_pos hl]; exact hf s
theorem tup_k {ds : List PD} {g : γ → PD} {v : γ} (e : g v = .tuple ds) (hd : (ds.all isD && decide (ds.length ≤ 10000)) = true := by rfl) : ∀ s, Rf g (tupK ds s) ((Pure.pure v : T γ) s) := fun s => by
  show (if (ds.all isD && decide (ds.length ≤ 10000)) = true then R.ok (PyData.tuple ds) s else .bad) = R.ok (g v) s
  rw [if_pos hd, e]
theorem lst_k {ds : List PD} {g : γ → List PD} {v : γ} (e : g v = ds) (hd : (ds.all isD && decide (ds.length ≤ 10000)) = true := by rfl) : ∀ s, Rf g (lstK ds s) ((Pure.pure v : T γ) s) := fun s => by
  show (if (ds.all isD && decide (ds.length ≤ 10000)) = true then R.ok ds s else .bad) = R.ok (g v) s
  rw [if_pos hd, e]
theorem Sg.assoc {g3 : MS} (h : Sg X Γ P (sSeq g (sSeq g2 g3)) t) : Sg X Γ P (sSeq (sSeq g g2) g3) t := Sg.congr (fun env st => by
  unfold sSeq
  cases g env st with
  | bad => rfl
  | ok o s => cases o <;> rfl) h
theorem Sg.skipend (h : Sg X Γ P (sSeq g sSkip) t) : Sg X Γ P g t := Sg.congr (fun env st => by
  unfold sSeq sSkip
  cases g env st with
  | bad => rfl
  | ok o s => cases o <;> rfl) h
theorem sl_e {en : ρ → PD} {Γ1 : α → DL.Env} {t1 : T α} {k : α → σ} (h1 : Sg X Γ (Pn Γ1) g t1) (hs : ∀ a, Sub (G (k a)) (Γ1 a)) : Sg X Γ (Pl G en) g (t1 >>= fun a => Pure.pure (.nx (k a))) := fun env st m => by
  have := h1 env st m
  show Oc X (Pl G en) (g env st) ((t1 st).bind fun a s => (Pure.pure (.nx (k a)) : T (Fl σ ρ)) s)
  cases q : t1 st with
  | ok a s =>
    rw [q] at this
    obtain ⟨e, q2, m2⟩ := this
    exact ⟨e, q2, m2.sub (hs a)⟩
  | ex k s => rw [q] at this; exact this
  | bad => exact trivial
theorem ev_some {en : α → PD} {t : T α} (h1 : Ev Γ en f t) : Ev Γ (eOp en) f (t >>= fun a => Pure.pure (some a)) := fun env st m => by
  have := h1 env st m
  show Rf (eOp en) (f env st) ((t st).bind fun a s => .ok (some a) s)
  cases q : t st with
  | ok a s => rw [q] at this; exact this
  | ex k s => rw [q] at this; exact this
  | bad => exact trivial
theorem ev_ca {γ : Type} {g : γ → List PD} {t : T γ} (hc : Ca Γ fa (fun ds s => .ok ds s) g t) : Ev Γ g fa t := fun env st m => by
  have := hc env st m
  cases q : fa env st with
  | ok a s => rw [q] at this; exact this
  | ex c s => rw [q] at this; exact this
  | bad => rw [q] at this; exact this
theorem sg_unlet {Γ1 : σ → DL.Env} {a : σ} {k : σ → T φ} (h1 : Sv Γ g (Γ1 a)) (h2 : ∀ x, Sg X (Γ1 x) P sSkip (k x)) : Sg X Γ P g (k a) := Sg.skipend (sg_let h1 h2)
theorem lf_rt {en : ρ → PD} (v : ρ) (s : S) : Lv (Pf en) v s (.ok (.rt (en v)) s) := ⟨rfl, fun _ _ q => by cases q⟩
theorem ll_rt {en : ρ → PD} (v : ρ) (s : S) : Lv (Pl G en) (.rt v) s (.ok (.rt (en v)) s) := ⟨rfl, fun _ _ q => by cases q⟩
theorem sf_retN : Sg X Γ (Lv (Pf eNo)) sRetN (Pure.pure ()) := fun env st m => ⟨rfl, fun e s' q => by cases q⟩
theorem sf_retNo {en : ρ → PD} : Sg X Γ (Lv (Pf (eOp en))) sRetN (Pure.pure none) := fun env st m => ⟨rfl, fun e s' q => by cases q⟩
/-- texts: equal, where both are texts of Python -/
def T.eqS (a b : Str) : T Bool := T.gd (PyData.strOk a && PyData.strOk b) (decide (a = b))
def T.neS (a b : Str) : T Bool := T.gd (PyData.strOk a && PyData.strOk b) (!decide (a = b))
theorem T.eqS_ok {a b : Str} (h : PyData.strOk a = true) (h' : PyData.strOk b = true) : T.eqS a b = Pure.pure (decide (a = b)) := by
  unfold T.eqS; rw [h, h']; rfl
theorem T.neS_ok {a b : Str} (h : PyData.strOk a = true) (h' : PyData.strOk b = true) : T.neS a b = Pure.pure (!decide (a = b)) := by
  unfold T.neS; rw [h, h']; rfl
theorem o_eqS (a b : Str) : O2 opEq (.str a) (.str b) eBo (T.eqS a b) := fun s => by
  unfold T.eqS T.gd
  by_cases h : (PyData.strOk a && PyData.strOk b) = true
  · rw [if_pos h]
    rw [Bool.and_eq_true] at h
    rw [opEq_str h.1 h.2]; exact rfl
  · rw [if_neg h]; exact trivial
theorem o_neS (a b : Str) : O2 opNe (.str a) (.str b) eBo (T.neS a b) := fun s => by
  unfold T.neS T.gd
  by_cases h : (PyData.strOk a && PyData.strOk b) = true
  · rw [if_pos h]
    rw [Bool.and_eq_true] at h
    rw [opNe_str h.1 h.2]; exact rfl
  · rw [if_neg h]; exact trivial
end
section
variable {A : Type} [DecidableEq A] {n : Nat} {a : A → PD}
/-- None or a value of a kind that is never None -/
theorem kOp (h : Kd n a) (hn : ∀ x y, PyData.eqv (a x) .none = false ∧ PyData.eqv .none (a y) = false) : Kd n (eOp a) := ⟨fun x => by
  cases x with
  | none => rfl
  | some x => exact h.lay x, fun x => by
  cases x with
  | none => show PyData.depth .none ≤ n; simp [PyData.depth]
  | some x => exact h.dep x, fun x y => by
  cases x with
  | none =>
    cases y with
    | none => simp [eOp, PyData.eqv]
    | some y => show PyData.eqv .none (a y) = _; rw [(hn y y).2]; simp
  | some x =>
    cases y with
    | none => show PyData.eqv (a x) .none = _; rw [(hn x x).1]; simp
    | some y => show PyData.eqv (a x) (a y) = _; rw [h.eqv]; simp, fun x => by
  cases x with
  | none => rfl
  | some x => exact h.isd x⟩
end
/-- a list of just so many items, as a tuple -/
def T.un2 {α : Type} : List α → T (α × α)
  | [a, b] => Pure.pure (a, b)
  | _ => T.bad
def T.un3 {α : Type} : List α → T (α × α × α)
  | [a, b, c] => Pure.pure (a, b, c)
  | _ => T.bad
def T.un4 {α : Type} : List α → T (α × α × α × α)
  | [a, b, c, d] => Pure.pure (a, b, c, d)
  | _ => T.bad
@[simp] theorem T.un2_eq {α : Type} (a b : α) : T.un2 [a, b] = Pure.pure (a, b) := rfl
@[simp] theorem T.un3_eq {α : Type} (a b c : α) : T.un3 [a, b, c] = Pure.pure (a, b, c) := rfl
@[simp] theorem T.un4_eq {α : Type} (a b c d : α) : T.un4 [a, b, c, d] = Pure.pure (a, b, c, d) := rfl
section
variable {Γ : DL.Env} {α β : Type} {en : α → PD} {f : DL.Env → M PD}
theorem ev_re {g g' : β → PD} {α' : Type} {h : α' → PD} {t : T α'} {k : α' → T β} (h1 : Ev Γ h f t) (hk : ∀ a s, Rf g (.ok (h a) s) (k a s)) : Ev Γ g f (t >>= k) := fun env st m => by
  have := h1 env st m
  show Rf g (f env st) ((t st).bind fun a s => k a s)
  cases q : t st with
  | ok a s => rw [q] at this; rw [show f env st = .ok (h a) s from this]; exact hk a s
  | ex c s => rw [q] at this; exact this
  | bad => exact trivial
theorem un2_rf (w : List PD → PD) (l : List α) (s : S) : Rf (fun p : α × α => w [en p.1, en p.2]) (.ok (w (l.map en)) s) (T.un2 l s) := by
  match l with
  | [a, b] => exact rfl
  | [] => exact trivial
  | [_] => exact trivial
  | _ :: _ :: _ :: _ => exact trivial
theorem un3_rf (w : List PD → PD) (l : List α) (s : S) : Rf (fun p : α × α × α => w [en p.1, en p.2.1, en p.2.2]) (.ok (w (l.map en)) s) (T.un3 l s) := by
  match l with
  | [a, b, c] => exact rfl
  | [] => exact trivial
  | [_] => exact trivial
  | [_, _] => exact trivial
  | _ :: _ :: _ :: _ :: _ => exact trivial
theorem un4_rf (w : List PD → PD) (l : List α) (s : S) : Rf (fun p : α × α × α × α => w [en p.1, en p.2.1, en p.2.2.1, en p.2.2.2]) (.ok (w (l.map en)) s) (T.un4 l s) := by
  match l with
  | [a, b, c, d] => exact rfl
  | [] => exact trivial
  | [_] => exact trivial
  | [_, _] => exact trivial
  | [_, _, _] => exact trivial
  | _ :: _ :: _ :: _ :: _ :: _ => exact trivial
theorem ev_un2 {t : T (List α)} (h : Ev Γ (eVT en) f t) : Ev Γ (eT2 en en) f (t >>= T.un2) := ev_re (g' := eT2 en en) h (un2_rf .tuple)
theorem ev_un3 {t : T (List α)} (h : Ev Γ (eVT en) f t) : Ev Γ (eT3 en en en) f (t >>= T.un3) := ev_re (g' := eT3 en en en) h (un3_rf .tuple)
theorem ev_un4 {t : T (List α)} (h : Ev Γ (eVT en) f t) : Ev Γ (eT4 en en en en) f (t >>= T.un4) := ev_re (g' := eT4 en en en en) h (un4_rf .tuple)
theorem ev_unL2 {t : T (List α)} (h : Ev Γ (eLs en) f t) : Ev Γ (eF2 en en) f (t >>= T.un2) := ev_re (g' := eF2 en en) h (un2_rf .list)
theorem ev_unL3 {t : T (List α)} (h : Ev Γ (eLs en) f t) : Ev Γ (eF3 en en en) f (t >>= T.un3) := ev_re (g' := eF3 en en en) h (un3_rf .list)
theorem ev_unL4 {t : T (List α)} (h : Ev Γ (eLs en) f t) : Ev Γ (eF4 en en en en) f (t >>= T.un4) := ev_re (g' := eF4 en en en en) h (un4_rf .list)
end
end DL.TL
/-! TL5: loops of common kinds; sorted lists; fuel. -/
namespace DL.TL
open PySem PySem.Spec PyProof.Rows L2
section
variable {α β σ ρ : Type}
/-- a loop that appends to a list what passes -/
theorem T.fo_app {k : List β → α → T (List β)} {q : α → Bool} {r : α → β} : ∀ (l : List α) (x : List β), x.length + l.length ≤ 10000000 → (∀ x, x.length ≤ 10000000 → ∀ a ∈ l, k x a = Pure.pure (if q a = true then x ++ [r a] else x)) → T.fo k l x = Pure.pure (x ++ (l.filter q).map r)
  | [], x, _, _ => by simp
  | a :: l, x, hl, h => by
    simp only [List.length_cons] at hl
    rw [T.fo_cons, h x (by omega) a (List.mem_cons_self ..), T.ret_bind]
    cases e : q a with
    | true =>
      rw [if_pos rfl, T.fo_app l _ (by simp; omega) (fun y hy b m => h y hy b (List.mem_cons_of_mem _ m)), List.filter_cons_of_pos e]
      simp
    | false =>
      rw [if_neg (by decide), T.fo_app l _ (by omega) (fun y hy b m => h y hy b (List.mem_cons_of_mem _ m)), List.filter_cons_of_neg (by simp [e])]
/-- a loop that returns at the first that passes -/
theorem T.foF_find {k : σ → α → T (Fl σ ρ)} {q : α → Bool} {v : ρ} : ∀ (l : List α) (x : σ), (∀ a ∈ l, k x a = Pure.pure (if q a = true then .rt v else .nx x)) → T.foF k l x = Pure.pure (if l.any q = true then .rt v else .nx x)
  | [], x, _ => by simp
  | a :: l, x, h => by
    have ha := h a (List.mem_cons_self ..)
    have ih := T.foF_find l x fun b m => h b (List.mem_cons_of_mem _ m)
    cases e : q a with
    | true =>
      rw [e, if_pos rfl] at ha
      rw [T.foF_rt ha]; simp [e]
    | false =>
      rw [e, if_neg (by decide)] at ha
      rw [T.foF_nx ha, ih]; simp [e]
theorem T.foF_none {k : σ → α → T (Fl σ ρ)} : ∀ (l : List α) (x : σ), (∀ a ∈ l, k x a = Pure.pure (.nx x)) → T.foF k l x = Pure.pure (.nx x)
  | [], x, _ => rfl
  | a :: l, x, h => by
    rw [T.foF_nx (h a (List.mem_cons_self ..))]
    exact T.foF_none l x fun b m => h b (List.mem_cons_of_mem _ m)
theorem mem_rangeI {lo hi a : Int} : a ∈ rangeI lo hi ↔ lo ≤ a ∧ a < hi := by
  unfold rangeI
  simp only [List.mem_map, List.mem_range]
  constructor
  · rintro ⟨i, h, rfl⟩; omega
  · rintro ⟨h1, h2⟩
    exact ⟨(a - lo).toNat, by omega, by omega⟩
theorem len_rangeI (lo hi : Int) : (rangeI lo hi).length = (hi - lo).toNat := by simp [rangeI]
theorem T.wh_fuel {c : σ → T Bool} {k : σ → T σ} {x y : σ} (n : Nat) (h : T.whN c k n x = Pure.pure y) : T.wh c k x = Pure.pure y := by
  funext s
  have e : T.whN c k n x s = .ok y s := by rw [h]; rfl
  rw [T.wh_of (n := n) (by rw [e]; exact fun z => by cases z), e]; rfl
end
theorem isort_filter (q : Int → Bool) (l : List Int) : isort (l.filter q) = (isort l).filter q :=
  PySem.W.ksm_same ((isort_perm _).trans ((isort_perm l).symm.filter q)) (isort_sorted _) ((isort_sorted l).filter q)
theorem filter_congr_mem {α : Type} {p q : α → Bool} {l : List α} (h : ∀ a ∈ l, p a = q a) : l.filter p = l.filter q := by
  induction l with
  | nil => rfl
  | cons a l ih =>
    have i := ih fun b m => h b (List.mem_cons_of_mem _ m)
    have ha := h a (List.mem_cons_self ..)
    simp only [List.filter_cons, ha, i]
theorem isortP_filter (q : Int × Int → Bool) (l : List (Int × Int)) (hs : ∀ p ∈ l, smP p = true) : isortP (l.filter q) = (isortP l).filter q := by
  unfold isortP
  have e : (l.filter q).map pcode = (l.map pcode).filter fun c => q (pdec c) := by
    rw [List.filter_map]
    congr 1
    refine filter_congr_mem fun p m => ?_
    show q p = q (pdec (pcode p))
    rw [pdec_code (hs p m)]
  rw [e, isort_filter, List.filter_map]
  rfl
theorem T.sortP_ok {l : List (Int × Int)} (h : l.length < 64) (hs : ∀ p ∈ l, smP p = true) : T.sortP l = Pure.pure (isortP l) := by
  unfold T.sortP T.gd
  rw [if_pos]
  rw [decide_eq_true h, Bool.true_and]
  exact List.all_eq_true.mpr hs
section
variable {α β σ : Type}
/-- a loop in which the state changes, with an invariant -/
theorem wp_fo {k : σ → α → T σ} (I : Nat → σ → S → Prop) : ∀ (l : List α) (n : Nat) (x : σ) (s : S) (Q : σ → S → Prop), (∀ i a x s, l[i]? = some a → I (n + i) x s → wp (k x a) s fun y s' => I (n + i + 1) y s') → I n x s → (∀ y s', I (n + l.length) y s' → Q y s') → wp (T.fo k l x) s Q
  | [], n, x, s, Q, _, h, hq => hq x s h
  | a :: l, n, x, s, Q, hs, h, hq => by
    refine wp_bind (wp_mono (hs 0 a x s rfl h) fun y s' i => ?_)
    refine wp_fo I l (n + 1) y s' Q (fun j b w s q r => ?_) i fun y s' r => hq y s' (by rw [List.length_cons, show n + (l.length + 1) = n + 1 + l.length from by omega]; exact r)
    have := hs (j + 1) b w s (by simpa using q) (by rw [show n + (j + 1) = n + 1 + j from by omega]; exact r)
    rw [show n + (j + 1) + 1 = n + 1 + j + 1 from by omega] at this
    exact this
/-- a comprehension of draws and the like -/
theorem wp_comp {e : α → T β} {P : List β → S → Prop} : ∀ (l : List α) (s : S) (Q : List β → S → Prop) (J : S → Prop) (V : α → β → Prop), l.length ≤ 10000000 → J s → (∀ a s, a ∈ l → J s → wp (e a) s fun y s' => J s' ∧ V a y) → (∀ ys s', J s' → ys.length = l.length → (∀ (i : Nat) a y, l[i]? = some a → ys[i]? = some y → V a y) → Q ys s') → wp (T.comp l (fun _ => Pure.pure true) e) s Q := by
  intro l s Q J V hl hj he hq
  unfold T.comp
  rw [if_pos hl]
  clear hl
  induction l generalizing s Q with
  | nil => exact hq [] s hj rfl (fun i a y h => by simp at h)
  | cons a l ih =>
    unfold T.compGo
    rw [T.nox_pure, T.ret_bind, if_pos rfl]
    have h1 := he a s (List.mem_cons_self ..) hj
    obtain ⟨y, s1, e1, j1, v1⟩ := wp_iff.mp h1
    refine wp_bind (wp_iff.mpr ⟨y, s1, by show (e a s).noex = _; rw [e1]; rfl, ?_⟩)
    refine wp_bind (ih s1 _ j1 (fun b s m => he b s (List.mem_cons_of_mem _ m)) fun ys s2 j2 hl hv => ?_)
    refine hq (y :: ys) s2 j2 (by simp [hl]) fun i b z h1 h2 => ?_
    cases i with
    | zero => simp at h1 h2; subst h1; subst h2; exact v1
    | succ i => exact hv i b z (by simpa using h1) (by simpa using h2)
end
end DL.TL
/-! NT1: primes, products of powers of them. -/
namespace DL.TL
def Pr (p : Nat) : Prop := 2 ≤ p ∧ ∀ d, d ∣ p → d = 1 ∨ d = p
theorem Pr.two {p : Nat} (h : Pr p) : 2 ≤ p := h.1
theorem pr_of {p : Nat} (h : 2 ≤ p) (h2 : ∀ d, 2 ≤ d → d < p → ¬ d ∣ p) : Pr p := ⟨h, fun d hd => by
  by_cases e : d = p
  · exact .inr e
  · have hl := Nat.le_of_dvd (by omega) hd
    have h0 : d ≠ 0 := fun z => by subst z; rw [Nat.zero_dvd] at hd; omega
    by_cases e1 : d = 1
    · exact .inl e1
    · exact absurd hd (h2 d (by omega) (by omega))⟩
theorem Pr.cop {p a : Nat} (h : Pr p) (h2 : ¬ p ∣ a) : Nat.gcd p a = 1 := by
  rcases h.2 _ (Nat.gcd_dvd_left p a) with e | e
  · exact e
  · exact absurd (e ▸ Nat.gcd_dvd_right p a) h2
theorem Pr.dvd_mul {p a b : Nat} (h : Pr p) (hd : p ∣ a * b) : p ∣ a ∨ p ∣ b := by
  by_cases e : p ∣ a
  · exact .inl e
  · exact .inr (Nat.Coprime.dvd_of_dvd_mul_left (h.cop e) hd)
theorem Pr.dvd_pow {p a : Nat} (h : Pr p) : ∀ {k : Nat}, p ∣ a ^ k → p ∣ a
  | 0, hd => by
    rw [Nat.pow_zero] at hd
    have := Nat.le_of_dvd (by decide) hd
    have := h.1
    omega
  | k + 1, hd => by
    rw [Nat.pow_succ] at hd
    rcases h.dvd_mul hd with e | e
    · exact h.dvd_pow e
    · exact e
theorem Pr.eq_of_dvd {p q : Nat} (h : Pr p) (h' : Pr q) (hd : p ∣ q) : p = q := by
  rcases h'.2 p hd with e | e
  · have := h.1; omega
  · exact e
theorem exists_prime {n : Nat} (h : 2 ≤ n) : ∃ p, Pr p ∧ p ∣ n := by
  induction n using Nat.strongRecOn with
  | _ n ih =>
    by_cases e : Pr n
    · exact ⟨n, e, Nat.dvd_refl n⟩
    · have : ∃ d, 2 ≤ d ∧ d < n ∧ d ∣ n := by
        refine Classical.byContradiction fun hn => e (pr_of h fun d h1 h2 h3 => hn ⟨d, h1, h2, h3⟩)
      obtain ⟨d, h1, h2, h3⟩ := this
      obtain ⟨p, hp, hd⟩ := ih d h2 h1
      exact ⟨p, hp, Nat.dvd_trans hd h3⟩
def pw : List (Nat × Nat) → Nat
  | [] => 1
  | q :: l => q.1 ^ q.2 * pw l
theorem pw_append : ∀ l m : List (Nat × Nat), pw (l ++ m) = pw l * pw m
  | [], m => by simp [pw]
  | q :: l, m => by simp [pw, pw_append l m, Nat.mul_assoc]
def cst (l : List (Nat × Nat)) : List (Int × Int) := l.map fun q => ((q.1 : Int), (q.2 : Int))
theorem cst_append (l m : List (Nat × Nat)) : cst (l ++ m) = cst l ++ cst m := List.map_append ..
theorem cst_len (l : List (Nat × Nat)) : (cst l).length = l.length := List.length_map ..
theorem cst_inj {l m : List (Nat × Nat)} (h : cst l = cst m) : l = m := by
  refine (List.map_inj_right (f := fun q : Nat × Nat => ((q.1 : Int), (q.2 : Int))) ?_).mp h
  intro x y e
  obtain ⟨a, b⟩ := x
  obtain ⟨c, d⟩ := y
  simp only [Prod.mk.injEq] at e ⊢
  omega
/-- the list of the primes of a number and how often each divides it -/
structure Fac (n : Nat) (l : List (Nat × Nat)) : Prop where
  eq : pw l = n
  asc : l.Pairwise fun a b => a.1 < b.1
  pr : ∀ q ∈ l, Pr q.1 ∧ 1 ≤ q.2
theorem dvd_pw {p : Nat} (h : Pr p) : ∀ {l : List (Nat × Nat)}, (∀ q ∈ l, Pr q.1) → p ∣ pw l → ∃ q ∈ l, p = q.1
  | [], _, hd => by
    have := Nat.le_of_dvd (by decide) hd
    have := h.1
    simp only [pw] at *
    omega
  | q :: l, hq, hd => by
    rcases h.dvd_mul hd with e | e
    · exact ⟨q, List.mem_cons_self .., h.eq_of_dvd (hq q (List.mem_cons_self ..)) (h.dvd_pow e)⟩
    · obtain ⟨r, hr, e2⟩ := dvd_pw h (fun r m => hq r (List.mem_cons_of_mem _ m)) e
      exact ⟨r, List.mem_cons_of_mem _ hr, e2⟩
theorem pw_dvd {l : List (Nat × Nat)} {q : Nat × Nat} (h : q ∈ l) : q.1 ^ q.2 ∣ pw l := by
  induction l with
  | nil => cases h
  | cons r l ih =>
    rcases List.mem_cons.mp h with rfl | h
    · exact Nat.dvd_mul_right _ _
    · exact Nat.dvd_trans (ih h) (Nat.dvd_mul_left _ _)
theorem pw_pos {l : List (Nat × Nat)} (h : ∀ q ∈ l, Pr q.1) : 0 < pw l := by
  induction l with
  | nil => exact Nat.one_pos
  | cons q l ih =>
    have := (h q (List.mem_cons_self ..)).1
    exact Nat.mul_pos (Nat.pow_pos (by omega)) (ih fun r m => h r (List.mem_cons_of_mem _ m))
/-- there is just one such list -/
theorem Fac.uniq : ∀ {l m : List (Nat × Nat)} {n : Nat}, Fac n l → Fac n m → l = m
  | [], [], _, _, _ => rfl
  | [], q :: m, n, h, h' => by
    have hq := h'.pr q (List.mem_cons_self ..)
    have hd : q.1 ∣ pw (q :: m) := Nat.dvd_trans (Nat.dvd_trans (by
      have : q.2 = (q.2 - 1) + 1 := by omega
      rw [this, Nat.pow_succ]; exact Nat.dvd_mul_left _ _) (Nat.dvd_mul_right (q.1 ^ q.2) (pw m))) (Nat.dvd_refl _)
    rw [h'.eq, ← h.eq] at hd
    obtain ⟨r, hr, _⟩ := dvd_pw hq.1 (fun r m => (h.pr r m).1) hd
    cases hr
  | q :: m, [], n, h', h => by
    have hq := h'.pr q (List.mem_cons_self ..)
    have hd : q.1 ∣ pw (q :: m) := Nat.dvd_trans (Nat.dvd_trans (by
      have : q.2 = (q.2 - 1) + 1 := by omega
      rw [this, Nat.pow_succ]; exact Nat.dvd_mul_left _ _) (Nat.dvd_mul_right (q.1 ^ q.2) (pw m))) (Nat.dvd_refl _)
    rw [h'.eq, ← h.eq] at hd
    obtain ⟨r, hr, _⟩ := dvd_pw hq.1 (fun r m => (h.pr r m).1) hd
    cases hr
  | q :: l, r :: m, n, h, h' => by
    have key : ∀ {q r : Nat × Nat} {l m : List (Nat × Nat)}, Fac n (q :: l) → Fac n (r :: m) → r.1 ≤ q.1 := by
      intro q r l m h h'
      have hq := h.pr q (List.mem_cons_self ..)
      have hd : q.1 ∣ pw (q :: l) := Nat.dvd_trans (by
        have : q.2 = (q.2 - 1) + 1 := by omega
        rw [this, Nat.pow_succ]; exact Nat.dvd_mul_left _ _) (Nat.dvd_mul_right (q.1 ^ q.2) (pw l))
      rw [h.eq, ← h'.eq] at hd
      obtain ⟨x, hx, e⟩ := dvd_pw hq.1 (fun r m => (h'.pr r m).1) hd
      rcases List.mem_cons.mp hx with rfl | hx
      · omega
      · have := (List.pairwise_cons.mp h'.asc).1 x hx
        omega
    have e1 : q.1 = r.1 := by
      have := key h h'
      have := key h' h
      omega
    have hq := h.pr q (List.mem_cons_self ..)
    have hr := h'.pr r (List.mem_cons_self ..)
    have nd : ∀ {q : Nat × Nat} {l : List (Nat × Nat)}, Fac n (q :: l) → ¬ q.1 ∣ pw l := by
      intro q l h hd
      obtain ⟨x, hx, e⟩ := dvd_pw (h.pr q (List.mem_cons_self ..)).1 (fun r m => (h.pr r (List.mem_cons_of_mem _ m)).1) hd
      have := (List.pairwise_cons.mp h.asc).1 x hx
      omega
    have pe : q.1 ^ q.2 * pw l = r.1 ^ r.2 * pw m := h.eq.trans h'.eq.symm
    have e2 : q.2 = r.2 := by
      have lt : ∀ {q r : Nat × Nat} {l m : List (Nat × Nat)}, q.1 = r.1 → 0 < q.1 → q.1 ^ q.2 * pw l = r.1 ^ r.2 * pw m → ¬ q.1 ∣ pw l → ¬ q.2 < r.2 := by
        intro q r l m e h0 pe nd hl
        rw [← e] at pe
        have : r.2 = q.2 + ((r.2 - q.2 - 1) + 1) := by omega
        rw [this, Nat.pow_add, Nat.mul_assoc] at pe
        have := Nat.eq_of_mul_eq_mul_left (Nat.pow_pos h0) pe
        rw [Nat.pow_succ, Nat.mul_assoc] at this
        exact nd ⟨q.1 ^ (r.2 - q.2 - 1) * pw m, by rw [this]; exact Nat.mul_left_comm _ _ _⟩
      have h0 : 0 < q.1 := by have := hq.1.1; omega
      have l1 := lt e1 h0 pe (nd h)
      have l2 := lt e1.symm (by omega) pe.symm (nd h')
      omega
    have e3 : pw l = pw m := by
      rw [e1, e2] at pe
      exact Nat.eq_of_mul_eq_mul_left (Nat.pow_pos (by have := hr.1.1; omega)) pe
    have := Fac.uniq (l := l) (m := m) ⟨rfl, (List.pairwise_cons.mp h.asc).2, fun x hx => h.pr x (List.mem_cons_of_mem _ hx)⟩ ⟨e3.symm, (List.pairwise_cons.mp h'.asc).2, fun x hx => h'.pr x (List.mem_cons_of_mem _ hx)⟩
    rw [this, Prod.ext e1 e2]
theorem fac_prime {n : Nat} (h : Pr n) : Fac n [(n, 1)] := ⟨by simp [pw], List.pairwise_singleton .., fun q m => by
  rcases List.mem_singleton.mp m with rfl
  exact ⟨h, Nat.le_refl 1⟩⟩
end DL.TL
namespace LW
open PySem PySem.Spec PyProof.Rows L2 DL
def topS (i : Nat) : Stmt := PySem.Challenge.pw_rootsooth_k20_whole_rings_of_cubic_forms.main.body.getD i (.Pass ⟨0, 0, 0, 0⟩)
def known : List Str := ["TooLarge", "NotPossible"]
abbrev s_factorization : Stmt := topS 6
noncomputable def g_factorization : MS :=
  (sSeq (sIf (tV (e2 opGt (eV 0) (eC (.int 1000000000000)))) (sRaise "TooLarge") sSkip)
  (sSeq (sNew 1 (nLst aNil))
  (sSeq (sSet 2 (eC (.int 2)))
  (sSeq (sWhile (tV (e2 opLe (e2 opMul (eV 2) (eV 2)) (eV 0))) (sSeq (sSet 3 (eC (.int 0)))
  (sSeq (sWhile (tV (e2 opEq (e2 opMod (eV 0) (eV 2)) (eC (.int 0)))) (sSeq (sAug 0 opDivP (eV 2))
  (sAug 3 opAddA (eC (.int 1)))))
  (sSeq (sIf (tV (e2 opGt (eV 3) (eC (.int 0)))) (sApp 1 (eTup (aCons (eV 2) (aCons (eV 3) aNil)))) sSkip)
  (sAug 2 opAddA (eIf (tV (e2 opEq (eV 2) (eC (.int 2)))) (eC (.int 1)) (eC (.int 2))))))))
  (sSeq (sIf (tV (e2 opGt (eV 0) (eC (.int 1)))) (sApp 1 (eTup (aCons (eV 0) (aCons (eC (.int 1)) aNil)))) sSkip)
  (sRet (eB opTuple (aCons (ePk 1) aNil))))))))
noncomputable def m_factorization : List PD → M PD := runFn 1 4 g_factorization
abbrev s_is_prime : Stmt := topS 7
noncomputable def g_is_prime : MS :=
  (sRet (eAnd (e2 opGt (eV 0) (eC (.int 1))) (e2 opEq (callF 1 m_factorization (aCons (eV 0) aNil)) (eTup (aCons (eTup (aCons (eV 0) (aCons (eC (.int 1)) aNil))) aNil)))))
noncomputable def m_is_prime : List PD → M PD := runFn 1 1 g_is_prime
abbrev s_cubic_value : Stmt := topS 9
noncomputable def g_cubic_value : MS :=
  (sSeq (sAsg (eV 0) (tgT 4 (tgsCons (tgN 3) (tgsCons (tgN 4) (tgsCons (tgN 5) (tgsCons (tgN 6) tgsNil))))))
  (sRet (e2 opAdd (e2 opAdd (e2 opAdd (e2 opMul (e2 opMul (e2 opMul (eV 3) (eV 1)) (eV 1)) (eV 1)) (e2 opMul (e2 opMul (e2 opMul (eV 4) (eV 1)) (eV 1)) (eV 2))) (e2 opMul (e2 opMul (e2 opMul (eV 5) (eV 1)) (eV 2)) (eV 2))) (e2 opMul (e2 opMul (e2 opMul (eV 6) (eV 2)) (eV 2)) (eV 2)))))
noncomputable def m_cubic_value : List PD → M PD := runFn 3 7 g_cubic_value
abbrev s_turned_cubic : Stmt := topS 10
noncomputable def g_turned_cubic : MS :=
  (sSeq (sAsg (eV 0) (tgT 4 (tgsCons (tgN 2) (tgsCons (tgN 3) (tgsCons (tgN 4) (tgsCons (tgN 5) tgsNil))))))
  (sSeq (sAsg (eV 1) (tgT 4 (tgsCons (tgN 6) (tgsCons (tgN 7) (tgsCons (tgN 8) (tgsCons (tgN 9) tgsNil))))))
  (sSeq (sSet 10 (callF 3 m_cubic_value (aCons (eV 0) (aCons (eV 6) (aCons (eV 8) aNil)))))
  (sSeq (sSet 11 (callF 3 m_cubic_value (aCons (eV 0) (aCons (eV 7) (aCons (eV 9) aNil)))))
  (sSeq (sSet 12 (e2 opAdd (e2 opAdd (e2 opAdd (e2 opMul (e2 opMul (e2 opMul (e2 opMul (eC (.int 3)) (eV 2)) (eV 6)) (eV 6)) (eV 7)) (e2 opMul (eV 3) (e2 opAdd (e2 opMul (e2 opMul (eV 6) (eV 6)) (eV 9)) (e2 opMul (e2 opMul (e2 opMul (eC (.int 2)) (eV 6)) (eV 7)) (eV 8))))) (e2 opMul (eV 4) (e2 opAdd (e2 opMul (e2 opMul (eV 7) (eV 8)) (eV 8)) (e2 opMul (e2 opMul (e2 opMul (eC (.int 2)) (eV 6)) (eV 8)) (eV 9))))) (e2 opMul (e2 opMul (e2 opMul (e2 opMul (eC (.int 3)) (eV 5)) (eV 8)) (eV 8)) (eV 9))))
  (sSeq (sSet 13 (e2 opAdd (e2 opAdd (e2 opAdd (e2 opMul (e2 opMul (e2 opMul (e2 opMul (eC (.int 3)) (eV 2)) (eV 6)) (eV 7)) (eV 7)) (e2 opMul (eV 3) (e2 opAdd (e2 opMul (e2 opMul (eV 7) (eV 7)) (eV 8)) (e2 opMul (e2 opMul (e2 opMul (eC (.int 2)) (eV 6)) (eV 7)) (eV 9))))) (e2 opMul (eV 4) (e2 opAdd (e2 opMul (e2 opMul (eV 6) (eV 9)) (eV 9)) (e2 opMul (e2 opMul (e2 opMul (eC (.int 2)) (eV 7)) (eV 8)) (eV 9))))) (e2 opMul (e2 opMul (e2 opMul (e2 opMul (eC (.int 3)) (eV 5)) (eV 8)) (eV 9)) (eV 9))))
  (sRet (eTup (aCons (eV 10) (aCons (eV 12) (aCons (eV 13) (aCons (eV 11) aNil))))))))))))
noncomputable def m_turned_cubic : List PD → M PD := runFn 2 14 g_turned_cubic
abbrev s_cubic_product : Stmt := topS 13
noncomputable def g_cubic_product : MS :=
  (sSeq (sAsg (eV 0) (tgT 4 (tgsCons (tgN 3) (tgsCons (tgN 4) (tgsCons (tgN 5) (tgsCons (tgN 6) tgsNil))))))
  (sSeq (sAsg (eV 1) (tgT 3 (tgsCons (tgN 7) (tgsCons (tgN 8) (tgsCons (tgN 9) tgsNil)))))
  (sSeq (sAsg (eV 2) (tgT 3 (tgsCons (tgN 10) (tgsCons (tgN 11) (tgsCons (tgN 12) tgsNil)))))
  (sSeq (sPar3 13 14 15 (aCons (e2 opMul (eV 8) (eV 11)) (aCons (e2 opAdd (e2 opMul (eV 8) (eV 12)) (e2 opMul (eV 9) (eV 11))) (aCons (e2 opMul (eV 9) (eV 12)) aNil))))
  (sRet (eTup (aCons (e2 opSub (e2 opSub (e2 opSub (e2 opMul (eV 7) (eV 10)) (e2 opMul (e2 opMul (eV 3) (eV 5)) (eV 13))) (e2 opMul (e2 opMul (eV 3) (eV 6)) (eV 14))) (e2 opMul (e2 opMul (eV 4) (eV 6)) (eV 15))) (aCons (e2 opSub (e2 opSub (e2 opAdd (e2 opMul (eV 7) (eV 11)) (e2 opMul (eV 8) (eV 10))) (e2 opMul (eV 4) (eV 13))) (e2 opMul (eV 6) (eV 15))) (aCons (e2 opAdd (e2 opAdd (e2 opAdd (e2 opMul (eV 7) (eV 12)) (e2 opMul (eV 9) (eV 10))) (e2 opMul (eV 3) (eV 13))) (e2 opMul (eV 5) (eV 15))) aNil)))))))))
noncomputable def m_cubic_product : List PD → M PD := runFn 3 16 g_cubic_product
abbrev s_cubic_sum : Stmt := topS 14
noncomputable def g_cubic_sum : MS :=
  (sRet (eTup (aCons (e2 opAdd (e2 opIx (eV 0) (eC (.int 0))) (e2 opIx (eV 1) (eC (.int 0)))) (aCons (e2 opAdd (e2 opIx (eV 0) (eC (.int 1))) (e2 opIx (eV 1) (eC (.int 1)))) (aCons (e2 opAdd (e2 opIx (eV 0) (eC (.int 2))) (e2 opIx (eV 1) (eC (.int 2)))) aNil)))))
noncomputable def m_cubic_sum : List PD → M PD := runFn 2 2 g_cubic_sum
abbrev s_cubic_matrix : Stmt := topS 15
noncomputable def g_cubic_matrix : MS :=
  (sRet (eB opTuple (aCons (eL (nComp (iAny (eTup (aCons (eTup (aCons (eC (.int 1)) (aCons (eC (.int 0)) (aCons (eC (.int 0)) aNil)))) (aCons (eTup (aCons (eC (.int 0)) (aCons (eC (.int 1)) (aCons (eC (.int 0)) aNil)))) (aCons (eTup (aCons (eC (.int 0)) (aCons (eC (.int 0)) (aCons (eC (.int 1)) aNil)))) aNil))))) (tgN 2) tYesF (callF 3 m_cubic_product (aCons (eV 0) (aCons (eV 1) (aCons (eV 2) aNil)))) [2])) aNil)))
noncomputable def m_cubic_matrix : List PD → M PD := runFn 2 3 g_cubic_matrix
abbrev s_cubic_trace : Stmt := topS 16
noncomputable def g_cubic_trace : MS :=
  (sSeq (sSet 2 (callF 2 m_cubic_matrix (aCons (eV 0) (aCons (eV 1) aNil))))
  (sRet (e2 opAdd (e2 opAdd (e2 opIx (e2 opIx (eV 2) (eC (.int 0))) (eC (.int 0))) (e2 opIx (e2 opIx (eV 2) (eC (.int 1))) (eC (.int 1)))) (e2 opIx (e2 opIx (eV 2) (eC (.int 2))) (eC (.int 2))))))
noncomputable def m_cubic_trace : List PD → M PD := runFn 2 3 g_cubic_trace
abbrev s_cubic_norm : Stmt := topS 17
noncomputable def g_cubic_norm : MS :=
  (sSeq (sAsg (callF 2 m_cubic_matrix (aCons (eV 0) (aCons (eV 1) aNil))) (tgT 3 (tgsCons (tgT 3 (tgsCons (tgN 2) (tgsCons (tgN 3) (tgsCons (tgN 4) tgsNil)))) (tgsCons (tgT 3 (tgsCons (tgN 5) (tgsCons (tgN 6) (tgsCons (tgN 7) tgsNil)))) (tgsCons (tgT 3 (tgsCons (tgN 8) (tgsCons (tgN 9) (tgsCons (tgN 10) tgsNil)))) tgsNil)))))
  (sRet (e2 opAdd (e2 opSub (e2 opMul (eV 2) (e2 opSub (e2 opMul (eV 6) (eV 10)) (e2 opMul (eV 7) (eV 9)))) (e2 opMul (eV 3) (e2 opSub (e2 opMul (eV 5) (eV 10)) (e2 opMul (eV 7) (eV 8))))) (e2 opMul (eV 4) (e2 opSub (e2 opMul (eV 5) (eV 9)) (e2 opMul (eV 6) (eV 8)))))))
noncomputable def m_cubic_norm : List PD → M PD := runFn 2 11 g_cubic_norm
abbrev s_cubic_second : Stmt := topS 18
noncomputable def g_cubic_second : MS :=
  (sSeq (sAsg (callF 2 m_cubic_matrix (aCons (eV 0) (aCons (eV 1) aNil))) (tgT 3 (tgsCons (tgT 3 (tgsCons (tgN 2) (tgsCons (tgN 3) (tgsCons (tgN 4) tgsNil)))) (tgsCons (tgT 3 (tgsCons (tgN 5) (tgsCons (tgN 6) (tgsCons (tgN 7) tgsNil)))) (tgsCons (tgT 3 (tgsCons (tgN 8) (tgsCons (tgN 9) (tgsCons (tgN 10) tgsNil)))) tgsNil)))))
  (sRet (e2 opSub (e2 opAdd (e2 opSub (e2 opAdd (e2 opSub (e2 opMul (eV 2) (eV 6)) (e2 opMul (eV 3) (eV 5))) (e2 opMul (eV 2) (eV 10))) (e2 opMul (eV 4) (eV 8))) (e2 opMul (eV 6) (eV 10))) (e2 opMul (eV 7) (eV 9)))))
noncomputable def m_cubic_second : List PD → M PD := runFn 2 11 g_cubic_second
abbrev s_fits_equation : Stmt := topS 19
noncomputable def g_fits_equation : MS :=
  (sSeq (sSet 2 (callF 3 m_cubic_product (aCons (eV 0) (aCons (eV 1) (aCons (eV 1) aNil)))))
  (sSeq (sSet 3 (callF 3 m_cubic_product (aCons (eV 0) (aCons (eV 2) (aCons (eV 1) aNil)))))
  (sSeq (sAsg (eTup (aCons (callF 2 m_cubic_trace (aCons (eV 0) (aCons (eV 1) aNil))) (aCons (callF 2 m_cubic_second (aCons (eV 0) (aCons (eV 1) aNil))) (aCons (callF 2 m_cubic_norm (aCons (eV 0) (aCons (eV 1) aNil))) aNil)))) (tgT 3 (tgsCons (tgN 4) (tgsCons (tgN 5) (tgsCons (tgN 6) tgsNil)))))
  (sSeq (sSet 7 (eB opTuple (aCons (eL (nComp (iRng rng1D (aCons (eC (.int 3)) aNil)) (tgN 8) tYesF (e2 opAdd (e2 opSub (e2 opIx (eV 3) (eV 8)) (e2 opMul (eV 4) (e2 opIx (eV 2) (eV 8)))) (e2 opMul (eV 5) (e2 opIx (eV 1) (eV 8)))) [8])) aNil)))
  (sRet (e2 opEq (eV 7) (eTup (aCons (eV 6) (aCons (eC (.int 0)) (aCons (eC (.int 0)) aNil))))))))))
noncomputable def m_fits_equation : List PD → M PD := runFn 2 9 g_fits_equation
abbrev s_trace_table : Stmt := topS 20
noncomputable def g_trace_table : MS :=
  (sSeq (sSet 1 (eTup (aCons (eTup (aCons (eC (.int 1)) (aCons (eC (.int 0)) (aCons (eC (.int 0)) aNil)))) (aCons (eTup (aCons (eC (.int 0)) (aCons (eC (.int 1)) (aCons (eC (.int 0)) aNil)))) (aCons (eTup (aCons (eC (.int 0)) (aCons (eC (.int 0)) (aCons (eC (.int 1)) aNil)))) aNil)))))
  (sRet (eB opTuple (aCons (eL (nComp (iAny (eV 1)) (tgN 3) tYesF (eB opTuple (aCons (eL (nComp (iAny (eV 1)) (tgN 2) tYesF (callF 2 m_cubic_trace (aCons (eV 0) (aCons (callF 3 m_cubic_product (aCons (eV 0) (aCons (eV 3) (aCons (eV 2) aNil)))) aNil))) [2])) aNil)) [3])) aNil))))
noncomputable def m_trace_table : List PD → M PD := runFn 1 4 g_trace_table
abbrev s_trace_discriminant : Stmt := topS 21
noncomputable def g_trace_discriminant : MS :=
  (sSeq (sAsg (callF 1 m_trace_table (aCons (eV 0) aNil)) (tgT 3 (tgsCons (tgT 3 (tgsCons (tgN 1) (tgsCons (tgN 2) (tgsCons (tgN 3) tgsNil)))) (tgsCons (tgT 3 (tgsCons (tgN 4) (tgsCons (tgN 5) (tgsCons (tgN 6) tgsNil)))) (tgsCons (tgT 3 (tgsCons (tgN 7) (tgsCons (tgN 8) (tgsCons (tgN 9) tgsNil)))) tgsNil)))))
  (sRet (e2 opAdd (e2 opSub (e2 opMul (eV 1) (e2 opSub (e2 opMul (eV 5) (eV 9)) (e2 opMul (eV 6) (eV 8)))) (e2 opMul (eV 2) (e2 opSub (e2 opMul (eV 4) (eV 9)) (e2 opMul (eV 6) (eV 7))))) (e2 opMul (eV 3) (e2 opSub (e2 opMul (eV 4) (eV 8)) (e2 opMul (eV 5) (eV 7)))))))
noncomputable def m_trace_discriminant : List PD → M PD := runFn 1 10 g_trace_discriminant
abbrev s_index_of : Stmt := topS 22
noncomputable def g_index_of : MS :=
  (sSeq (sSet 2 (callF 3 m_cubic_product (aCons (eV 0) (aCons (eV 1) (aCons (eV 1) aNil)))))
  (sRet (e2 opSub (e2 opMul (e2 opIx (eV 1) (eC (.int 1))) (e2 opIx (eV 2) (eC (.int 2)))) (e2 opMul (e2 opIx (eV 1) (eC (.int 2))) (e2 opIx (eV 2) (eC (.int 1)))))))
noncomputable def m_index_of : List PD → M PD := runFn 2 3 g_index_of
abbrev s_roots_modulo_prime : Stmt := topS 23
noncomputable def g_roots_modulo_prime : MS :=
  (sSeq (sIf (tNotF (tV (callF 1 m_is_prime (aCons (eV 1) aNil)))) (sRaise "NotPossible") sSkip)
  (sSeq (sIf (tV (e2 opGt (eV 1) (eC (.int 400)))) (sRaise "TooLarge") sSkip)
  (sSeq (sNew 2 (nComp (iRng rng1D (aCons (eV 1) aNil)) (tgN 3) (tV (e2 opEq (e2 opMod (callF 3 m_cubic_value (aCons (eV 0) (aCons (eV 3) (aCons (eC (.int 1)) aNil)))) (eV 1)) (eC (.int 0)))) (eTup (aCons (eV 3) (aCons (eC (.int 1)) aNil))) [3]))
  (sSeq (sIf (tV (e2 opEq (e2 opMod (e2 opIx (eV 0) (eC (.int 0))) (eV 1)) (eC (.int 0)))) (sApp 2 (eTup (aCons (eC (.int 1)) (aCons (eC (.int 0)) aNil)))) sSkip)
  (sRet (eL (nB opSortP (aCons (ePk 2) aNil))))))))
noncomputable def m_roots_modulo_prime : List PD → M PD := runFn 2 4 g_roots_modulo_prime
abbrev s_root_count : Stmt := topS 24
noncomputable def g_root_count : MS :=
  (sSeq (sAsg (eV 1) (tgT 2 (tgsCons (tgN 3) (tgsCons (tgN 4) tgsNil))))
  (sSeq (sAsg (callF 2 m_turned_cubic (aCons (eV 0) (aCons (eIf (tV (e2 opEq (eV 4) (eC (.int 1)))) (eTup (aCons (eV 3) (aCons (e1 opNeg (eC (.int 1))) (aCons (eC (.int 1)) (aCons (eC (.int 0)) aNil))))) (eTup (aCons (eC (.int 1)) (aCons (eC (.int 0)) (aCons (eC (.int 0)) (aCons (eC (.int 1)) aNil)))))) aNil))) (tgT 4 (tgsCons (tgN 5) (tgsCons (tgN 6) (tgsCons (tgN 7) (tgsCons (tgN 8) tgsNil))))))
  (sSeq (sIf (tV (e2 opNe (e2 opMod (eV 6) (eV 2)) (eC (.int 0)))) (sRet (eC (.int 1))) sSkip)
  (sRet (eIf (tV (e2 opNe (e2 opMod (eV 7) (eV 2)) (eC (.int 0)))) (eC (.int 2)) (eC (.int 3)))))))
noncomputable def m_root_count : List PD → M PD := runFn 3 9 g_root_count
abbrev s_splitting_of : Stmt := topS 25
noncomputable def g_splitting_of : MS :=
  (sSeq (sIf (tV (eB opAll (aCons (eL (nComp (iAny (eV 0)) (tgN 2) tYesF (e2 opEq (e2 opMod (eV 2) (eV 1)) (eC (.int 0))) [2])) aNil))) (sRet (eC (.str "0"))) sSkip)
  (sSeq (sSet 3 (callF 2 m_roots_modulo_prime (aCons (eV 0) (aCons (eV 1) aNil))))
  (sSeq (sSet 4 (eL (nB opSortI (aCons (eL (nComp (iAny (eV 3)) (tgN 5) tYesF (callF 3 m_root_count (aCons (eV 0) (aCons (eV 5) (aCons (eV 1) aNil)))) [5])) aNil))))
  (sSeq (sIf (tV (e2 opEq (eV 4) (eL (nLst (aCons (eC (.int 1)) (aCons (eC (.int 1)) (aCons (eC (.int 1)) aNil))))))) (sRet (eC (.str "1 1 1"))) sSkip)
  (sSeq (sIf (tV (e2 opEq (eV 4) (eL (nLst (aCons (eC (.int 1)) aNil))))) (sRet (eC (.str "1 2"))) sSkip)
  (sSeq (sIf (tV (e2 opEq (eV 4) (eL (nLst (aCons (eC (.int 1)) (aCons (eC (.int 2)) aNil)))))) (sRet (eC (.str "1 1^2"))) sSkip)
  (sRet (eIf (tV (e2 opEq (eV 4) (eL (nLst (aCons (eC (.int 3)) aNil))))) (eC (.str "1^3")) (eC (.str "3"))))))))))
noncomputable def m_splitting_of : List PD → M PD := runFn 2 6 g_splitting_of
abbrev s_is_largest_at : Stmt := topS 26
noncomputable def g_is_largest_at : MS :=
  (sSeq (sIf (tV (eB opAll (aCons (eL (nComp (iAny (eV 0)) (tgN 2) tYesF (e2 opEq (e2 opMod (eV 2) (eV 1)) (eC (.int 0))) [2])) aNil))) (sRet (eC (.bool false))) sSkip)
  (sSeq (sFor (iAny (callF 2 m_roots_modulo_prime (aCons (eV 0) (aCons (eV 1) aNil)))) (tgN 3) (sSeq (sAsg (eV 3) (tgT 2 (tgsCons (tgN 4) (tgsCons (tgN 5) tgsNil))))
  (sSeq (sAsg (callF 2 m_turned_cubic (aCons (eV 0) (aCons (eIf (tV (e2 opEq (eV 5) (eC (.int 1)))) (eTup (aCons (eV 4) (aCons (e1 opNeg (eC (.int 1))) (aCons (eC (.int 1)) (aCons (eC (.int 0)) aNil))))) (eTup (aCons (eC (.int 1)) (aCons (eC (.int 0)) (aCons (eC (.int 0)) (aCons (eC (.int 1)) aNil)))))) aNil))) (tgT 4 (tgsCons (tgN 6) (tgsCons (tgN 7) (tgsCons (tgN 8) (tgsCons (tgN 8) tgsNil))))))
  (sIf (tAndF (tV (e2 opEq (e2 opMod (eV 7) (eV 1)) (eC (.int 0)))) (tV (e2 opEq (e2 opMod (eV 6) (e2 opMul (eV 1) (eV 1))) (eC (.int 0))))) (sRet (eC (.bool false))) sSkip))))
  (sRet (eC (.bool true)))))
noncomputable def m_is_largest_at : List PD → M PD := runFn 2 9 g_is_largest_at
abbrev s__law_state : Stmt := topS 28
abbrev s__law_draw : Stmt := topS 29
noncomputable def g__law_draw : MS :=
  (sSeq (sIf (tV (e2 opEq (e2 opIx (eV 0) (eC (.int 3))) (eC (.int 0)))) (sSeq (sIf (tV (e2 opGe (e2 opIx (eV 0) (eC (.int 1))) (eB opLen (aCons (e2 opIx (eV 0) (eC (.int 0))) aNil)))) (sRet (eC (.int 0))) sSkip)
  (sSeq (sSet 2 (e2 opIx (e2 opIx (eV 0) (eC (.int 0))) (e2 opIx (eV 0) (eC (.int 1)))))
  (sSeq (sIf (tV (e2 opLt (eV 2) (eC (.int 0)))) (sSet 2 (e2 opSub (e1 opNeg (eC (.int 1))) (eV 2))) sSkip)
  (sSeq (sSt 0 1 (e2 opAdd (e2 opIx (eV 0) (eC (.int 1))) (eC (.int 1))))
  (sSeq (sSt 0 2 (eV 2))
  (sSeq (sSt 0 4 (e2 opGe (eV 2) (e2 opPow (eC (.int 10)) (eC (.int 18)))))
  (sSeq (sSt 0 3 (eC (.int 6)))
  (sIf (tV (e2 opIx (eV 0) (eC (.int 4)))) (sSt 0 3 (eC (.int 60))) sSkip)))))))) sSkip)
  (sSeq (sSt 0 3 (e2 opSub (e2 opIx (eV 0) (eC (.int 3))) (eC (.int 1))))
  (sSeq (sIf (tV (e2 opIx (eV 0) (eC (.int 4)))) (sSeq (sSet 3 (e2 opMod (eB opInt (aCons (e2 opIx (eV 0) (eC (.int 2))) aNil)) (eV 1)))
  (sSeq (sSt 0 2 (e2 opDiv (e2 opIx (eV 0) (eC (.int 2))) (eV 1)))
  (sSeq (sIf (tV (e2 opEq (e2 opIx (eV 0) (eC (.int 2))) (eC (.int 0)))) (sSt 0 3 (eC (.int 0))) sSkip)
  (sRet (eV 3))))) sSkip)
  (sSeq (sSet 4 (e2 opMod (eB opInt (aCons (e2 opAdd (e2 opAdd (e2 opMul (e2 opIx (eV 0) (eC (.int 2))) (eC (.int 48271))) (e2 opMul (e2 opIx (eV 0) (eC (.int 3))) (eC (.int 69621)))) (eC (.int 7))) aNil)) (eC (.int 2147483647))))
  (sSeq (sSet 4 (e2 opMod (eB opInt (aCons (e2 opAdd (e2 opAdd (e2 opMul (eV 4) (eV 4)) (e2 opMul (e2 opIx (eV 0) (eC (.int 2))) (eC (.int 31)))) (e2 opIx (eV 0) (eC (.int 3)))) aNil)) (eC (.int 1000003))))
  (sRet (e2 opMod (eB opInt (aCons (eV 4) aNil)) (eV 1))))))))
noncomputable def m__law_draw : List PD → M PD := runFn 2 5 g__law_draw
abbrev s__law_truth : Stmt := topS 30
noncomputable def g__law_truth : MS :=
  (sSeq (sIf (tV (eV 1)) (sRet (e2 (opIs false) (eV 0) (eC (.bool true)))) sSkip)
  (sRet (e2 (opIs false) (eV 0) (eC (.bool false)))))
noncomputable def m__law_truth : List PD → M PD := runFn 2 2 g__law_truth
abbrev s__law_matrix : Stmt := topS 31
noncomputable def g__law_matrix : MS :=
  (sSeq (sSet 3 (eTup (aCons (eC (.int 1)) (aCons (eC (.int 0)) (aCons (eC (.int 0)) (aCons (eC (.int 1)) aNil))))))
  (sSeq (sFor (iRng rng1D (aCons (callF 2 m__law_draw (aCons (eV 0) (aCons (e2 opAdd (eV 1) (eC (.int 1))) aNil))) aNil)) (tgN 4) (sSeq (sSet 5 (e2 opSub (callF 2 m__law_draw (aCons (eV 0) (aCons (e2 opAdd (e2 opMul (eC (.int 2)) (eV 2)) (eC (.int 1))) aNil))) (eV 2)))
  (sSeq (sAsg (eV 3) (tgT 4 (tgsCons (tgN 6) (tgsCons (tgN 7) (tgsCons (tgN 8) (tgsCons (tgN 9) tgsNil))))))
  (sSet 3 (eTup (aCons (e2 opAdd (e2 opMul (eV 6) (eV 5)) (eV 7)) (aCons (e2 opSub (eC (.int 0)) (eV 6)) (aCons (e2 opAdd (e2 opMul (eV 8) (eV 5)) (eV 9)) (aCons (e2 opSub (eC (.int 0)) (eV 8)) aNil)))))))))
  (sRet (eV 3))))
noncomputable def m__law_matrix : List PD → M PD := runFn 3 10 g__law_matrix
abbrev s__law_cubic_turned : Stmt := topS 35
noncomputable def g__law_cubic_turned : MS :=
  (sSeq (sAsg (eV 0) (tgT 4 (tgsCons (tgN 2) (tgsCons (tgN 3) (tgsCons (tgN 4) (tgsCons (tgN 5) tgsNil))))))
  (sSeq (sAsg (eV 1) (tgT 4 (tgsCons (tgN 6) (tgsCons (tgN 7) (tgsCons (tgN 8) (tgsCons (tgN 9) tgsNil))))))
  (sSeq (sSet 10 (e2 opAdd (e2 opAdd (e2 opAdd (e2 opMul (e2 opMul (e2 opMul (eV 2) (eV 6)) (eV 6)) (eV 6)) (e2 opMul (e2 opMul (e2 opMul (eV 3) (eV 6)) (eV 6)) (eV 8))) (e2 opMul (e2 opMul (e2 opMul (eV 4) (eV 6)) (eV 8)) (eV 8))) (e2 opMul (e2 opMul (e2 opMul (eV 5) (eV 8)) (eV 8)) (eV 8))))
  (sSeq (sSet 11 (e2 opAdd (e2 opAdd (e2 opAdd (e2 opMul (e2 opMul (e2 opMul (e2 opMul (eC (.int 3)) (eV 2)) (eV 6)) (eV 6)) (eV 7)) (e2 opMul (eV 3) (e2 opAdd (e2 opMul (e2 opMul (eV 6) (eV 6)) (eV 9)) (e2 opMul (e2 opMul (e2 opMul (eC (.int 2)) (eV 6)) (eV 7)) (eV 8))))) (e2 opMul (eV 4) (e2 opAdd (e2 opMul (e2 opMul (eV 8) (eV 8)) (eV 7)) (e2 opMul (e2 opMul (e2 opMul (eC (.int 2)) (eV 6)) (eV 8)) (eV 9))))) (e2 opMul (e2 opMul (e2 opMul (e2 opMul (eC (.int 3)) (eV 5)) (eV 8)) (eV 8)) (eV 9))))
  (sSeq (sSet 12 (e2 opAdd (e2 opAdd (e2 opAdd (e2 opMul (e2 opMul (e2 opMul (e2 opMul (eC (.int 3)) (eV 2)) (eV 6)) (eV 7)) (eV 7)) (e2 opMul (eV 3) (e2 opAdd (e2 opMul (e2 opMul (eV 7) (eV 7)) (eV 8)) (e2 opMul (e2 opMul (e2 opMul (eC (.int 2)) (eV 6)) (eV 7)) (eV 9))))) (e2 opMul (eV 4) (e2 opAdd (e2 opMul (e2 opMul (eV 9) (eV 9)) (eV 6)) (e2 opMul (e2 opMul (e2 opMul (eC (.int 2)) (eV 7)) (eV 8)) (eV 9))))) (e2 opMul (e2 opMul (e2 opMul (e2 opMul (eC (.int 3)) (eV 5)) (eV 8)) (eV 9)) (eV 9))))
  (sSeq (sSet 13 (e2 opAdd (e2 opAdd (e2 opAdd (e2 opMul (e2 opMul (e2 opMul (eV 2) (eV 7)) (eV 7)) (eV 7)) (e2 opMul (e2 opMul (e2 opMul (eV 3) (eV 7)) (eV 7)) (eV 9))) (e2 opMul (e2 opMul (e2 opMul (eV 4) (eV 7)) (eV 9)) (eV 9))) (e2 opMul (e2 opMul (e2 opMul (eV 5) (eV 9)) (eV 9)) (eV 9))))
  (sRet (eTup (aCons (eV 10) (aCons (eV 11) (aCons (eV 12) (aCons (eV 13) aNil))))))))))))
noncomputable def m__law_cubic_turned : List PD → M PD := runFn 2 14 g__law_cubic_turned
abbrev s__law_cubic_size : Stmt := topS 36
noncomputable def g__law_cubic_size : MS :=
  (sSeq (sAsg (eV 0) (tgT 4 (tgsCons (tgN 1) (tgsCons (tgN 2) (tgsCons (tgN 3) (tgsCons (tgN 4) tgsNil))))))
  (sRet (e2 opSub (e2 opSub (e2 opSub (e2 opAdd (e2 opMul (e2 opMul (e2 opMul (eV 2) (eV 2)) (eV 3)) (eV 3)) (e2 opMul (e2 opMul (e2 opMul (e2 opMul (eC (.int 18)) (eV 1)) (eV 2)) (eV 3)) (eV 4))) (e2 opMul (e2 opMul (e2 opMul (e2 opMul (eC (.int 4)) (eV 1)) (eV 3)) (eV 3)) (eV 3))) (e2 opMul (e2 opMul (e2 opMul (e2 opMul (eC (.int 4)) (eV 2)) (eV 2)) (eV 2)) (eV 4))) (e2 opMul (e2 opMul (e2 opMul (e2 opMul (eC (.int 27)) (eV 1)) (eV 1)) (eV 4)) (eV 4)))))
noncomputable def m__law_cubic_size : List PD → M PD := runFn 1 5 g__law_cubic_size
abbrev s__law_cubic_value : Stmt := topS 37
noncomputable def g__law_cubic_value : MS :=
  (sSeq (sAsg (eV 0) (tgT 4 (tgsCons (tgN 3) (tgsCons (tgN 4) (tgsCons (tgN 5) (tgsCons (tgN 6) tgsNil))))))
  (sRet (e2 opAdd (e2 opAdd (e2 opAdd (e2 opMul (e2 opMul (e2 opMul (eV 3) (eV 1)) (eV 1)) (eV 1)) (e2 opMul (e2 opMul (e2 opMul (eV 4) (eV 1)) (eV 1)) (eV 2))) (e2 opMul (e2 opMul (e2 opMul (eV 5) (eV 1)) (eV 2)) (eV 2))) (e2 opMul (e2 opMul (e2 opMul (eV 6) (eV 2)) (eV 2)) (eV 2)))))
noncomputable def m__law_cubic_value : List PD → M PD := runFn 3 7 g__law_cubic_value
abbrev s__law_cubic : Stmt := topS 38
noncomputable def g__law_cubic : MS :=
  (sRet (eB opTuple (aCons (eL (nComp (iRng rng1D (aCons (eC (.int 4)) aNil)) (tgN 2) tYesF (e2 opSub (callF 2 m__law_draw (aCons (eV 0) (aCons (e2 opAdd (e2 opMul (eC (.int 2)) (eV 1)) (eC (.int 1))) aNil))) (eV 1)) [2])) aNil)))
noncomputable def m__law_cubic : List PD → M PD := runFn 2 3 g__law_cubic
abbrev s__law_product : Stmt := topS 39
noncomputable def g__law_product : MS :=
  (sSeq (sAsg (eV 0) (tgT 4 (tgsCons (tgN 3) (tgsCons (tgN 4) (tgsCons (tgN 5) (tgsCons (tgN 6) tgsNil))))))
  (sSeq (sAsg (eV 1) (tgT 3 (tgsCons (tgN 7) (tgsCons (tgN 8) (tgsCons (tgN 9) tgsNil)))))
  (sSeq (sAsg (eV 2) (tgT 3 (tgsCons (tgN 10) (tgsCons (tgN 11) (tgsCons (tgN 12) tgsNil)))))
  (sSeq (sSet 13 (eTup (aCons (e2 opSub (eC (.int 0)) (e2 opMul (eV 3) (eV 5))) (aCons (e2 opSub (eC (.int 0)) (eV 4)) (aCons (eV 3) aNil)))))
  (sSeq (sSet 14 (eTup (aCons (e2 opSub (eC (.int 0)) (e2 opMul (eV 3) (eV 6))) (aCons (eC (.int 0)) (aCons (eC (.int 0)) aNil)))))
  (sSeq (sSet 15 (eTup (aCons (e2 opSub (eC (.int 0)) (e2 opMul (eV 4) (eV 6))) (aCons (e2 opSub (eC (.int 0)) (eV 6)) (aCons (eV 5) aNil)))))
  (sSeq (sSet 16 (eL (nLst (aCons (e2 opMul (eV 7) (eV 10)) (aCons (e2 opAdd (e2 opMul (eV 7) (eV 11)) (e2 opMul (eV 8) (eV 10))) (aCons (e2 opAdd (e2 opMul (eV 7) (eV 12)) (e2 opMul (eV 9) (eV 10))) aNil))))))
  (sSeq (sFor (iAny (eL (nLst (aCons (eTup (aCons (e2 opMul (eV 8) (eV 11)) (aCons (eV 13) aNil))) (aCons (eTup (aCons (e2 opAdd (e2 opMul (eV 8) (eV 12)) (e2 opMul (eV 9) (eV 11))) (aCons (eV 14) aNil))) (aCons (eTup (aCons (e2 opMul (eV 9) (eV 12)) (aCons (eV 15) aNil))) aNil)))))) (tgT 2 (tgsCons (tgN 17) (tgsCons (tgN 18) tgsNil))) (sSet 16 (eL (nComp (iRng rng1D (aCons (eC (.int 3)) aNil)) (tgN 19) tYesF (e2 opAdd (e2 opIx (eV 16) (eV 19)) (e2 opMul (eV 17) (e2 opIx (eV 18) (eV 19)))) [19]))))
  (sRet (eB opTuple (aCons (eV 16) aNil)))))))))))
noncomputable def m__law_product : List PD → M PD := runFn 3 20 g__law_product
abbrev s__law_element : Stmt := topS 40
noncomputable def g__law_element : MS :=
  (sRet (eB opTuple (aCons (eL (nComp (iRng rng1D (aCons (eC (.int 3)) aNil)) (tgN 1) tYesF (e2 opSub (callF 2 m__law_draw (aCons (eV 0) (aCons (eC (.int 101)) aNil))) (eC (.int 50))) [1])) aNil)))
noncomputable def m__law_element : List PD → M PD := runFn 1 2 g__law_element
abbrev s__law_determinant : Stmt := topS 41
noncomputable def g__law_determinant : MS :=
  (sSeq (sAsg (eV 0) (tgT 3 (tgsCons (tgT 3 (tgsCons (tgN 1) (tgsCons (tgN 2) (tgsCons (tgN 3) tgsNil)))) (tgsCons (tgT 3 (tgsCons (tgN 4) (tgsCons (tgN 5) (tgsCons (tgN 6) tgsNil)))) (tgsCons (tgT 3 (tgsCons (tgN 7) (tgsCons (tgN 8) (tgsCons (tgN 9) tgsNil)))) tgsNil)))))
  (sRet (e2 opAdd (e2 opSub (e2 opMul (eV 1) (e2 opSub (e2 opMul (eV 5) (eV 9)) (e2 opMul (eV 6) (eV 8)))) (e2 opMul (eV 2) (e2 opSub (e2 opMul (eV 4) (eV 9)) (e2 opMul (eV 6) (eV 7))))) (e2 opMul (eV 3) (e2 opSub (e2 opMul (eV 4) (eV 8)) (e2 opMul (eV 5) (eV 7)))))))
noncomputable def m__law_determinant : List PD → M PD := runFn 1 10 g__law_determinant
abbrev s__law_counts : Stmt := topS 42
noncomputable def g__law_counts : MS :=
  (sSeq (sNew 2 (nLst aNil))
  (sSeq (sFor (iAny (eL (nB opSortP (aCons (e2 opAdd (eL (nComp (iRng rng1D (aCons (eV 1) aNil)) (tgN 3) tYesF (eTup (aCons (eV 3) (aCons (eC (.int 1)) aNil))) [3])) (eL (nLst (aCons (eTup (aCons (eC (.int 1)) (aCons (eC (.int 0)) aNil))) aNil)))) aNil)))) (tgT 2 (tgsCons (tgN 3) (tgsCons (tgN 4) tgsNil))) (sIf (tV (e2 opEq (e2 opMod (eB opInt (aCons (callF 3 m__law_cubic_value (aCons (eV 0) (aCons (eV 3) (aCons (eV 4) aNil)))) aNil)) (eV 1)) (eC (.int 0)))) (sSeq (sAsg (callF 2 m__law_cubic_turned (aCons (eV 0) (aCons (e2 opIx (eL (nLst (aCons (eTup (aCons (eC (.int 1)) (aCons (eC (.int 0)) (aCons (eC (.int 0)) (aCons (eC (.int 1)) aNil))))) (aCons (eTup (aCons (eV 3) (aCons (e1 opNeg (eC (.int 1))) (aCons (eC (.int 1)) (aCons (eC (.int 0)) aNil))))) aNil)))) (eV 4)) aNil))) (tgT 4 (tgsCons (tgN 5) (tgsCons (tgN 6) (tgsCons (tgN 7) (tgsCons (tgN 8) tgsNil))))))
  (sSeq (sSet 9 (eC (.int 1)))
  (sSeq (sIf (tV (e2 opEq (e2 opMod (eB opInt (aCons (eV 6) aNil)) (eV 1)) (eC (.int 0)))) (sSet 9 (e2 opAdd (eC (.int 2)) (eB opInt (aCons (e2 opEq (e2 opMod (eB opInt (aCons (eV 7) aNil)) (eV 1)) (eC (.int 0))) aNil)))) sSkip)
  (sApp 2 (eL (nLst (aCons (eTup (aCons (eV 3) (aCons (eV 4) aNil))) (aCons (eV 9) (aCons (eAnd (e2 opEq (e2 opMod (eB opInt (aCons (eV 6) aNil)) (eV 1)) (eC (.int 0))) (e2 opEq (e2 opMod (eB opInt (aCons (eV 5) aNil)) (e2 opMul (eV 1) (eV 1))) (eC (.int 0)))) aNil))))))))) sSkip))
  (sFrz 2 (sRet (eV 2)))))
noncomputable def m__law_counts : List PD → M PD := runFn 2 10 g__law_counts
abbrev s__law_word : Stmt := topS 43
noncomputable def g__law_word : MS :=
  (sRet (eDict 1 [("1-1-1", "1 1 1"), ("1", "1 2"), ("", "3"), ("1-2", "1 1^2"), ("3", "1^3")] (eJoin (eC (.str "-")) (eL (nComp (iAny (eL (nB opSortI (aCons (eV 0) aNil)))) (tgN 2) tYesF (eB opStr (aCons (eV 2) aNil)) [2])))))
noncomputable def m__law_word : List PD → M PD := runFn 1 3 g__law_word
abbrev s__law_refused : Stmt := topS 44
noncomputable def g__law_refused : MS :=
  (sTry known (sSeq (sExpr (callF 2 m_roots_modulo_prime (aCons (eV 0) (aCons (eV 1) aNil))))
  (sRet (eC (.str "told")))) (("NotPossible", (sRet (eC (.str "no")))) :: (("TooLarge", (sRet (eC (.str "large")))) :: [])))
noncomputable def m__law_refused : List PD → M PD := runFn 2 2 g__law_refused
abbrev s__law_places_hold : Stmt := topS 45
noncomputable def g__law_places_hold : MS :=
  (sSeq (sSet 2 (e2 opEq (eB opLen (aCons (eL (nComp (iAny (eV 0)) (tgN 3) (tV (e2 opNe (e2 opMod (eB opInt (aCons (eV 3) aNil)) (eV 1)) (eC (.int 0)))) (eV 3) [3])) aNil)) (eC (.int 0))))
  (sSeq (sSet 4 (callF 2 m__law_counts (aCons (eV 0) (aCons (eV 1) aNil))))
  (sSeq (sIf (tV (e2 opNe (callF 2 m_roots_modulo_prime (aCons (eV 0) (aCons (eV 1) aNil))) (eL (nComp (iAny (eV 4)) (tgN 5) tYesF (e2 opIx (eV 5) (eC (.int 0))) [5])))) (sRet (eC (.bool false))) sSkip)
  (sSeq (sIf (tV (eV 2)) (sRet (eAnd (e2 opEq (callF 2 m_splitting_of (aCons (eV 0) (aCons (eV 1) aNil))) (eC (.str "0"))) (e2 (opIs false) (callF 2 m_is_largest_at (aCons (eV 0) (aCons (eV 1) aNil))) (eC (.bool false))))) sSkip)
  (sSeq (sFor (iAny (eV 4)) (tgT 3 (tgsCons (tgN 6) (tgsCons (tgN 7) (tgsCons (tgN 8) tgsNil)))) (sIf (tV (e2 opNe (callF 3 m_root_count (aCons (eV 0) (aCons (eV 6) (aCons (eV 1) aNil)))) (eV 7))) (sRet (eC (.bool false))) sSkip))
  (sSeq (sIf (tV (e2 opNe (callF 2 m_splitting_of (aCons (eV 0) (aCons (eV 1) aNil))) (callF 1 m__law_word (aCons (eL (nComp (iAny (eV 4)) (tgN 5) tYesF (e2 opIx (eV 5) (eC (.int 1))) [5])) aNil)))) (sRet (eC (.bool false))) sSkip)
  (sRet (callF 2 m__law_truth (aCons (callF 2 m_is_largest_at (aCons (eV 0) (aCons (eV 1) aNil))) (aCons (e2 opEq (eB opLen (aCons (eL (nComp (iAny (eV 4)) (tgN 5) (tV (e2 opIx (eV 5) (eC (.int 2)))) (eV 5) [5])) aNil)) (eC (.int 0))) aNil))))))))))
noncomputable def m__law_places_hold : List PD → M PD := runFn 2 9 g__law_places_hold
abbrev s_law : Stmt := topS 46
noncomputable def g_law : MS :=
  (sSeq (sSet 2 (callF 2 m__law_cubic_turned (aCons (callF 2 m__law_cubic (aCons (eV 1) (aCons (eC (.int 9)) aNil))) (aCons (callF 3 m__law_matrix (aCons (eV 1) (aCons (eC (.int 2)) (aCons (eC (.int 3)) aNil)))) aNil))))
  (sSeq (sSet 3 (callF 1 m__law_element (aCons (eV 1) aNil)))
  (sSeq (sSet 4 (callF 1 m__law_element (aCons (eV 1) aNil)))
  (sSeq (sSet 5 (callF 1 m__law_element (aCons (eV 1) aNil)))
  (sSeq (sSet 6 (callF 3 m__law_product (aCons (eV 2) (aCons (eV 3) (aCons (eV 4) aNil)))))
  (sSeq (sIf (tOrF (tV (e2 opNe (callF 3 m_cubic_product (aCons (eV 2) (aCons (eV 3) (aCons (eV 4) aNil)))) (eV 6))) (tOrF (tV (e2 opNe (callF 3 m_cubic_product (aCons (eV 2) (aCons (eV 4) (aCons (eV 3) aNil)))) (eV 6))) (tV (e2 opNe (callF 3 m_cubic_product (aCons (eV 2) (aCons (eV 6) (aCons (eV 5) aNil)))) (callF 3 m_cubic_product (aCons (eV 2) (aCons (eV 3) (aCons (callF 3 m_cubic_product (aCons (eV 2) (aCons (eV 4) (aCons (eV 5) aNil)))) aNil)))))))) (sRet (eC (.bool false))) sSkip)
  (sSeq (sSet 7 (eB opTuple (aCons (eL (nComp (iRng rng1D (aCons (eC (.int 3)) aNil)) (tgN 8) tYesF (e2 opAdd (e2 opIx (eV 3) (eV 8)) (e2 opIx (eV 4) (eV 8))) [8])) aNil)))
  (sSeq (sIf (tOrF (tV (e2 opNe (callF 2 m_cubic_sum (aCons (eV 3) (aCons (eV 4) aNil))) (eV 7))) (tV (e2 opNe (callF 3 m_cubic_product (aCons (eV 2) (aCons (eV 7) (aCons (eV 5) aNil)))) (callF 2 m_cubic_sum (aCons (callF 3 m_cubic_product (aCons (eV 2) (aCons (eV 3) (aCons (eV 5) aNil)))) (aCons (callF 3 m_cubic_product (aCons (eV 2) (aCons (eV 4) (aCons (eV 5) aNil)))) aNil)))))) (sRet (eC (.bool false))) sSkip)
  (sSeq (sSet 9 (eL (nLst (aCons (eTup (aCons (eC (.int 1)) (aCons (eC (.int 0)) (aCons (eC (.int 0)) aNil)))) (aCons (eTup (aCons (eC (.int 0)) (aCons (eC (.int 1)) (aCons (eC (.int 0)) aNil)))) (aCons (eTup (aCons (eC (.int 0)) (aCons (eC (.int 0)) (aCons (eC (.int 1)) aNil)))) aNil))))))
  (sSeq (sSet 10 (eB opTuple (aCons (eL (nComp (iAny (eV 9)) (tgN 11) tYesF (callF 3 m__law_product (aCons (eV 2) (aCons (eV 3) (aCons (eV 11) aNil)))) [11])) aNil)))
  (sSeq (sSet 12 (e2 opAdd (e2 opAdd (e2 opIx (e2 opIx (eV 10) (eC (.int 0))) (eC (.int 0))) (e2 opIx (e2 opIx (eV 10) (eC (.int 1))) (eC (.int 1)))) (e2 opIx (e2 opIx (eV 10) (eC (.int 2))) (eC (.int 2)))))
  (sSeq (sSet 13 (e2 opSub (e2 opAdd (e2 opSub (e2 opAdd (e2 opSub (e2 opMul (e2 opIx (e2 opIx (eV 10) (eC (.int 0))) (eC (.int 0))) (e2 opIx (e2 opIx (eV 10) (eC (.int 1))) (eC (.int 1)))) (e2 opMul (e2 opIx (e2 opIx (eV 10) (eC (.int 0))) (eC (.int 1))) (e2 opIx (e2 opIx (eV 10) (eC (.int 1))) (eC (.int 0))))) (e2 opMul (e2 opIx (e2 opIx (eV 10) (eC (.int 0))) (eC (.int 0))) (e2 opIx (e2 opIx (eV 10) (eC (.int 2))) (eC (.int 2))))) (e2 opMul (e2 opIx (e2 opIx (eV 10) (eC (.int 0))) (eC (.int 2))) (e2 opIx (e2 opIx (eV 10) (eC (.int 2))) (eC (.int 0))))) (e2 opMul (e2 opIx (e2 opIx (eV 10) (eC (.int 1))) (eC (.int 1))) (e2 opIx (e2 opIx (eV 10) (eC (.int 2))) (eC (.int 2))))) (e2 opMul (e2 opIx (e2 opIx (eV 10) (eC (.int 1))) (eC (.int 2))) (e2 opIx (e2 opIx (eV 10) (eC (.int 2))) (eC (.int 1))))))
  (sSeq (sSet 14 (callF 1 m__law_determinant (aCons (eV 10) aNil)))
  (sSeq (sIf (tOrF (tV (e2 opNe (callF 2 m_cubic_matrix (aCons (eV 2) (aCons (eV 3) aNil))) (eV 10))) (tOrF (tV (e2 opNe (callF 2 m_cubic_trace (aCons (eV 2) (aCons (eV 3) aNil))) (eV 12))) (tOrF (tV (e2 opNe (callF 2 m_cubic_second (aCons (eV 2) (aCons (eV 3) aNil))) (eV 13))) (tV (e2 opNe (callF 2 m_cubic_norm (aCons (eV 2) (aCons (eV 3) aNil))) (eV 14)))))) (sRet (eC (.bool false))) sSkip)
  (sSeq (sSet 15 (callF 3 m__law_product (aCons (eV 2) (aCons (eV 3) (aCons (eV 3) aNil)))))
  (sSeq (sSet 16 (callF 3 m__law_product (aCons (eV 2) (aCons (eV 15) (aCons (eV 3) aNil)))))
  (sSeq (sIf (tOrF (tV (e2 opNe (eB opTuple (aCons (eL (nComp (iRng rng1D (aCons (eC (.int 3)) aNil)) (tgN 8) tYesF (e2 opAdd (e2 opSub (e2 opIx (eV 16) (eV 8)) (e2 opMul (eV 12) (e2 opIx (eV 15) (eV 8)))) (e2 opMul (eV 13) (e2 opIx (eV 3) (eV 8)))) [8])) aNil)) (eTup (aCons (eV 14) (aCons (eC (.int 0)) (aCons (eC (.int 0)) aNil)))))) (tV (e2 (opIs true) (callF 2 m_fits_equation (aCons (eV 2) (aCons (eV 3) aNil))) (eC (.bool true))))) (sRet (eC (.bool false))) sSkip)
  (sSeq (sIf (tOrF (tV (e2 opNe (callF 2 m_cubic_norm (aCons (eV 2) (aCons (eV 6) aNil))) (e2 opMul (eV 14) (callF 2 m_cubic_norm (aCons (eV 2) (aCons (eV 4) aNil)))))) (tV (e2 opNe (callF 2 m_cubic_trace (aCons (eV 2) (aCons (eV 7) aNil))) (e2 opAdd (eV 12) (callF 2 m_cubic_trace (aCons (eV 2) (aCons (eV 4) aNil))))))) (sRet (eC (.bool false))) sSkip)
  (sSeq (sSet 17 (callF 1 m__law_cubic_size (aCons (eV 2) aNil)))
  (sSeq (sSet 18 (callF 1 m_trace_table (aCons (eV 2) aNil)))
  (sSeq (sFor (iRng rng1D (aCons (eC (.int 3)) aNil)) (tgN 8) (sFor (iRng rng1D (aCons (eC (.int 3)) aNil)) (tgN 19) (sIf (tV (e2 opNe (e2 opIx (e2 opIx (eV 18) (eV 8)) (eV 19)) (callF 2 m_cubic_trace (aCons (eV 2) (aCons (callF 3 m__law_product (aCons (eV 2) (aCons (e2 opIx (eV 9) (eV 8)) (aCons (e2 opIx (eV 9) (eV 19)) aNil)))) aNil))))) (sRet (eC (.bool false))) sSkip)))
  (sSeq (sIf (tOrF (tV (e2 opNe (callF 1 m_trace_discriminant (aCons (eV 2) aNil)) (eV 17))) (tOrF (tV (e2 opNe (callF 1 m__law_determinant (aCons (eV 18) aNil)) (eV 17))) (tV (e2 opNe (callF 2 m_index_of (aCons (eV 2) (aCons (eV 3) aNil))) (callF 3 m__law_cubic_value (aCons (eV 2) (aCons (e2 opIx (eV 3) (eC (.int 1))) (aCons (e2 opIx (eV 3) (eC (.int 2))) aNil)))))))) (sRet (eC (.bool false))) sSkip)
  (sSeq (sIf (tV (e2 opNe (e2 opSub (e2 opMul (e2 opIx (eV 3) (eC (.int 1))) (e2 opIx (eV 15) (eC (.int 2)))) (e2 opMul (e2 opIx (eV 3) (eC (.int 2))) (e2 opIx (eV 15) (eC (.int 1))))) (callF 2 m_index_of (aCons (eV 2) (aCons (eV 3) aNil))))) (sRet (eC (.bool false))) sSkip)
  (sSeq (sSet 20 (e2 opIx (eL (nLst (aCons (eC (.int 2)) (aCons (eC (.int 3)) (aCons (eC (.int 5)) (aCons (eC (.int 7)) (aCons (eC (.int 11)) (aCons (eC (.int 13)) (aCons (eC (.int 17)) (aCons (eC (.int 19)) aNil)))))))))) (callF 2 m__law_draw (aCons (eV 1) (aCons (eC (.int 8)) aNil)))))
  (sSeq (sIf (tNotF (tV (callF 2 m__law_places_hold (aCons (eV 2) (aCons (eV 20) aNil))))) (sRet (eC (.bool false))) sSkip)
  (sSeq (sAsg (eV 2) (tgT 4 (tgsCons (tgN 21) (tgsCons (tgN 22) (tgsCons (tgN 23) (tgsCons (tgN 24) tgsNil))))))
  (sSeq (sSet 25 (callF 2 m__law_cubic_turned (aCons (eTup (aCons (e2 opMul (e2 opMul (eV 20) (eV 20)) (eV 21)) (aCons (e2 opMul (eV 20) (eV 22)) (aCons (eV 23) (aCons (eV 24) aNil))))) (aCons (callF 3 m__law_matrix (aCons (eV 1) (aCons (eC (.int 3)) (aCons (eC (.int 3)) aNil)))) aNil))))
  (sSeq (sIf (tOrF (tNotF (tV (callF 2 m__law_places_hold (aCons (eV 25) (aCons (eV 20) aNil))))) (tV (e2 (opIs true) (callF 2 m_is_largest_at (aCons (eV 25) (aCons (eV 20) aNil))) (eC (.bool false))))) (sRet (eC (.bool false))) sSkip)
  (sSeq (sSet 11 (e2 opAdd (eC (.int 1)) (callF 2 m__law_draw (aCons (eV 1) (aCons (e2 opSub (eV 20) (eC (.int 1))) aNil)))))
  (sSeq (sSet 26 (callF 2 m__law_cubic_turned (aCons (eTup (aCons (eC (.int 1)) (aCons (e2 opMul (eV 20) (eV 22)) (aCons (e2 opMul (eV 20) (eV 23)) (aCons (e2 opMul (eV 20) (eV 11)) aNil))))) (aCons (callF 3 m__law_matrix (aCons (eV 1) (aCons (eC (.int 3)) (aCons (eC (.int 3)) aNil)))) aNil))))
  (sSeq (sIf (tOrF (tV (e2 (opIs true) (callF 2 m_is_largest_at (aCons (eV 26) (aCons (eV 20) aNil))) (eC (.bool true)))) (tOrF (tV (e2 opNe (callF 2 m_splitting_of (aCons (eV 26) (aCons (eV 20) aNil))) (eC (.str "1^3")))) (tV (e2 opNe (e2 opMod (eB opInt (aCons (callF 1 m__law_cubic_size (aCons (eV 26) aNil)) aNil)) (e2 opMul (eV 20) (eV 20))) (eC (.int 0)))))) (sRet (eC (.bool false))) sSkip)
  (sRet (eAnd (e2 opEq (callF 2 m__law_refused (aCons (eV 2) (aCons (eC (.int 4)) aNil))) (eC (.str "no"))) (eAnd (e2 opEq (callF 2 m__law_refused (aCons (eV 2) (aCons (eC (.int 1)) aNil))) (eC (.str "no"))) (eAnd (e2 opEq (callF 2 m__law_refused (aCons (eV 2) (aCons (eC (.int 401)) aNil))) (eC (.str "large"))) (e2 opEq (callF 2 m__law_refused (aCons (eV 2) (aCons (eV 20) aNil))) (eC (.str "told"))))))))))))))))))))))))))))))))))))))
end LW
namespace DL
open PySem PySem.Spec PyProof.Rows L2 LW
noncomputable def c_factorization_0 : Env → M Bool := (tV (e2 opEq (e2 opMod (eV 0) (eV 2)) (eC (.int 0))))
noncomputable def b_factorization_0 : MS := (sSeq (sAug 0 opDivP (eV 2)) (sAug 3 opAddA (eC (.int 1))))
noncomputable def c_factorization_1 : Env → M Bool := (tV (e2 opLe (e2 opMul (eV 2) (eV 2)) (eV 0)))
noncomputable def b_factorization_1 : MS := (sSeq (sSet 3 (eC (.int 0))) (sSeq (sWhile c_factorization_0 b_factorization_0) (sSeq (sIf (tV (e2 opGt (eV 3) (eC (.int 0)))) (sApp 1 (eTup (aCons (eV 2) (aCons (eV 3) aNil)))) sSkip) (sAug 2 opAddA (eIf (tV (e2 opEq (eV 2) (eC (.int 2)))) (eC (.int 1)) (eC (.int 2)))))))
noncomputable def h_factorization : MS := (sSeq (sIf (tV (e2 opGt (eV 0) (eC (.int 1000000000000)))) (sRaise "TooLarge") sSkip) (sSeq (sNew 1 (nLst aNil)) (sSeq (sSet 2 (eC (.int 2))) (sSeq (sWhile c_factorization_1 b_factorization_1) (sSeq (sIf (tV (e2 opGt (eV 0) (eC (.int 1)))) (sApp 1 (eTup (aCons (eV 0) (aCons (eC (.int 1)) aNil)))) sSkip) (sRet (eB opTuple (aCons (ePk 1) aNil))))))))
theorem m_factorization_eq : m_factorization = runFn 1 4 h_factorization := rfl
noncomputable def b_is_largest_at_0 : MS := (sSeq (sAsg (eV 3) (tgT 2 (tgsCons (tgN 4) (tgsCons (tgN 5) tgsNil)))) (sSeq (sAsg (callF 2 m_turned_cubic (aCons (eV 0) (aCons (eIf (tV (e2 opEq (eV 5) (eC (.int 1)))) (eTup (aCons (eV 4) (aCons (e1 opNeg (eC (.int 1))) (aCons (eC (.int 1)) (aCons (eC (.int 0)) aNil))))) (eTup (aCons (eC (.int 1)) (aCons (eC (.int 0)) (aCons (eC (.int 0)) (aCons (eC (.int 1)) aNil)))))) aNil))) (tgT 4 (tgsCons (tgN 6) (tgsCons (tgN 7) (tgsCons (tgN 8) (tgsCons (tgN 8) tgsNil)))))) (sIf (tAndF (tV (e2 opEq (e2 opMod (eV 7) (eV 1)) (eC (.int 0)))) (tV (e2 opEq (e2 opMod (eV 6) (e2 opMul (eV 1) (eV 1))) (eC (.int 0))))) (sRet (eC (.bool false))) sSkip)))
noncomputable def h_is_largest_at : MS := (sSeq (sIf (tV (eB opAll (aCons (eL (nComp (iAny (eV 0)) (tgN 2) tYesF (e2 opEq (e2 opMod (eV 2) (eV 1)) (eC (.int 0))) [2])) aNil))) (sRet (eC (.bool false))) sSkip) (sSeq (sFor (iAny (callF 2 m_roots_modulo_prime (aCons (eV 0) (aCons (eV 1) aNil)))) (tgN 3) b_is_largest_at_0) (sRet (eC (.bool true)))))
theorem m_is_largest_at_eq : m_is_largest_at = runFn 2 9 h_is_largest_at := rfl
noncomputable def b__law_matrix_0 : MS := (sSeq (sSet 5 (e2 opSub (callF 2 m__law_draw (aCons (eV 0) (aCons (e2 opAdd (e2 opMul (eC (.int 2)) (eV 2)) (eC (.int 1))) aNil))) (eV 2))) (sSeq (sAsg (eV 3) (tgT 4 (tgsCons (tgN 6) (tgsCons (tgN 7) (tgsCons (tgN 8) (tgsCons (tgN 9) tgsNil)))))) (sSet 3 (eTup (aCons (e2 opAdd (e2 opMul (eV 6) (eV 5)) (eV 7)) (aCons (e2 opSub (eC (.int 0)) (eV 6)) (aCons (e2 opAdd (e2 opMul (eV 8) (eV 5)) (eV 9)) (aCons (e2 opSub (eC (.int 0)) (eV 8)) aNil))))))))
noncomputable def h__law_matrix : MS := (sSeq (sSet 3 (eTup (aCons (eC (.int 1)) (aCons (eC (.int 0)) (aCons (eC (.int 0)) (aCons (eC (.int 1)) aNil)))))) (sSeq (sFor (iRng rng1D (aCons (callF 2 m__law_draw (aCons (eV 0) (aCons (e2 opAdd (eV 1) (eC (.int 1))) aNil))) aNil)) (tgN 4) b__law_matrix_0) (sRet (eV 3))))
theorem m__law_matrix_eq : m__law_matrix = runFn 3 10 h__law_matrix := rfl
noncomputable def b__law_product_0 : MS := (sSet 16 (eL (nComp (iRng rng1D (aCons (eC (.int 3)) aNil)) (tgN 19) tYesF (e2 opAdd (e2 opIx (eV 16) (eV 19)) (e2 opMul (eV 17) (e2 opIx (eV 18) (eV 19)))) [19])))
noncomputable def h__law_product : MS := (sSeq (sAsg (eV 0) (tgT 4 (tgsCons (tgN 3) (tgsCons (tgN 4) (tgsCons (tgN 5) (tgsCons (tgN 6) tgsNil)))))) (sSeq (sAsg (eV 1) (tgT 3 (tgsCons (tgN 7) (tgsCons (tgN 8) (tgsCons (tgN 9) tgsNil))))) (sSeq (sAsg (eV 2) (tgT 3 (tgsCons (tgN 10) (tgsCons (tgN 11) (tgsCons (tgN 12) tgsNil))))) (sSeq (sSet 13 (eTup (aCons (e2 opSub (eC (.int 0)) (e2 opMul (eV 3) (eV 5))) (aCons (e2 opSub (eC (.int 0)) (eV 4)) (aCons (eV 3) aNil))))) (sSeq (sSet 14 (eTup (aCons (e2 opSub (eC (.int 0)) (e2 opMul (eV 3) (eV 6))) (aCons (eC (.int 0)) (aCons (eC (.int 0)) aNil))))) (sSeq (sSet 15 (eTup (aCons (e2 opSub (eC (.int 0)) (e2 opMul (eV 4) (eV 6))) (aCons (e2 opSub (eC (.int 0)) (eV 6)) (aCons (eV 5) aNil))))) (sSeq (sSet 16 (eL (nLst (aCons (e2 opMul (eV 7) (eV 10)) (aCons (e2 opAdd (e2 opMul (eV 7) (eV 11)) (e2 opMul (eV 8) (eV 10))) (aCons (e2 opAdd (e2 opMul (eV 7) (eV 12)) (e2 opMul (eV 9) (eV 10))) aNil)))))) (sSeq (sFor (iAny (eL (nLst (aCons (eTup (aCons (e2 opMul (eV 8) (eV 11)) (aCons (eV 13) aNil))) (aCons (eTup (aCons (e2 opAdd (e2 opMul (eV 8) (eV 12)) (e2 opMul (eV 9) (eV 11))) (aCons (eV 14) aNil))) (aCons (eTup (aCons (e2 opMul (eV 9) (eV 12)) (aCons (eV 15) aNil))) aNil)))))) (tgT 2 (tgsCons (tgN 17) (tgsCons (tgN 18) tgsNil))) b__law_product_0) (sRet (eB opTuple (aCons (eV 16) aNil)))))))))))
theorem m__law_product_eq : m__law_product = runFn 3 20 h__law_product := rfl
noncomputable def b__law_counts_0 : MS := (sIf (tV (e2 opEq (e2 opMod (eB opInt (aCons (callF 3 m__law_cubic_value (aCons (eV 0) (aCons (eV 3) (aCons (eV 4) aNil)))) aNil)) (eV 1)) (eC (.int 0)))) (sSeq (sAsg (callF 2 m__law_cubic_turned (aCons (eV 0) (aCons (e2 opIx (eL (nLst (aCons (eTup (aCons (eC (.int 1)) (aCons (eC (.int 0)) (aCons (eC (.int 0)) (aCons (eC (.int 1)) aNil))))) (aCons (eTup (aCons (eV 3) (aCons (e1 opNeg (eC (.int 1))) (aCons (eC (.int 1)) (aCons (eC (.int 0)) aNil))))) aNil)))) (eV 4)) aNil))) (tgT 4 (tgsCons (tgN 5) (tgsCons (tgN 6) (tgsCons (tgN 7) (tgsCons (tgN 8) tgsNil)))))) (sSeq (sSet 9 (eC (.int 1))) (sSeq (sIf (tV (e2 opEq (e2 opMod (eB opInt (aCons (eV 6) aNil)) (eV 1)) (eC (.int 0)))) (sSet 9 (e2 opAdd (eC (.int 2)) (eB opInt (aCons (e2 opEq (e2 opMod (eB opInt (aCons (eV 7) aNil)) (eV 1)) (eC (.int 0))) aNil)))) sSkip) (sApp 2 (eL (nLst (aCons (eTup (aCons (eV 3) (aCons (eV 4) aNil))) (aCons (eV 9) (aCons (eAnd (e2 opEq (e2 opMod (eB opInt (aCons (eV 6) aNil)) (eV 1)) (eC (.int 0))) (e2 opEq (e2 opMod (eB opInt (aCons (eV 5) aNil)) (e2 opMul (eV 1) (eV 1))) (eC (.int 0)))) aNil))))))))) sSkip)
noncomputable def h__law_counts : MS := (sSeq (sNew 2 (nLst aNil)) (sSeq (sFor (iAny (eL (nB opSortP (aCons (e2 opAdd (eL (nComp (iRng rng1D (aCons (eV 1) aNil)) (tgN 3) tYesF (eTup (aCons (eV 3) (aCons (eC (.int 1)) aNil))) [3])) (eL (nLst (aCons (eTup (aCons (eC (.int 1)) (aCons (eC (.int 0)) aNil))) aNil)))) aNil)))) (tgT 2 (tgsCons (tgN 3) (tgsCons (tgN 4) tgsNil))) b__law_counts_0) (sFrz 2 (sRet (eV 2)))))
theorem m__law_counts_eq : m__law_counts = runFn 2 10 h__law_counts := rfl
noncomputable def b__law_places_hold_0 : MS := (sIf (tV (e2 opNe (callF 3 m_root_count (aCons (eV 0) (aCons (eV 6) (aCons (eV 1) aNil)))) (eV 7))) (sRet (eC (.bool false))) sSkip)
noncomputable def h__law_places_hold : MS := (sSeq (sSet 2 (e2 opEq (eB opLen (aCons (eL (nComp (iAny (eV 0)) (tgN 3) (tV (e2 opNe (e2 opMod (eB opInt (aCons (eV 3) aNil)) (eV 1)) (eC (.int 0)))) (eV 3) [3])) aNil)) (eC (.int 0)))) (sSeq (sSet 4 (callF 2 m__law_counts (aCons (eV 0) (aCons (eV 1) aNil)))) (sSeq (sIf (tV (e2 opNe (callF 2 m_roots_modulo_prime (aCons (eV 0) (aCons (eV 1) aNil))) (eL (nComp (iAny (eV 4)) (tgN 5) tYesF (e2 opIx (eV 5) (eC (.int 0))) [5])))) (sRet (eC (.bool false))) sSkip) (sSeq (sIf (tV (eV 2)) (sRet (eAnd (e2 opEq (callF 2 m_splitting_of (aCons (eV 0) (aCons (eV 1) aNil))) (eC (.str "0"))) (e2 (opIs false) (callF 2 m_is_largest_at (aCons (eV 0) (aCons (eV 1) aNil))) (eC (.bool false))))) sSkip) (sSeq (sFor (iAny (eV 4)) (tgT 3 (tgsCons (tgN 6) (tgsCons (tgN 7) (tgsCons (tgN 8) tgsNil)))) b__law_places_hold_0) (sSeq (sIf (tV (e2 opNe (callF 2 m_splitting_of (aCons (eV 0) (aCons (eV 1) aNil))) (callF 1 m__law_word (aCons (eL (nComp (iAny (eV 4)) (tgN 5) tYesF (e2 opIx (eV 5) (eC (.int 1))) [5])) aNil)))) (sRet (eC (.bool false))) sSkip) (sRet (callF 2 m__law_truth (aCons (callF 2 m_is_largest_at (aCons (eV 0) (aCons (eV 1) aNil))) (aCons (e2 opEq (eB opLen (aCons (eL (nComp (iAny (eV 4)) (tgN 5) (tV (e2 opIx (eV 5) (eC (.int 2)))) (eV 5) [5])) aNil)) (eC (.int 0))) aNil))))))))))
theorem m__law_places_hold_eq : m__law_places_hold = runFn 2 9 h__law_places_hold := rfl
noncomputable def b_law_0 : MS := (sIf (tV (e2 opNe (e2 opIx (e2 opIx (eV 18) (eV 8)) (eV 19)) (callF 2 m_cubic_trace (aCons (eV 2) (aCons (callF 3 m__law_product (aCons (eV 2) (aCons (e2 opIx (eV 9) (eV 8)) (aCons (e2 opIx (eV 9) (eV 19)) aNil)))) aNil))))) (sRet (eC (.bool false))) sSkip)
noncomputable def b_law_1 : MS := (sFor (iRng rng1D (aCons (eC (.int 3)) aNil)) (tgN 19) b_law_0)
noncomputable def h_law : MS := (sSeq (sSet 2 (callF 2 m__law_cubic_turned (aCons (callF 2 m__law_cubic (aCons (eV 1) (aCons (eC (.int 9)) aNil))) (aCons (callF 3 m__law_matrix (aCons (eV 1) (aCons (eC (.int 2)) (aCons (eC (.int 3)) aNil)))) aNil)))) (sSeq (sSet 3 (callF 1 m__law_element (aCons (eV 1) aNil))) (sSeq (sSet 4 (callF 1 m__law_element (aCons (eV 1) aNil))) (sSeq (sSet 5 (callF 1 m__law_element (aCons (eV 1) aNil))) (sSeq (sSet 6 (callF 3 m__law_product (aCons (eV 2) (aCons (eV 3) (aCons (eV 4) aNil))))) (sSeq (sIf (tOrF (tV (e2 opNe (callF 3 m_cubic_product (aCons (eV 2) (aCons (eV 3) (aCons (eV 4) aNil)))) (eV 6))) (tOrF (tV (e2 opNe (callF 3 m_cubic_product (aCons (eV 2) (aCons (eV 4) (aCons (eV 3) aNil)))) (eV 6))) (tV (e2 opNe (callF 3 m_cubic_product (aCons (eV 2) (aCons (eV 6) (aCons (eV 5) aNil)))) (callF 3 m_cubic_product (aCons (eV 2) (aCons (eV 3) (aCons (callF 3 m_cubic_product (aCons (eV 2) (aCons (eV 4) (aCons (eV 5) aNil)))) aNil)))))))) (sRet (eC (.bool false))) sSkip) (sSeq (sSet 7 (eB opTuple (aCons (eL (nComp (iRng rng1D (aCons (eC (.int 3)) aNil)) (tgN 8) tYesF (e2 opAdd (e2 opIx (eV 3) (eV 8)) (e2 opIx (eV 4) (eV 8))) [8])) aNil))) (sSeq (sIf (tOrF (tV (e2 opNe (callF 2 m_cubic_sum (aCons (eV 3) (aCons (eV 4) aNil))) (eV 7))) (tV (e2 opNe (callF 3 m_cubic_product (aCons (eV 2) (aCons (eV 7) (aCons (eV 5) aNil)))) (callF 2 m_cubic_sum (aCons (callF 3 m_cubic_product (aCons (eV 2) (aCons (eV 3) (aCons (eV 5) aNil)))) (aCons (callF 3 m_cubic_product (aCons (eV 2) (aCons (eV 4) (aCons (eV 5) aNil)))) aNil)))))) (sRet (eC (.bool false))) sSkip) (sSeq (sSet 9 (eL (nLst (aCons (eTup (aCons (eC (.int 1)) (aCons (eC (.int 0)) (aCons (eC (.int 0)) aNil)))) (aCons (eTup (aCons (eC (.int 0)) (aCons (eC (.int 1)) (aCons (eC (.int 0)) aNil)))) (aCons (eTup (aCons (eC (.int 0)) (aCons (eC (.int 0)) (aCons (eC (.int 1)) aNil)))) aNil)))))) (sSeq (sSet 10 (eB opTuple (aCons (eL (nComp (iAny (eV 9)) (tgN 11) tYesF (callF 3 m__law_product (aCons (eV 2) (aCons (eV 3) (aCons (eV 11) aNil)))) [11])) aNil))) (sSeq (sSet 12 (e2 opAdd (e2 opAdd (e2 opIx (e2 opIx (eV 10) (eC (.int 0))) (eC (.int 0))) (e2 opIx (e2 opIx (eV 10) (eC (.int 1))) (eC (.int 1)))) (e2 opIx (e2 opIx (eV 10) (eC (.int 2))) (eC (.int 2))))) (sSeq (sSet 13 (e2 opSub (e2 opAdd (e2 opSub (e2 opAdd (e2 opSub (e2 opMul (e2 opIx (e2 opIx (eV 10) (eC (.int 0))) (eC (.int 0))) (e2 opIx (e2 opIx (eV 10) (eC (.int 1))) (eC (.int 1)))) (e2 opMul (e2 opIx (e2 opIx (eV 10) (eC (.int 0))) (eC (.int 1))) (e2 opIx (e2 opIx (eV 10) (eC (.int 1))) (eC (.int 0))))) (e2 opMul (e2 opIx (e2 opIx (eV 10) (eC (.int 0))) (eC (.int 0))) (e2 opIx (e2 opIx (eV 10) (eC (.int 2))) (eC (.int 2))))) (e2 opMul (e2 opIx (e2 opIx (eV 10) (eC (.int 0))) (eC (.int 2))) (e2 opIx (e2 opIx (eV 10) (eC (.int 2))) (eC (.int 0))))) (e2 opMul (e2 opIx (e2 opIx (eV 10) (eC (.int 1))) (eC (.int 1))) (e2 opIx (e2 opIx (eV 10) (eC (.int 2))) (eC (.int 2))))) (e2 opMul (e2 opIx (e2 opIx (eV 10) (eC (.int 1))) (eC (.int 2))) (e2 opIx (e2 opIx (eV 10) (eC (.int 2))) (eC (.int 1)))))) (sSeq (sSet 14 (callF 1 m__law_determinant (aCons (eV 10) aNil))) (sSeq (sIf (tOrF (tV (e2 opNe (callF 2 m_cubic_matrix (aCons (eV 2) (aCons (eV 3) aNil))) (eV 10))) (tOrF (tV (e2 opNe (callF 2 m_cubic_trace (aCons (eV 2) (aCons (eV 3) aNil))) (eV 12))) (tOrF (tV (e2 opNe (callF 2 m_cubic_second (aCons (eV 2) (aCons (eV 3) aNil))) (eV 13))) (tV (e2 opNe (callF 2 m_cubic_norm (aCons (eV 2) (aCons (eV 3) aNil))) (eV 14)))))) (sRet (eC (.bool false))) sSkip) (sSeq (sSet 15 (callF 3 m__law_product (aCons (eV 2) (aCons (eV 3) (aCons (eV 3) aNil))))) (sSeq (sSet 16 (callF 3 m__law_product (aCons (eV 2) (aCons (eV 15) (aCons (eV 3) aNil))))) (sSeq (sIf (tOrF (tV (e2 opNe (eB opTuple (aCons (eL (nComp (iRng rng1D (aCons (eC (.int 3)) aNil)) (tgN 8) tYesF (e2 opAdd (e2 opSub (e2 opIx (eV 16) (eV 8)) (e2 opMul (eV 12) (e2 opIx (eV 15) (eV 8)))) (e2 opMul (eV 13) (e2 opIx (eV 3) (eV 8)))) [8])) aNil)) (eTup (aCons (eV 14) (aCons (eC (.int 0)) (aCons (eC (.int 0)) aNil)))))) (tV (e2 (opIs true) (callF 2 m_fits_equation (aCons (eV 2) (aCons (eV 3) aNil))) (eC (.bool true))))) (sRet (eC (.bool false))) sSkip) (sSeq (sIf (tOrF (tV (e2 opNe (callF 2 m_cubic_norm (aCons (eV 2) (aCons (eV 6) aNil))) (e2 opMul (eV 14) (callF 2 m_cubic_norm (aCons (eV 2) (aCons (eV 4) aNil)))))) (tV (e2 opNe (callF 2 m_cubic_trace (aCons (eV 2) (aCons (eV 7) aNil))) (e2 opAdd (eV 12) (callF 2 m_cubic_trace (aCons (eV 2) (aCons (eV 4) aNil))))))) (sRet (eC (.bool false))) sSkip) (sSeq (sSet 17 (callF 1 m__law_cubic_size (aCons (eV 2) aNil))) (sSeq (sSet 18 (callF 1 m_trace_table (aCons (eV 2) aNil))) (sSeq (sFor (iRng rng1D (aCons (eC (.int 3)) aNil)) (tgN 8) b_law_1) (sSeq (sIf (tOrF (tV (e2 opNe (callF 1 m_trace_discriminant (aCons (eV 2) aNil)) (eV 17))) (tOrF (tV (e2 opNe (callF 1 m__law_determinant (aCons (eV 18) aNil)) (eV 17))) (tV (e2 opNe (callF 2 m_index_of (aCons (eV 2) (aCons (eV 3) aNil))) (callF 3 m__law_cubic_value (aCons (eV 2) (aCons (e2 opIx (eV 3) (eC (.int 1))) (aCons (e2 opIx (eV 3) (eC (.int 2))) aNil)))))))) (sRet (eC (.bool false))) sSkip) (sSeq (sIf (tV (e2 opNe (e2 opSub (e2 opMul (e2 opIx (eV 3) (eC (.int 1))) (e2 opIx (eV 15) (eC (.int 2)))) (e2 opMul (e2 opIx (eV 3) (eC (.int 2))) (e2 opIx (eV 15) (eC (.int 1))))) (callF 2 m_index_of (aCons (eV 2) (aCons (eV 3) aNil))))) (sRet (eC (.bool false))) sSkip) (sSeq (sSet 20 (e2 opIx (eL (nLst (aCons (eC (.int 2)) (aCons (eC (.int 3)) (aCons (eC (.int 5)) (aCons (eC (.int 7)) (aCons (eC (.int 11)) (aCons (eC (.int 13)) (aCons (eC (.int 17)) (aCons (eC (.int 19)) aNil)))))))))) (callF 2 m__law_draw (aCons (eV 1) (aCons (eC (.int 8)) aNil))))) (sSeq (sIf (tNotF (tV (callF 2 m__law_places_hold (aCons (eV 2) (aCons (eV 20) aNil))))) (sRet (eC (.bool false))) sSkip) (sSeq (sAsg (eV 2) (tgT 4 (tgsCons (tgN 21) (tgsCons (tgN 22) (tgsCons (tgN 23) (tgsCons (tgN 24) tgsNil)))))) (sSeq (sSet 25 (callF 2 m__law_cubic_turned (aCons (eTup (aCons (e2 opMul (e2 opMul (eV 20) (eV 20)) (eV 21)) (aCons (e2 opMul (eV 20) (eV 22)) (aCons (eV 23) (aCons (eV 24) aNil))))) (aCons (callF 3 m__law_matrix (aCons (eV 1) (aCons (eC (.int 3)) (aCons (eC (.int 3)) aNil)))) aNil)))) (sSeq (sIf (tOrF (tNotF (tV (callF 2 m__law_places_hold (aCons (eV 25) (aCons (eV 20) aNil))))) (tV (e2 (opIs true) (callF 2 m_is_largest_at (aCons (eV 25) (aCons (eV 20) aNil))) (eC (.bool false))))) (sRet (eC (.bool false))) sSkip) (sSeq (sSet 11 (e2 opAdd (eC (.int 1)) (callF 2 m__law_draw (aCons (eV 1) (aCons (e2 opSub (eV 20) (eC (.int 1))) aNil))))) (sSeq (sSet 26 (callF 2 m__law_cubic_turned (aCons (eTup (aCons (eC (.int 1)) (aCons (e2 opMul (eV 20) (eV 22)) (aCons (e2 opMul (eV 20) (eV 23)) (aCons (e2 opMul (eV 20) (eV 11)) aNil))))) (aCons (callF 3 m__law_matrix (aCons (eV 1) (aCons (eC (.int 3)) (aCons (eC (.int 3)) aNil)))) aNil)))) (sSeq (sIf (tOrF (tV (e2 (opIs true) (callF 2 m_is_largest_at (aCons (eV 26) (aCons (eV 20) aNil))) (eC (.bool true)))) (tOrF (tV (e2 opNe (callF 2 m_splitting_of (aCons (eV 26) (aCons (eV 20) aNil))) (eC (.str "1^3")))) (tV (e2 opNe (e2 opMod (eB opInt (aCons (callF 1 m__law_cubic_size (aCons (eV 26) aNil)) aNil)) (e2 opMul (eV 20) (eV 20))) (eC (.int 0)))))) (sRet (eC (.bool false))) sSkip) (sRet (eAnd (e2 opEq (callF 2 m__law_refused (aCons (eV 2) (aCons (eC (.int 4)) aNil))) (eC (.str "no"))) (eAnd (e2 opEq (callF 2 m__law_refused (aCons (eV 2) (aCons (eC (.int 1)) aNil))) (eC (.str "no"))) (eAnd (e2 opEq (callF 2 m__law_refused (aCons (eV 2) (aCons (eC (.int 401)) aNil))) (eC (.str "large"))) (e2 opEq (callF 2 m__law_refused (aCons (eV 2) (aCons (eV 20) aNil))) (eC (.str "told"))))))))))))))))))))))))))))))))))))))
theorem g_law_eq : g_law = h_law := rfl
end DL
namespace DL
open PySem PySem.Spec PyProof.Rows L2 LW
theorem bz_c {n : Nat} (i : Int) {n4 : 8 ≤ n} (h : i.natAbs < 256) : Bz n i := by
  have : (2 : Nat) ^ 8 ≤ 2 ^ n := Nat.pow_le_pow_right (by decide) n4
  unfold Bz; omega
theorem call_of {k : Nat} {m : List PD → M PD} {fa : Env → M (List PD)} {env : Env} {st : S} {ds : List PD} {r : R PD} (h : fa env st = .ok ds st) (hl : ds.length = k) (e : m ds st = r) : callF k m fa env st = r := by
  unfold callF
  rw [h]
  show (if ds.length = k then m ds st else .bad) = r
  rw [if_pos hl, e]
theorem par3_ok {i j l : Nat} {f : Env → M (List PD)} {env : Env} {st : S} {a b c : PD} (h : f env st = .ok [a, b, c] st) : sPar3 i j l f env st = .ok (.nx (((env.set i (some (.v a))).set j (some (.v b))).set l (some (.v c)))) st := by
  rw [sPar3_ap, h, par3A_ok]
def cv (a b c d x y : Int) : Int := a * x * x * x + b * x * x * y + c * x * y * y + d * y * y * y
def cs (a b c d : Int) : Int := b * b * c * c + 18 * a * b * c * d - 4 * a * c * c * c - 4 * b * b * b * d - 27 * a * a * d * d
def tc2 (a b c d p q r s : Int) : Int := 3 * a * p * p * q + b * (p * p * s + 2 * p * q * r) + c * (q * r * r + 2 * p * r * s) + 3 * d * r * r * s
def tc3 (a b c d p q r s : Int) : Int := 3 * a * p * q * q + b * (q * q * r + 2 * p * q * s) + c * (p * s * s + 2 * q * r * s) + 3 * d * r * s * s
def det (a b c d e f g h i : Int) : Int := a * (e * i - f * h) - b * (d * i - f * g) + c * (d * h - e * g)
def sec (a b c d e f g h i : Int) : Int := a * e - b * d + a * i - c * g + e * i - f * h
def lt1 (a b c d p q r s : Int) : Int := a * p * p * p + b * p * p * r + c * p * r * r + d * r * r * r
def lt2 (a b c d p q r s : Int) : Int := 3 * a * p * p * q + b * (p * p * s + 2 * p * q * r) + c * (r * r * q + 2 * p * r * s) + 3 * d * r * r * s
def lt3 (a b c d p q r s : Int) : Int := 3 * a * p * q * q + b * (q * q * r + 2 * p * q * s) + c * (s * s * p + 2 * q * r * s) + 3 * d * r * s * s
def lt4 (a b c d p q r s : Int) : Int := a * q * q * q + b * q * q * s + c * q * s * s + d * s * s * s
def pa (a b c d p q r x y z : Int) : Int := p * x - a * c * (q * y) - a * d * (q * z + r * y) - b * d * (r * z)
def pb (a b c d p q r x y z : Int) : Int := p * y + q * x - b * (q * y) - d * (r * z)
def pc (a b c d p q r x y z : Int) : Int := p * z + r * x + a * (q * y) + c * (r * z)

theorem cubic_value_ok (st : S) {n : Nat} (hn : n ≤ 21000) (n4 : 8 ≤ n) {a b c d x y : Int} (ha : Bz n a) (hb : Bz n b) (hc : Bz n c) (hd : Bz n d) (hx : Bz n x) (hy : Bz n y) : m_cubic_value [.tuple [.int a, .int b, .int c, .int d], .int x, .int y] st = .ok (.int (cv a b c d x y)) st := by
  refine runFn_of (o := .rt (.int (cv a b c d x y))) rfl ?_
  unfold g_cubic_value
  refine (seq_nx (st' := st) (env' := [some (.v (.tuple [.int a, .int b, .int c, .int d])), some (.v (.int x)), some (.v (.int y)), some (.v (.int a)), some (.v (.int b)), some (.v (.int c)), some (.v (.int d))]) ?_).trans ?_
  · exact (asg_ok rfl rfl)
  exact ret_ok (ae_run (.add (.add (.add (.mul (.mul (.mul (.at (eV 3) a) (.at (eV 1) x)) (.at (eV 1) x)) (.at (eV 1) x)) (.mul (.mul (.mul (.at (eV 4) b) (.at (eV 1) x)) (.at (eV 1) x)) (.at (eV 2) y))) (.mul (.mul (.mul (.at (eV 5) c) (.at (eV 1) x)) (.at (eV 2) y)) (.at (eV 2) y))) (.mul (.mul (.mul (.at (eV 6) d) (.at (eV 2) y)) (.at (eV 2) y)) (.at (eV 2) y))) (n := n) ⟨⟨⟨⟨⟨⟨⟨rfl, ha⟩, ⟨rfl, hx⟩⟩, ⟨rfl, hx⟩⟩, ⟨rfl, hx⟩⟩, ⟨⟨⟨⟨rfl, hb⟩, ⟨rfl, hx⟩⟩, ⟨rfl, hx⟩⟩, ⟨rfl, hy⟩⟩⟩, ⟨⟨⟨⟨rfl, hc⟩, ⟨rfl, hx⟩⟩, ⟨rfl, hy⟩⟩, ⟨rfl, hy⟩⟩⟩, ⟨⟨⟨⟨rfl, hd⟩, ⟨rfl, hy⟩⟩, ⟨rfl, hy⟩⟩, ⟨rfl, hy⟩⟩⟩ (by show 16 * (n + 1) < 1000000; omega))
theorem turned_cubic_ok (st : S) {n : Nat} (hn : n ≤ 21000) (n4 : 8 ≤ n) {a b c d p q r s : Int} (ha : Bz n a) (hb : Bz n b) (hc : Bz n c) (hd : Bz n d) (hp : Bz n p) (hq : Bz n q) (hr : Bz n r) (hs : Bz n s) : m_turned_cubic [.tuple [.int a, .int b, .int c, .int d], .tuple [.int p, .int q, .int r, .int s]] st = .ok (.tuple [.int (cv a b c d p r), .int (tc2 a b c d p q r s), .int (tc3 a b c d p q r s), .int (cv a b c d q s)]) st := by
  refine runFn_of (o := .rt (.tuple [.int (cv a b c d p r), .int (tc2 a b c d p q r s), .int (tc3 a b c d p q r s), .int (cv a b c d q s)])) rfl ?_
  unfold g_turned_cubic
  refine (seq_nx (st' := st) (env' := [some (.v (.tuple [.int a, .int b, .int c, .int d])), some (.v (.tuple [.int p, .int q, .int r, .int s])), some (.v (.int a)), some (.v (.int b)), some (.v (.int c)), some (.v (.int d)), none, none, none, none, none, none, none, none]) ?_).trans ?_
  · exact (asg_ok rfl rfl)
  refine (seq_nx (st' := st) (env' := [some (.v (.tuple [.int a, .int b, .int c, .int d])), some (.v (.tuple [.int p, .int q, .int r, .int s])), some (.v (.int a)), some (.v (.int b)), some (.v (.int c)), some (.v (.int d)), some (.v (.int p)), some (.v (.int q)), some (.v (.int r)), some (.v (.int s)), none, none, none, none]) ?_).trans ?_
  · exact (asg_ok rfl rfl)
  refine (seq_nx (st' := st) (env' := [some (.v (.tuple [.int a, .int b, .int c, .int d])), some (.v (.tuple [.int p, .int q, .int r, .int s])), some (.v (.int a)), some (.v (.int b)), some (.v (.int c)), some (.v (.int d)), some (.v (.int p)), some (.v (.int q)), some (.v (.int r)), some (.v (.int s)), some (.v (.int (cv a b c d p r))), none, none, none]) ?_).trans ?_
  · exact (set_ok (call_of rfl rfl (cubic_value_ok st hn n4 ha hb hc hd hp hr)))
  refine (seq_nx (st' := st) (env' := [some (.v (.tuple [.int a, .int b, .int c, .int d])), some (.v (.tuple [.int p, .int q, .int r, .int s])), some (.v (.int a)), some (.v (.int b)), some (.v (.int c)), some (.v (.int d)), some (.v (.int p)), some (.v (.int q)), some (.v (.int r)), some (.v (.int s)), some (.v (.int (cv a b c d p r))), some (.v (.int (cv a b c d q s))), none, none]) ?_).trans ?_
  · exact (set_ok (call_of rfl rfl (cubic_value_ok st hn n4 ha hb hc hd hq hs)))
  refine (seq_nx (st' := st) (env' := [some (.v (.tuple [.int a, .int b, .int c, .int d])), some (.v (.tuple [.int p, .int q, .int r, .int s])), some (.v (.int a)), some (.v (.int b)), some (.v (.int c)), some (.v (.int d)), some (.v (.int p)), some (.v (.int q)), some (.v (.int r)), some (.v (.int s)), some (.v (.int (cv a b c d p r))), some (.v (.int (cv a b c d q s))), some (.v (.int (tc2 a b c d p q r s))), none]) ?_).trans ?_
  · exact (set_ok (ae_run (.add (.add (.add (.mul (.mul (.mul (.mul (.at (eC (.int 3)) (3 : Int)) (.at (eV 2) a)) (.at (eV 6) p)) (.at (eV 6) p)) (.at (eV 7) q)) (.mul (.at (eV 3) b) (.add (.mul (.mul (.at (eV 6) p) (.at (eV 6) p)) (.at (eV 9) s)) (.mul (.mul (.mul (.at (eC (.int 2)) (2 : Int)) (.at (eV 6) p)) (.at (eV 7) q)) (.at (eV 8) r))))) (.mul (.at (eV 4) c) (.add (.mul (.mul (.at (eV 7) q) (.at (eV 8) r)) (.at (eV 8) r)) (.mul (.mul (.mul (.at (eC (.int 2)) (2 : Int)) (.at (eV 6) p)) (.at (eV 8) r)) (.at (eV 9) s))))) (.mul (.mul (.mul (.mul (.at (eC (.int 3)) (3 : Int)) (.at (eV 5) d)) (.at (eV 8) r)) (.at (eV 8) r)) (.at (eV 9) s))) (n := n) ⟨⟨⟨⟨⟨⟨⟨⟨rfl, (bz_c (n4 := n4) _ (by decide))⟩, ⟨rfl, ha⟩⟩, ⟨rfl, hp⟩⟩, ⟨rfl, hp⟩⟩, ⟨rfl, hq⟩⟩, ⟨⟨rfl, hb⟩, ⟨⟨⟨⟨rfl, hp⟩, ⟨rfl, hp⟩⟩, ⟨rfl, hs⟩⟩, ⟨⟨⟨⟨rfl, (bz_c (n4 := n4) _ (by decide))⟩, ⟨rfl, hp⟩⟩, ⟨rfl, hq⟩⟩, ⟨rfl, hr⟩⟩⟩⟩⟩, ⟨⟨rfl, hc⟩, ⟨⟨⟨⟨rfl, hq⟩, ⟨rfl, hr⟩⟩, ⟨rfl, hr⟩⟩, ⟨⟨⟨⟨rfl, (bz_c (n4 := n4) _ (by decide))⟩, ⟨rfl, hp⟩⟩, ⟨rfl, hr⟩⟩, ⟨rfl, hs⟩⟩⟩⟩⟩, ⟨⟨⟨⟨⟨rfl, (bz_c (n4 := n4) _ (by decide))⟩, ⟨rfl, hd⟩⟩, ⟨rfl, hr⟩⟩, ⟨rfl, hr⟩⟩, ⟨rfl, hs⟩⟩⟩ (by show 26 * (n + 1) < 1000000; omega)))
  refine (seq_nx (st' := st) (env' := [some (.v (.tuple [.int a, .int b, .int c, .int d])), some (.v (.tuple [.int p, .int q, .int r, .int s])), some (.v (.int a)), some (.v (.int b)), some (.v (.int c)), some (.v (.int d)), some (.v (.int p)), some (.v (.int q)), some (.v (.int r)), some (.v (.int s)), some (.v (.int (cv a b c d p r))), some (.v (.int (cv a b c d q s))), some (.v (.int (tc2 a b c d p q r s))), some (.v (.int (tc3 a b c d p q r s)))]) ?_).trans ?_
  · exact (set_ok (ae_run (.add (.add (.add (.mul (.mul (.mul (.mul (.at (eC (.int 3)) (3 : Int)) (.at (eV 2) a)) (.at (eV 6) p)) (.at (eV 7) q)) (.at (eV 7) q)) (.mul (.at (eV 3) b) (.add (.mul (.mul (.at (eV 7) q) (.at (eV 7) q)) (.at (eV 8) r)) (.mul (.mul (.mul (.at (eC (.int 2)) (2 : Int)) (.at (eV 6) p)) (.at (eV 7) q)) (.at (eV 9) s))))) (.mul (.at (eV 4) c) (.add (.mul (.mul (.at (eV 6) p) (.at (eV 9) s)) (.at (eV 9) s)) (.mul (.mul (.mul (.at (eC (.int 2)) (2 : Int)) (.at (eV 7) q)) (.at (eV 8) r)) (.at (eV 9) s))))) (.mul (.mul (.mul (.mul (.at (eC (.int 3)) (3 : Int)) (.at (eV 5) d)) (.at (eV 8) r)) (.at (eV 9) s)) (.at (eV 9) s))) (n := n) ⟨⟨⟨⟨⟨⟨⟨⟨rfl, (bz_c (n4 := n4) _ (by decide))⟩, ⟨rfl, ha⟩⟩, ⟨rfl, hp⟩⟩, ⟨rfl, hq⟩⟩, ⟨rfl, hq⟩⟩, ⟨⟨rfl, hb⟩, ⟨⟨⟨⟨rfl, hq⟩, ⟨rfl, hq⟩⟩, ⟨rfl, hr⟩⟩, ⟨⟨⟨⟨rfl, (bz_c (n4 := n4) _ (by decide))⟩, ⟨rfl, hp⟩⟩, ⟨rfl, hq⟩⟩, ⟨rfl, hs⟩⟩⟩⟩⟩, ⟨⟨rfl, hc⟩, ⟨⟨⟨⟨rfl, hp⟩, ⟨rfl, hs⟩⟩, ⟨rfl, hs⟩⟩, ⟨⟨⟨⟨rfl, (bz_c (n4 := n4) _ (by decide))⟩, ⟨rfl, hq⟩⟩, ⟨rfl, hr⟩⟩, ⟨rfl, hs⟩⟩⟩⟩⟩, ⟨⟨⟨⟨⟨rfl, (bz_c (n4 := n4) _ (by decide))⟩, ⟨rfl, hd⟩⟩, ⟨rfl, hr⟩⟩, ⟨rfl, hs⟩⟩, ⟨rfl, hs⟩⟩⟩ (by show 26 * (n + 1) < 1000000; omega)))
  exact ret_ok rfl
theorem _law_cubic_value_ok (st : S) {n : Nat} (hn : n ≤ 21000) (n4 : 8 ≤ n) {a b c d x y : Int} (ha : Bz n a) (hb : Bz n b) (hc : Bz n c) (hd : Bz n d) (hx : Bz n x) (hy : Bz n y) : m__law_cubic_value [.tuple [.int a, .int b, .int c, .int d], .int x, .int y] st = .ok (.int (cv a b c d x y)) st := by
  refine runFn_of (o := .rt (.int (cv a b c d x y))) rfl ?_
  unfold g__law_cubic_value
  refine (seq_nx (st' := st) (env' := [some (.v (.tuple [.int a, .int b, .int c, .int d])), some (.v (.int x)), some (.v (.int y)), some (.v (.int a)), some (.v (.int b)), some (.v (.int c)), some (.v (.int d))]) ?_).trans ?_
  · exact (asg_ok rfl rfl)
  exact ret_ok (ae_run (.add (.add (.add (.mul (.mul (.mul (.at (eV 3) a) (.at (eV 1) x)) (.at (eV 1) x)) (.at (eV 1) x)) (.mul (.mul (.mul (.at (eV 4) b) (.at (eV 1) x)) (.at (eV 1) x)) (.at (eV 2) y))) (.mul (.mul (.mul (.at (eV 5) c) (.at (eV 1) x)) (.at (eV 2) y)) (.at (eV 2) y))) (.mul (.mul (.mul (.at (eV 6) d) (.at (eV 2) y)) (.at (eV 2) y)) (.at (eV 2) y))) (n := n) ⟨⟨⟨⟨⟨⟨⟨rfl, ha⟩, ⟨rfl, hx⟩⟩, ⟨rfl, hx⟩⟩, ⟨rfl, hx⟩⟩, ⟨⟨⟨⟨rfl, hb⟩, ⟨rfl, hx⟩⟩, ⟨rfl, hx⟩⟩, ⟨rfl, hy⟩⟩⟩, ⟨⟨⟨⟨rfl, hc⟩, ⟨rfl, hx⟩⟩, ⟨rfl, hy⟩⟩, ⟨rfl, hy⟩⟩⟩, ⟨⟨⟨⟨rfl, hd⟩, ⟨rfl, hy⟩⟩, ⟨rfl, hy⟩⟩, ⟨rfl, hy⟩⟩⟩ (by show 16 * (n + 1) < 1000000; omega))
theorem _law_cubic_size_ok (st : S) {n : Nat} (hn : n ≤ 21000) (n4 : 8 ≤ n) {a b c d : Int} (ha : Bz n a) (hb : Bz n b) (hc : Bz n c) (hd : Bz n d) : m__law_cubic_size [.tuple [.int a, .int b, .int c, .int d]] st = .ok (.int (cs a b c d)) st := by
  refine runFn_of (o := .rt (.int (cs a b c d))) rfl ?_
  unfold g__law_cubic_size
  refine (seq_nx (st' := st) (env' := [some (.v (.tuple [.int a, .int b, .int c, .int d])), some (.v (.int a)), some (.v (.int b)), some (.v (.int c)), some (.v (.int d))]) ?_).trans ?_
  · exact (asg_ok rfl rfl)
  exact ret_ok (ae_run (.sub (.sub (.sub (.add (.mul (.mul (.mul (.at (eV 2) b) (.at (eV 2) b)) (.at (eV 3) c)) (.at (eV 3) c)) (.mul (.mul (.mul (.mul (.at (eC (.int 18)) (18 : Int)) (.at (eV 1) a)) (.at (eV 2) b)) (.at (eV 3) c)) (.at (eV 4) d))) (.mul (.mul (.mul (.mul (.at (eC (.int 4)) (4 : Int)) (.at (eV 1) a)) (.at (eV 3) c)) (.at (eV 3) c)) (.at (eV 3) c))) (.mul (.mul (.mul (.mul (.at (eC (.int 4)) (4 : Int)) (.at (eV 2) b)) (.at (eV 2) b)) (.at (eV 2) b)) (.at (eV 4) d))) (.mul (.mul (.mul (.mul (.at (eC (.int 27)) (27 : Int)) (.at (eV 1) a)) (.at (eV 1) a)) (.at (eV 4) d)) (.at (eV 4) d))) (n := n) ⟨⟨⟨⟨⟨⟨⟨⟨rfl, hb⟩, ⟨rfl, hb⟩⟩, ⟨rfl, hc⟩⟩, ⟨rfl, hc⟩⟩, ⟨⟨⟨⟨⟨rfl, (bz_c (n4 := n4) _ (by decide))⟩, ⟨rfl, ha⟩⟩, ⟨rfl, hb⟩⟩, ⟨rfl, hc⟩⟩, ⟨rfl, hd⟩⟩⟩, ⟨⟨⟨⟨⟨rfl, (bz_c (n4 := n4) _ (by decide))⟩, ⟨rfl, ha⟩⟩, ⟨rfl, hc⟩⟩, ⟨rfl, hc⟩⟩, ⟨rfl, hc⟩⟩⟩, ⟨⟨⟨⟨⟨rfl, (bz_c (n4 := n4) _ (by decide))⟩, ⟨rfl, hb⟩⟩, ⟨rfl, hb⟩⟩, ⟨rfl, hb⟩⟩, ⟨rfl, hd⟩⟩⟩, ⟨⟨⟨⟨⟨rfl, (bz_c (n4 := n4) _ (by decide))⟩, ⟨rfl, ha⟩⟩, ⟨rfl, ha⟩⟩, ⟨rfl, hd⟩⟩, ⟨rfl, hd⟩⟩⟩ (by show 24 * (n + 1) < 1000000; omega))
theorem cubic_product_ok (st : S) {n : Nat} (hn : n ≤ 21000) (n4 : 8 ≤ n) {a b c d p q r x y z : Int} (ha : Bz n a) (hb : Bz n b) (hc : Bz n c) (hd : Bz n d) (hp : Bz n p) (hq : Bz n q) (hr : Bz n r) (hx : Bz n x) (hy : Bz n y) (hz : Bz n z) (h13 : Bz n (q * y)) (h14 : Bz n (q * z + r * y)) (h15 : Bz n (r * z)) : m_cubic_product [.tuple [.int a, .int b, .int c, .int d], .tuple [.int p, .int q, .int r], .tuple [.int x, .int y, .int z]] st = .ok (.tuple [.int (pa a b c d p q r x y z), .int (pb a b c d p q r x y z), .int (pc a b c d p q r x y z)]) st := by
  refine runFn_of (o := .rt (.tuple [.int (pa a b c d p q r x y z), .int (pb a b c d p q r x y z), .int (pc a b c d p q r x y z)])) rfl ?_
  unfold g_cubic_product
  refine (seq_nx (st' := st) (env' := [some (.v (.tuple [.int a, .int b, .int c, .int d])), some (.v (.tuple [.int p, .int q, .int r])), some (.v (.tuple [.int x, .int y, .int z])), some (.v (.int a)), some (.v (.int b)), some (.v (.int c)), some (.v (.int d)), none, none, none, none, none, none, none, none, none]) ?_).trans ?_
  · exact (asg_ok rfl rfl)
  refine (seq_nx (st' := st) (env' := [some (.v (.tuple [.int a, .int b, .int c, .int d])), some (.v (.tuple [.int p, .int q, .int r])), some (.v (.tuple [.int x, .int y, .int z])), some (.v (.int a)), some (.v (.int b)), some (.v (.int c)), some (.v (.int d)), some (.v (.int p)), some (.v (.int q)), some (.v (.int r)), none, none, none, none, none, none]) ?_).trans ?_
  · exact (asg_ok rfl rfl)
  refine (seq_nx (st' := st) (env' := [some (.v (.tuple [.int a, .int b, .int c, .int d])), some (.v (.tuple [.int p, .int q, .int r])), some (.v (.tuple [.int x, .int y, .int z])), some (.v (.int a)), some (.v (.int b)), some (.v (.int c)), some (.v (.int d)), some (.v (.int p)), some (.v (.int q)), some (.v (.int r)), some (.v (.int x)), some (.v (.int y)), some (.v (.int z)), none, none, none]) ?_).trans ?_
  · exact (asg_ok rfl rfl)
  refine (seq_nx (st' := st) (env' := [some (.v (.tuple [.int a, .int b, .int c, .int d])), some (.v (.tuple [.int p, .int q, .int r])), some (.v (.tuple [.int x, .int y, .int z])), some (.v (.int a)), some (.v (.int b)), some (.v (.int c)), some (.v (.int d)), some (.v (.int p)), some (.v (.int q)), some (.v (.int r)), some (.v (.int x)), some (.v (.int y)), some (.v (.int z)), some (.v (.int (q * y))), some (.v (.int (q * z + r * y))), some (.v (.int (r * z)))]) ?_).trans ?_
  · exact (par3_ok (args3 (ae_run (.mul (.at (eV 8) q) (.at (eV 11) y)) (n := n) ⟨⟨rfl, hq⟩, ⟨rfl, hy⟩⟩ (by show 2 * (n + 1) < 1000000; omega)) (ae_run (.add (.mul (.at (eV 8) q) (.at (eV 12) z)) (.mul (.at (eV 9) r) (.at (eV 11) y))) (n := n) ⟨⟨⟨rfl, hq⟩, ⟨rfl, hz⟩⟩, ⟨⟨rfl, hr⟩, ⟨rfl, hy⟩⟩⟩ (by show 4 * (n + 1) < 1000000; omega)) (ae_run (.mul (.at (eV 9) r) (.at (eV 12) z)) (n := n) ⟨⟨rfl, hr⟩, ⟨rfl, hz⟩⟩ (by show 2 * (n + 1) < 1000000; omega))))
  exact ret_ok (tup_of (args3 (ae_run (.sub (.sub (.sub (.mul (.at (eV 7) p) (.at (eV 10) x)) (.mul (.mul (.at (eV 3) a) (.at (eV 5) c)) (.at (eV 13) (q * y)))) (.mul (.mul (.at (eV 3) a) (.at (eV 6) d)) (.at (eV 14) (q * z + r * y)))) (.mul (.mul (.at (eV 4) b) (.at (eV 6) d)) (.at (eV 15) (r * z)))) (n := n) ⟨⟨⟨⟨⟨rfl, hp⟩, ⟨rfl, hx⟩⟩, ⟨⟨⟨rfl, ha⟩, ⟨rfl, hc⟩⟩, ⟨rfl, h13⟩⟩⟩, ⟨⟨⟨rfl, ha⟩, ⟨rfl, hd⟩⟩, ⟨rfl, h14⟩⟩⟩, ⟨⟨⟨rfl, hb⟩, ⟨rfl, hd⟩⟩, ⟨rfl, h15⟩⟩⟩ (by show 11 * (n + 1) < 1000000; omega)) (ae_run (.sub (.sub (.add (.mul (.at (eV 7) p) (.at (eV 11) y)) (.mul (.at (eV 8) q) (.at (eV 10) x))) (.mul (.at (eV 4) b) (.at (eV 13) (q * y)))) (.mul (.at (eV 6) d) (.at (eV 15) (r * z)))) (n := n) ⟨⟨⟨⟨⟨rfl, hp⟩, ⟨rfl, hy⟩⟩, ⟨⟨rfl, hq⟩, ⟨rfl, hx⟩⟩⟩, ⟨⟨rfl, hb⟩, ⟨rfl, h13⟩⟩⟩, ⟨⟨rfl, hd⟩, ⟨rfl, h15⟩⟩⟩ (by show 8 * (n + 1) < 1000000; omega)) (ae_run (.add (.add (.add (.mul (.at (eV 7) p) (.at (eV 12) z)) (.mul (.at (eV 9) r) (.at (eV 10) x))) (.mul (.at (eV 3) a) (.at (eV 13) (q * y)))) (.mul (.at (eV 5) c) (.at (eV 15) (r * z)))) (n := n) ⟨⟨⟨⟨⟨rfl, hp⟩, ⟨rfl, hz⟩⟩, ⟨⟨rfl, hr⟩, ⟨rfl, hx⟩⟩⟩, ⟨⟨rfl, ha⟩, ⟨rfl, h13⟩⟩⟩, ⟨⟨rfl, hc⟩, ⟨rfl, h15⟩⟩⟩ (by show 8 * (n + 1) < 1000000; omega))) rfl)
theorem cubic_sum_ok (st : S) {n : Nat} (hn : n ≤ 21000) (n4 : 8 ≤ n) {p q r x y z : Int} (hp : Bz n p) (hq : Bz n q) (hr : Bz n r) (hx : Bz n x) (hy : Bz n y) (hz : Bz n z) : m_cubic_sum [.tuple [.int p, .int q, .int r], .tuple [.int x, .int y, .int z]] st = .ok (.tuple [.int (p + x), .int (q + y), .int (r + z)]) st := by
  refine runFn_of (o := .rt (.tuple [.int (p + x), .int (q + y), .int (r + z)])) rfl ?_
  unfold g_cubic_sum
  exact ret_ok (tup_of (args3 (ae_run (.add (.at (e2 opIx (eV 0) (eC (.int 0))) p) (.at (e2 opIx (eV 1) (eC (.int 0))) x)) (n := n) ⟨⟨rfl, hp⟩, ⟨rfl, hx⟩⟩ (by show 2 * (n + 1) < 1000000; omega)) (ae_run (.add (.at (e2 opIx (eV 0) (eC (.int 1))) q) (.at (e2 opIx (eV 1) (eC (.int 1))) y)) (n := n) ⟨⟨rfl, hq⟩, ⟨rfl, hy⟩⟩ (by show 2 * (n + 1) < 1000000; omega)) (ae_run (.add (.at (e2 opIx (eV 0) (eC (.int 2))) r) (.at (e2 opIx (eV 1) (eC (.int 2))) z)) (n := n) ⟨⟨rfl, hr⟩, ⟨rfl, hz⟩⟩ (by show 2 * (n + 1) < 1000000; omega))) rfl)
theorem _law_cubic_turned_ok (st : S) {n : Nat} (hn : n ≤ 21000) (n4 : 8 ≤ n) {a b c d p q r s : Int} (ha : Bz n a) (hb : Bz n b) (hc : Bz n c) (hd : Bz n d) (hp : Bz n p) (hq : Bz n q) (hr : Bz n r) (hs : Bz n s) : m__law_cubic_turned [.tuple [.int a, .int b, .int c, .int d], .tuple [.int p, .int q, .int r, .int s]] st = .ok (.tuple [.int (lt1 a b c d p q r s), .int (lt2 a b c d p q r s), .int (lt3 a b c d p q r s), .int (lt4 a b c d p q r s)]) st := by
  refine runFn_of (o := .rt (.tuple [.int (lt1 a b c d p q r s), .int (lt2 a b c d p q r s), .int (lt3 a b c d p q r s), .int (lt4 a b c d p q r s)])) rfl ?_
  unfold g__law_cubic_turned
  refine (seq_nx (st' := st) (env' := [some (.v (.tuple [.int a, .int b, .int c, .int d])), some (.v (.tuple [.int p, .int q, .int r, .int s])), some (.v (.int a)), some (.v (.int b)), some (.v (.int c)), some (.v (.int d)), none, none, none, none, none, none, none, none]) ?_).trans ?_
  · exact (asg_ok rfl rfl)
  refine (seq_nx (st' := st) (env' := [some (.v (.tuple [.int a, .int b, .int c, .int d])), some (.v (.tuple [.int p, .int q, .int r, .int s])), some (.v (.int a)), some (.v (.int b)), some (.v (.int c)), some (.v (.int d)), some (.v (.int p)), some (.v (.int q)), some (.v (.int r)), some (.v (.int s)), none, none, none, none]) ?_).trans ?_
  · exact (asg_ok rfl rfl)
  refine (seq_nx (st' := st) (env' := [some (.v (.tuple [.int a, .int b, .int c, .int d])), some (.v (.tuple [.int p, .int q, .int r, .int s])), some (.v (.int a)), some (.v (.int b)), some (.v (.int c)), some (.v (.int d)), some (.v (.int p)), some (.v (.int q)), some (.v (.int r)), some (.v (.int s)), some (.v (.int (lt1 a b c d p q r s))), none, none, none]) ?_).trans ?_
  · exact (set_ok (ae_run (.add (.add (.add (.mul (.mul (.mul (.at (eV 2) a) (.at (eV 6) p)) (.at (eV 6) p)) (.at (eV 6) p)) (.mul (.mul (.mul (.at (eV 3) b) (.at (eV 6) p)) (.at (eV 6) p)) (.at (eV 8) r))) (.mul (.mul (.mul (.at (eV 4) c) (.at (eV 6) p)) (.at (eV 8) r)) (.at (eV 8) r))) (.mul (.mul (.mul (.at (eV 5) d) (.at (eV 8) r)) (.at (eV 8) r)) (.at (eV 8) r))) (n := n) ⟨⟨⟨⟨⟨⟨⟨rfl, ha⟩, ⟨rfl, hp⟩⟩, ⟨rfl, hp⟩⟩, ⟨rfl, hp⟩⟩, ⟨⟨⟨⟨rfl, hb⟩, ⟨rfl, hp⟩⟩, ⟨rfl, hp⟩⟩, ⟨rfl, hr⟩⟩⟩, ⟨⟨⟨⟨rfl, hc⟩, ⟨rfl, hp⟩⟩, ⟨rfl, hr⟩⟩, ⟨rfl, hr⟩⟩⟩, ⟨⟨⟨⟨rfl, hd⟩, ⟨rfl, hr⟩⟩, ⟨rfl, hr⟩⟩, ⟨rfl, hr⟩⟩⟩ (by show 16 * (n + 1) < 1000000; omega)))
  refine (seq_nx (st' := st) (env' := [some (.v (.tuple [.int a, .int b, .int c, .int d])), some (.v (.tuple [.int p, .int q, .int r, .int s])), some (.v (.int a)), some (.v (.int b)), some (.v (.int c)), some (.v (.int d)), some (.v (.int p)), some (.v (.int q)), some (.v (.int r)), some (.v (.int s)), some (.v (.int (lt1 a b c d p q r s))), some (.v (.int (lt2 a b c d p q r s))), none, none]) ?_).trans ?_
  · exact (set_ok (ae_run (.add (.add (.add (.mul (.mul (.mul (.mul (.at (eC (.int 3)) (3 : Int)) (.at (eV 2) a)) (.at (eV 6) p)) (.at (eV 6) p)) (.at (eV 7) q)) (.mul (.at (eV 3) b) (.add (.mul (.mul (.at (eV 6) p) (.at (eV 6) p)) (.at (eV 9) s)) (.mul (.mul (.mul (.at (eC (.int 2)) (2 : Int)) (.at (eV 6) p)) (.at (eV 7) q)) (.at (eV 8) r))))) (.mul (.at (eV 4) c) (.add (.mul (.mul (.at (eV 8) r) (.at (eV 8) r)) (.at (eV 7) q)) (.mul (.mul (.mul (.at (eC (.int 2)) (2 : Int)) (.at (eV 6) p)) (.at (eV 8) r)) (.at (eV 9) s))))) (.mul (.mul (.mul (.mul (.at (eC (.int 3)) (3 : Int)) (.at (eV 5) d)) (.at (eV 8) r)) (.at (eV 8) r)) (.at (eV 9) s))) (n := n) ⟨⟨⟨⟨⟨⟨⟨⟨rfl, (bz_c (n4 := n4) _ (by decide))⟩, ⟨rfl, ha⟩⟩, ⟨rfl, hp⟩⟩, ⟨rfl, hp⟩⟩, ⟨rfl, hq⟩⟩, ⟨⟨rfl, hb⟩, ⟨⟨⟨⟨rfl, hp⟩, ⟨rfl, hp⟩⟩, ⟨rfl, hs⟩⟩, ⟨⟨⟨⟨rfl, (bz_c (n4 := n4) _ (by decide))⟩, ⟨rfl, hp⟩⟩, ⟨rfl, hq⟩⟩, ⟨rfl, hr⟩⟩⟩⟩⟩, ⟨⟨rfl, hc⟩, ⟨⟨⟨⟨rfl, hr⟩, ⟨rfl, hr⟩⟩, ⟨rfl, hq⟩⟩, ⟨⟨⟨⟨rfl, (bz_c (n4 := n4) _ (by decide))⟩, ⟨rfl, hp⟩⟩, ⟨rfl, hr⟩⟩, ⟨rfl, hs⟩⟩⟩⟩⟩, ⟨⟨⟨⟨⟨rfl, (bz_c (n4 := n4) _ (by decide))⟩, ⟨rfl, hd⟩⟩, ⟨rfl, hr⟩⟩, ⟨rfl, hr⟩⟩, ⟨rfl, hs⟩⟩⟩ (by show 26 * (n + 1) < 1000000; omega)))
  refine (seq_nx (st' := st) (env' := [some (.v (.tuple [.int a, .int b, .int c, .int d])), some (.v (.tuple [.int p, .int q, .int r, .int s])), some (.v (.int a)), some (.v (.int b)), some (.v (.int c)), some (.v (.int d)), some (.v (.int p)), some (.v (.int q)), some (.v (.int r)), some (.v (.int s)), some (.v (.int (lt1 a b c d p q r s))), some (.v (.int (lt2 a b c d p q r s))), some (.v (.int (lt3 a b c d p q r s))), none]) ?_).trans ?_
  · exact (set_ok (ae_run (.add (.add (.add (.mul (.mul (.mul (.mul (.at (eC (.int 3)) (3 : Int)) (.at (eV 2) a)) (.at (eV 6) p)) (.at (eV 7) q)) (.at (eV 7) q)) (.mul (.at (eV 3) b) (.add (.mul (.mul (.at (eV 7) q) (.at (eV 7) q)) (.at (eV 8) r)) (.mul (.mul (.mul (.at (eC (.int 2)) (2 : Int)) (.at (eV 6) p)) (.at (eV 7) q)) (.at (eV 9) s))))) (.mul (.at (eV 4) c) (.add (.mul (.mul (.at (eV 9) s) (.at (eV 9) s)) (.at (eV 6) p)) (.mul (.mul (.mul (.at (eC (.int 2)) (2 : Int)) (.at (eV 7) q)) (.at (eV 8) r)) (.at (eV 9) s))))) (.mul (.mul (.mul (.mul (.at (eC (.int 3)) (3 : Int)) (.at (eV 5) d)) (.at (eV 8) r)) (.at (eV 9) s)) (.at (eV 9) s))) (n := n) ⟨⟨⟨⟨⟨⟨⟨⟨rfl, (bz_c (n4 := n4) _ (by decide))⟩, ⟨rfl, ha⟩⟩, ⟨rfl, hp⟩⟩, ⟨rfl, hq⟩⟩, ⟨rfl, hq⟩⟩, ⟨⟨rfl, hb⟩, ⟨⟨⟨⟨rfl, hq⟩, ⟨rfl, hq⟩⟩, ⟨rfl, hr⟩⟩, ⟨⟨⟨⟨rfl, (bz_c (n4 := n4) _ (by decide))⟩, ⟨rfl, hp⟩⟩, ⟨rfl, hq⟩⟩, ⟨rfl, hs⟩⟩⟩⟩⟩, ⟨⟨rfl, hc⟩, ⟨⟨⟨⟨rfl, hs⟩, ⟨rfl, hs⟩⟩, ⟨rfl, hp⟩⟩, ⟨⟨⟨⟨rfl, (bz_c (n4 := n4) _ (by decide))⟩, ⟨rfl, hq⟩⟩, ⟨rfl, hr⟩⟩, ⟨rfl, hs⟩⟩⟩⟩⟩, ⟨⟨⟨⟨⟨rfl, (bz_c (n4 := n4) _ (by decide))⟩, ⟨rfl, hd⟩⟩, ⟨rfl, hr⟩⟩, ⟨rfl, hs⟩⟩, ⟨rfl, hs⟩⟩⟩ (by show 26 * (n + 1) < 1000000; omega)))
  refine (seq_nx (st' := st) (env' := [some (.v (.tuple [.int a, .int b, .int c, .int d])), some (.v (.tuple [.int p, .int q, .int r, .int s])), some (.v (.int a)), some (.v (.int b)), some (.v (.int c)), some (.v (.int d)), some (.v (.int p)), some (.v (.int q)), some (.v (.int r)), some (.v (.int s)), some (.v (.int (lt1 a b c d p q r s))), some (.v (.int (lt2 a b c d p q r s))), some (.v (.int (lt3 a b c d p q r s))), some (.v (.int (lt4 a b c d p q r s)))]) ?_).trans ?_
  · exact (set_ok (ae_run (.add (.add (.add (.mul (.mul (.mul (.at (eV 2) a) (.at (eV 7) q)) (.at (eV 7) q)) (.at (eV 7) q)) (.mul (.mul (.mul (.at (eV 3) b) (.at (eV 7) q)) (.at (eV 7) q)) (.at (eV 9) s))) (.mul (.mul (.mul (.at (eV 4) c) (.at (eV 7) q)) (.at (eV 9) s)) (.at (eV 9) s))) (.mul (.mul (.mul (.at (eV 5) d) (.at (eV 9) s)) (.at (eV 9) s)) (.at (eV 9) s))) (n := n) ⟨⟨⟨⟨⟨⟨⟨rfl, ha⟩, ⟨rfl, hq⟩⟩, ⟨rfl, hq⟩⟩, ⟨rfl, hq⟩⟩, ⟨⟨⟨⟨rfl, hb⟩, ⟨rfl, hq⟩⟩, ⟨rfl, hq⟩⟩, ⟨rfl, hs⟩⟩⟩, ⟨⟨⟨⟨rfl, hc⟩, ⟨rfl, hq⟩⟩, ⟨rfl, hs⟩⟩, ⟨rfl, hs⟩⟩⟩, ⟨⟨⟨⟨rfl, hd⟩, ⟨rfl, hs⟩⟩, ⟨rfl, hs⟩⟩, ⟨rfl, hs⟩⟩⟩ (by show 16 * (n + 1) < 1000000; omega)))
  exact ret_ok rfl
theorem cubic_trace_ok (st : S) {n : Nat} (hn : n ≤ 21000) (n4 : 8 ≤ n) {m0 m1 m2 m3 m4 m5 m6 m7 m8 : Int} (hm0 : Bz n m0) (hm1 : Bz n m1) (hm2 : Bz n m2) (hm3 : Bz n m3) (hm4 : Bz n m4) (hm5 : Bz n m5) (hm6 : Bz n m6) (hm7 : Bz n m7) (hm8 : Bz n m8) {C O : PD} (hM : m_cubic_matrix [C, O] st = .ok (.tuple [.tuple [.int m0, .int m1, .int m2], .tuple [.int m3, .int m4, .int m5], .tuple [.int m6, .int m7, .int m8]]) st) : m_cubic_trace [C, O] st = .ok (.int (m0 + m4 + m8)) st := by
  refine runFn_of (o := .rt (.int (m0 + m4 + m8))) rfl ?_
  unfold g_cubic_trace
  refine (seq_nx (st' := st) (env' := [some (.v (C)), some (.v (O)), some (.v (.tuple [.tuple [.int m0, .int m1, .int m2], .tuple [.int m3, .int m4, .int m5], .tuple [.int m6, .int m7, .int m8]]))]) ?_).trans ?_
  · exact (set_ok (call_of rfl rfl hM))
  exact ret_ok (ae_run (.add (.add (.at (e2 opIx (e2 opIx (eV 2) (eC (.int 0))) (eC (.int 0))) m0) (.at (e2 opIx (e2 opIx (eV 2) (eC (.int 1))) (eC (.int 1))) m4)) (.at (e2 opIx (e2 opIx (eV 2) (eC (.int 2))) (eC (.int 2))) m8)) (n := n) ⟨⟨⟨rfl, hm0⟩, ⟨rfl, hm4⟩⟩, ⟨rfl, hm8⟩⟩ (by show 3 * (n + 1) < 1000000; omega))
theorem cubic_norm_ok (st : S) {n : Nat} (hn : n ≤ 21000) (n4 : 8 ≤ n) {m0 m1 m2 m3 m4 m5 m6 m7 m8 : Int} (hm0 : Bz n m0) (hm1 : Bz n m1) (hm2 : Bz n m2) (hm3 : Bz n m3) (hm4 : Bz n m4) (hm5 : Bz n m5) (hm6 : Bz n m6) (hm7 : Bz n m7) (hm8 : Bz n m8) {C O : PD} (hM : m_cubic_matrix [C, O] st = .ok (.tuple [.tuple [.int m0, .int m1, .int m2], .tuple [.int m3, .int m4, .int m5], .tuple [.int m6, .int m7, .int m8]]) st) : m_cubic_norm [C, O] st = .ok (.int (det m0 m1 m2 m3 m4 m5 m6 m7 m8)) st := by
  refine runFn_of (o := .rt (.int (det m0 m1 m2 m3 m4 m5 m6 m7 m8))) rfl ?_
  unfold g_cubic_norm
  refine (seq_nx (st' := st) (env' := [some (.v (C)), some (.v (O)), some (.v (.int m0)), some (.v (.int m1)), some (.v (.int m2)), some (.v (.int m3)), some (.v (.int m4)), some (.v (.int m5)), some (.v (.int m6)), some (.v (.int m7)), some (.v (.int m8))]) ?_).trans ?_
  · exact (asg_ok (call_of rfl rfl hM) rfl)
  exact ret_ok (ae_run (.add (.sub (.mul (.at (eV 2) m0) (.sub (.mul (.at (eV 6) m4) (.at (eV 10) m8)) (.mul (.at (eV 7) m5) (.at (eV 9) m7)))) (.mul (.at (eV 3) m1) (.sub (.mul (.at (eV 5) m3) (.at (eV 10) m8)) (.mul (.at (eV 7) m5) (.at (eV 8) m6))))) (.mul (.at (eV 4) m2) (.sub (.mul (.at (eV 5) m3) (.at (eV 9) m7)) (.mul (.at (eV 6) m4) (.at (eV 8) m6))))) (n := n) ⟨⟨⟨⟨rfl, hm0⟩, ⟨⟨⟨rfl, hm4⟩, ⟨rfl, hm8⟩⟩, ⟨⟨rfl, hm5⟩, ⟨rfl, hm7⟩⟩⟩⟩, ⟨⟨rfl, hm1⟩, ⟨⟨⟨rfl, hm3⟩, ⟨rfl, hm8⟩⟩, ⟨⟨rfl, hm5⟩, ⟨rfl, hm6⟩⟩⟩⟩⟩, ⟨⟨rfl, hm2⟩, ⟨⟨⟨rfl, hm3⟩, ⟨rfl, hm7⟩⟩, ⟨⟨rfl, hm4⟩, ⟨rfl, hm6⟩⟩⟩⟩⟩ (by show 15 * (n + 1) < 1000000; omega))
theorem cubic_second_ok (st : S) {n : Nat} (hn : n ≤ 21000) (n4 : 8 ≤ n) {m0 m1 m2 m3 m4 m5 m6 m7 m8 : Int} (hm0 : Bz n m0) (hm1 : Bz n m1) (hm2 : Bz n m2) (hm3 : Bz n m3) (hm4 : Bz n m4) (hm5 : Bz n m5) (hm6 : Bz n m6) (hm7 : Bz n m7) (hm8 : Bz n m8) {C O : PD} (hM : m_cubic_matrix [C, O] st = .ok (.tuple [.tuple [.int m0, .int m1, .int m2], .tuple [.int m3, .int m4, .int m5], .tuple [.int m6, .int m7, .int m8]]) st) : m_cubic_second [C, O] st = .ok (.int (sec m0 m1 m2 m3 m4 m5 m6 m7 m8)) st := by
  refine runFn_of (o := .rt (.int (sec m0 m1 m2 m3 m4 m5 m6 m7 m8))) rfl ?_
  unfold g_cubic_second
  refine (seq_nx (st' := st) (env' := [some (.v (C)), some (.v (O)), some (.v (.int m0)), some (.v (.int m1)), some (.v (.int m2)), some (.v (.int m3)), some (.v (.int m4)), some (.v (.int m5)), some (.v (.int m6)), some (.v (.int m7)), some (.v (.int m8))]) ?_).trans ?_
  · exact (asg_ok (call_of rfl rfl hM) rfl)
  exact ret_ok (ae_run (.sub (.add (.sub (.add (.sub (.mul (.at (eV 2) m0) (.at (eV 6) m4)) (.mul (.at (eV 3) m1) (.at (eV 5) m3))) (.mul (.at (eV 2) m0) (.at (eV 10) m8))) (.mul (.at (eV 4) m2) (.at (eV 8) m6))) (.mul (.at (eV 6) m4) (.at (eV 10) m8))) (.mul (.at (eV 7) m5) (.at (eV 9) m7))) (n := n) ⟨⟨⟨⟨⟨⟨⟨rfl, hm0⟩, ⟨rfl, hm4⟩⟩, ⟨⟨rfl, hm1⟩, ⟨rfl, hm3⟩⟩⟩, ⟨⟨rfl, hm0⟩, ⟨rfl, hm8⟩⟩⟩, ⟨⟨rfl, hm2⟩, ⟨rfl, hm6⟩⟩⟩, ⟨⟨rfl, hm4⟩, ⟨rfl, hm8⟩⟩⟩, ⟨⟨rfl, hm5⟩, ⟨rfl, hm7⟩⟩⟩ (by show 12 * (n + 1) < 1000000; omega))
theorem _law_determinant_ok (st : S) {n : Nat} (hn : n ≤ 21000) (n4 : 8 ≤ n) {m0 m1 m2 m3 m4 m5 m6 m7 m8 : Int} (hm0 : Bz n m0) (hm1 : Bz n m1) (hm2 : Bz n m2) (hm3 : Bz n m3) (hm4 : Bz n m4) (hm5 : Bz n m5) (hm6 : Bz n m6) (hm7 : Bz n m7) (hm8 : Bz n m8) : m__law_determinant [.tuple [.tuple [.int m0, .int m1, .int m2], .tuple [.int m3, .int m4, .int m5], .tuple [.int m6, .int m7, .int m8]]] st = .ok (.int (det m0 m1 m2 m3 m4 m5 m6 m7 m8)) st := by
  refine runFn_of (o := .rt (.int (det m0 m1 m2 m3 m4 m5 m6 m7 m8))) rfl ?_
  unfold g__law_determinant
  refine (seq_nx (st' := st) (env' := [some (.v (.tuple [.tuple [.int m0, .int m1, .int m2], .tuple [.int m3, .int m4, .int m5], .tuple [.int m6, .int m7, .int m8]])), some (.v (.int m0)), some (.v (.int m1)), some (.v (.int m2)), some (.v (.int m3)), some (.v (.int m4)), some (.v (.int m5)), some (.v (.int m6)), some (.v (.int m7)), some (.v (.int m8))]) ?_).trans ?_
  · exact (asg_ok rfl rfl)
  exact ret_ok (ae_run (.add (.sub (.mul (.at (eV 1) m0) (.sub (.mul (.at (eV 5) m4) (.at (eV 9) m8)) (.mul (.at (eV 6) m5) (.at (eV 8) m7)))) (.mul (.at (eV 2) m1) (.sub (.mul (.at (eV 4) m3) (.at (eV 9) m8)) (.mul (.at (eV 6) m5) (.at (eV 7) m6))))) (.mul (.at (eV 3) m2) (.sub (.mul (.at (eV 4) m3) (.at (eV 8) m7)) (.mul (.at (eV 5) m4) (.at (eV 7) m6))))) (n := n) ⟨⟨⟨⟨rfl, hm0⟩, ⟨⟨⟨rfl, hm4⟩, ⟨rfl, hm8⟩⟩, ⟨⟨rfl, hm5⟩, ⟨rfl, hm7⟩⟩⟩⟩, ⟨⟨rfl, hm1⟩, ⟨⟨⟨rfl, hm3⟩, ⟨rfl, hm8⟩⟩, ⟨⟨rfl, hm5⟩, ⟨rfl, hm6⟩⟩⟩⟩⟩, ⟨⟨rfl, hm2⟩, ⟨⟨⟨rfl, hm3⟩, ⟨rfl, hm7⟩⟩, ⟨⟨rfl, hm4⟩, ⟨rfl, hm6⟩⟩⟩⟩⟩ (by show 15 * (n + 1) < 1000000; omega))
theorem trace_discriminant_ok (st : S) {n : Nat} (hn : n ≤ 21000) (n4 : 8 ≤ n) {m0 m1 m2 m3 m4 m5 m6 m7 m8 : Int} (hm0 : Bz n m0) (hm1 : Bz n m1) (hm2 : Bz n m2) (hm3 : Bz n m3) (hm4 : Bz n m4) (hm5 : Bz n m5) (hm6 : Bz n m6) (hm7 : Bz n m7) (hm8 : Bz n m8) {C : PD} (hM : m_trace_table [C] st = .ok (.tuple [.tuple [.int m0, .int m1, .int m2], .tuple [.int m3, .int m4, .int m5], .tuple [.int m6, .int m7, .int m8]]) st) : m_trace_discriminant [C] st = .ok (.int (det m0 m1 m2 m3 m4 m5 m6 m7 m8)) st := by
  refine runFn_of (o := .rt (.int (det m0 m1 m2 m3 m4 m5 m6 m7 m8))) rfl ?_
  unfold g_trace_discriminant
  refine (seq_nx (st' := st) (env' := [some (.v (C)), some (.v (.int m0)), some (.v (.int m1)), some (.v (.int m2)), some (.v (.int m3)), some (.v (.int m4)), some (.v (.int m5)), some (.v (.int m6)), some (.v (.int m7)), some (.v (.int m8))]) ?_).trans ?_
  · exact (asg_ok (call_of rfl rfl hM) rfl)
  exact ret_ok (ae_run (.add (.sub (.mul (.at (eV 1) m0) (.sub (.mul (.at (eV 5) m4) (.at (eV 9) m8)) (.mul (.at (eV 6) m5) (.at (eV 8) m7)))) (.mul (.at (eV 2) m1) (.sub (.mul (.at (eV 4) m3) (.at (eV 9) m8)) (.mul (.at (eV 6) m5) (.at (eV 7) m6))))) (.mul (.at (eV 3) m2) (.sub (.mul (.at (eV 4) m3) (.at (eV 8) m7)) (.mul (.at (eV 5) m4) (.at (eV 7) m6))))) (n := n) ⟨⟨⟨⟨rfl, hm0⟩, ⟨⟨⟨rfl, hm4⟩, ⟨rfl, hm8⟩⟩, ⟨⟨rfl, hm5⟩, ⟨rfl, hm7⟩⟩⟩⟩, ⟨⟨rfl, hm1⟩, ⟨⟨⟨rfl, hm3⟩, ⟨rfl, hm8⟩⟩, ⟨⟨rfl, hm5⟩, ⟨rfl, hm6⟩⟩⟩⟩⟩, ⟨⟨rfl, hm2⟩, ⟨⟨⟨rfl, hm3⟩, ⟨rfl, hm7⟩⟩, ⟨⟨rfl, hm4⟩, ⟨rfl, hm6⟩⟩⟩⟩⟩ (by show 15 * (n + 1) < 1000000; omega))
theorem index_of_ok (st : S) {n : Nat} (hn : n ≤ 21000) (n4 : 8 ≤ n) {p q r x y z : Int} (hp : Bz n p) (hq : Bz n q) (hr : Bz n r) (hx : Bz n x) (hy : Bz n y) (hz : Bz n z) {C : PD} (hP : m_cubic_product [C, .tuple [.int p, .int q, .int r], .tuple [.int p, .int q, .int r]] st = .ok (.tuple [.int x, .int y, .int z]) st) : m_index_of [C, .tuple [.int p, .int q, .int r]] st = .ok (.int (q * z - r * y)) st := by
  refine runFn_of (o := .rt (.int (q * z - r * y))) rfl ?_
  unfold g_index_of
  refine (seq_nx (st' := st) (env' := [some (.v (C)), some (.v (.tuple [.int p, .int q, .int r])), some (.v (.tuple [.int x, .int y, .int z]))]) ?_).trans ?_
  · exact (set_ok (call_of rfl rfl hP))
  exact ret_ok (ae_run (.sub (.mul (.at (e2 opIx (eV 1) (eC (.int 1))) q) (.at (e2 opIx (eV 2) (eC (.int 2))) z)) (.mul (.at (e2 opIx (eV 1) (eC (.int 2))) r) (.at (e2 opIx (eV 2) (eC (.int 1))) y))) (n := n) ⟨⟨⟨rfl, hq⟩, ⟨rfl, hz⟩⟩, ⟨⟨rfl, hr⟩, ⟨rfl, hy⟩⟩⟩ (by show 4 * (n + 1) < 1000000; omega))
end DL
namespace DL
open PySem PySem.Spec PyProof.Rows L2 LW
theorem compGo_cons {env env2 : Env} {tg : PD → Env → Option Env} {tf : Env → M Bool} {ef : Env → M PD} {d y : PD} {ds ys : List PD} {s s1 s2 s3 : S} (h1 : tg d env = some env2) (h2 : tf env2 s = .ok true s1) (h3 : ef env2 s1 = .ok y s2) (h4 : isD y = true) (h5 : compGo env tg tf ef ds s2 = .ok ys s3) :
    compGo env tg tf ef (d :: ds) s = .ok (y :: ys) s3 := by
  unfold compGo
  rw [h1]
  show ((tf env2 s).noex.bind _) = _
  rw [h2]
  show ((ef env2 s1).noex.bind _) = _
  rw [h3]
  show (if isD y = true then _ else _) = _
  rw [if_pos h4, h5]
abbrev Tri := Int × Int × Int
abbrev Cub := Int × Int × Int × Int
abbrev tT (t : Tri) : PD := .tuple [.int t.1, .int t.2.1, .int t.2.2]
abbrev cT (c : Cub) : PD := .tuple [.int c.1, .int c.2.1, .int c.2.2.1, .int c.2.2.2]
def B3 (n : Nat) (t : Tri) : Prop := Bz n t.1 ∧ Bz n t.2.1 ∧ Bz n t.2.2
def B4 (n : Nat) (c : Cub) : Prop := Bz n c.1 ∧ Bz n c.2.1 ∧ Bz n c.2.2.1 ∧ Bz n c.2.2.2
theorem B3.mono {n m : Nat} {t : Tri} (h : B3 n t) (l : n ≤ m) : B3 m t := ⟨h.1.mono l, h.2.1.mono l, h.2.2.mono l⟩
theorem B4.mono {n m : Nat} {t : Cub} (h : B4 n t) (l : n ≤ m) : B4 m t := ⟨h.1.mono l, h.2.1.mono l, h.2.2.1.mono l, h.2.2.2.mono l⟩
theorem lv_le {a b m : Nat} (h : a = m) (h2 : decide (m ≤ b) = true := by rfl) : a ≤ b := by rw [h]; exact of_decide_eq_true h2
def prod (C : Cub) (u v : Tri) : Tri := (pa C.1 C.2.1 C.2.2.1 C.2.2.2 u.1 u.2.1 u.2.2 v.1 v.2.1 v.2.2, pb C.1 C.2.1 C.2.2.1 C.2.2.2 u.1 u.2.1 u.2.2 v.1 v.2.1 v.2.2, pc C.1 C.2.1 C.2.2.1 C.2.2.2 u.1 u.2.1 u.2.2 v.1 v.2.1 v.2.2)
abbrev lf (z : Int) : AE := .at (eV 0) z
theorem prod_bz {n : Nat} {C : Cub} {u v : Tri} (hC : B4 n C) (hu : B3 n u) (hv : B3 n v) : B3 (16 * (n + 1)) (prod C u v) := by
  obtain ⟨a, b, c, d⟩ := C
  obtain ⟨p, q, r⟩ := u
  obtain ⟨x, y, z⟩ := v
  obtain ⟨ha, hb, hc, hd⟩ := hC
  obtain ⟨hp, hq, hr⟩ := hu
  obtain ⟨hx, hy, hz⟩ := hv
  refine ⟨?_, ?_, ?_⟩
  · exact Bz.mono (bz_tree (.sub (.sub (.sub (.mul (lf p) (lf x)) (.mul (.mul (lf a) (lf c)) (.mul (lf q) (lf y)))) (.mul (.mul (lf a) (lf d)) (.add (.mul (lf q) (lf z)) (.mul (lf r) (lf y))))) (.mul (.mul (lf b) (lf d)) (.mul (lf r) (lf z)))) ⟨⟨⟨⟨hp, hx⟩, ⟨ha, hc⟩, hq, hy⟩, ⟨ha, hd⟩, ⟨hq, hz⟩, hr, hy⟩, ⟨hb, hd⟩, hr, hz⟩) (Nat.mul_le_mul_right _ (lv_le (m := 16) rfl))
  · exact Bz.mono (bz_tree (.sub (.sub (.add (.mul (lf p) (lf y)) (.mul (lf q) (lf x))) (.mul (lf b) (.mul (lf q) (lf y)))) (.mul (lf d) (.mul (lf r) (lf z)))) ⟨⟨⟨⟨hp, hy⟩, hq, hx⟩, hb, hq, hy⟩, hd, hr, hz⟩) (Nat.mul_le_mul_right _ (lv_le (m := 10) rfl))
  · exact Bz.mono (bz_tree (.add (.add (.add (.mul (lf p) (lf z)) (.mul (lf r) (lf x))) (.mul (lf a) (.mul (lf q) (lf y)))) (.mul (lf c) (.mul (lf r) (lf z)))) ⟨⟨⟨⟨hp, hz⟩, hr, hx⟩, ha, hq, hy⟩, hc, hr, hz⟩) (Nat.mul_le_mul_right _ (lv_le (m := 10) rfl))
theorem prod_ok (st : S) {n : Nat} (hn : n ≤ 4000) (n8 : 8 ≤ n) {C : Cub} {u v : Tri} (hC : B4 n C) (hu : B3 n u) (hv : B3 n v) : m_cubic_product [cT C, tT u, tT v] st = .ok (tT (prod C u v)) st := by
  obtain ⟨a, b, c, d⟩ := C
  obtain ⟨p, q, r⟩ := u
  obtain ⟨x, y, z⟩ := v
  obtain ⟨ha, hb, hc, hd⟩ := hC
  obtain ⟨hp, hq, hr⟩ := hu
  obtain ⟨hx, hy, hz⟩ := hv
  have l : n ≤ 4 * (n + 1) := by omega
  exact cubic_product_ok st (n := 4 * (n + 1)) (by omega) (by omega) (ha.mono l) (hb.mono l) (hc.mono l) (hd.mono l) (hp.mono l) (hq.mono l) (hr.mono l) (hx.mono l) (hy.mono l) (hz.mono l)
    (Bz.mono (bz_tree (.mul (lf q) (lf y)) ⟨hq, hy⟩) (Nat.mul_le_mul_right _ (lv_le (m := 2) rfl))) (bz_tree (.add (.mul (lf q) (lf z)) (.mul (lf r) (lf y))) ⟨⟨hq, hz⟩, hr, hy⟩) (Bz.mono (bz_tree (.mul (lf r) (lf z)) ⟨hr, hz⟩) (Nat.mul_le_mul_right _ (lv_le (m := 2) rfl)))
abbrev u1 : Tri := (1, 0, 0)
abbrev u2 : Tri := (0, 1, 0)
abbrev u3 : Tri := (0, 0, 1)
theorem bz1 {n : Nat} (h : 8 ≤ n) : Bz n 0 ∧ Bz n 1 := ⟨bz_c (n4 := h) _ (by decide), bz_c (n4 := h) _ (by decide)⟩
theorem be1 {n : Nat} (h : 8 ≤ n) : B3 n u1 := ⟨(bz1 h).2, (bz1 h).1, (bz1 h).1⟩
theorem be2 {n : Nat} (h : 8 ≤ n) : B3 n u2 := ⟨(bz1 h).1, (bz1 h).2, (bz1 h).1⟩
theorem be3 {n : Nat} (h : 8 ≤ n) : B3 n u3 := ⟨(bz1 h).1, (bz1 h).1, (bz1 h).2⟩
abbrev matD (C : Cub) (u : Tri) : PD := .tuple [tT (prod C u u1), tT (prod C u u2), tT (prod C u u3)]
theorem mat_ok (st : S) {n : Nat} (hn : n ≤ 4000) (n8 : 8 ≤ n) {C : Cub} {u : Tri} (hC : B4 n C) (hu : B3 n u) : m_cubic_matrix [cT C, tT u] st = .ok (matD C u) st := by
  have p1 := prod_ok st hn n8 hC hu (be1 n8)
  have p2 := prod_ok st hn n8 hC hu (be2 n8)
  have p3 := prod_ok st hn n8 hC hu (be3 n8)
  refine runFn_of (o := .rt (matD C u)) rfl ?_
  unfold g_cubic_matrix
  have cc : compGo [some (.v (cT C)), some (.v (tT u)), none] (tgN 2) tYesF (callF 3 m_cubic_product (aCons (eV 0) (aCons (eV 1) (aCons (eV 2) aNil)))) [tT u1, tT u2, tT u3] st = .ok [tT (prod C u u1), tT (prod C u u2), tT (prod C u u3)] st :=
    compGo_cons rfl rfl (call_of rfl rfl p1) rfl (compGo_cons rfl rfl (call_of rfl rfl p2) rfl (compGo_cons rfl rfl (call_of rfl rfl p3) rfl rfl))
  have ce := eL_of (nComp_of (itf := iAny (eTup (aCons (eTup (aCons (eC (.int 1)) (aCons (eC (.int 0)) (aCons (eC (.int 0)) aNil)))) (aCons (eTup (aCons (eC (.int 0)) (aCons (eC (.int 1)) (aCons (eC (.int 0)) aNil)))) (aCons (eTup (aCons (eC (.int 0)) (aCons (eC (.int 0)) (aCons (eC (.int 1)) aNil)))) aNil))))) (vs := [2]) (env := [some (.v (cT C)), some (.v (tT u)), none]) (st := st) (st' := st) (ds := [tT u1, tT u2, tT u3]) rfl (by decide) cc)
  refine ret_ok ?_
  rw [eB_ap, aCons_ap, show startE 3 [cT C, tT u] = [some (.v (cT C)), some (.v (tT u)), none] from rfl, ce]
  rfl
def tr (C : Cub) (u : Tri) : Int := (prod C u u1).1 + (prod C u u2).2.1 + (prod C u u3).2.2
def nm (C : Cub) (u : Tri) : Int := det (prod C u u1).1 (prod C u u1).2.1 (prod C u u1).2.2 (prod C u u2).1 (prod C u u2).2.1 (prod C u u2).2.2 (prod C u u3).1 (prod C u u3).2.1 (prod C u u3).2.2
def sd (C : Cub) (u : Tri) : Int := sec (prod C u u1).1 (prod C u u1).2.1 (prod C u u1).2.2 (prod C u u2).1 (prod C u u2).2.1 (prod C u u2).2.2 (prod C u u3).1 (prod C u u3).2.1 (prod C u u3).2.2
section
variable (st : S) {n : Nat} (hn : n ≤ 1000) (n8 : 8 ≤ n) {C : Cub} {u : Tri} (hC : B4 n C) (hu : B3 n u)
include hn n8 hC hu
theorem tr_ok : m_cubic_trace [cT C, tT u] st = .ok (.int (tr C u)) st := by
  obtain ⟨a1, a2, a3⟩ := prod_bz hC hu (be1 n8)
  obtain ⟨b1, b2, b3⟩ := prod_bz hC hu (be2 n8)
  obtain ⟨c1, c2, c3⟩ := prod_bz hC hu (be3 n8)
  exact cubic_trace_ok st (n := 16 * (n + 1)) (by omega) (by omega) a1 a2 a3 b1 b2 b3 c1 c2 c3 (mat_ok st (by omega) n8 hC hu)
theorem nm_ok : m_cubic_norm [cT C, tT u] st = .ok (.int (nm C u)) st := by
  obtain ⟨a1, a2, a3⟩ := prod_bz hC hu (be1 n8)
  obtain ⟨b1, b2, b3⟩ := prod_bz hC hu (be2 n8)
  obtain ⟨c1, c2, c3⟩ := prod_bz hC hu (be3 n8)
  exact cubic_norm_ok st (n := 16 * (n + 1)) (by omega) (by omega) a1 a2 a3 b1 b2 b3 c1 c2 c3 (mat_ok st (by omega) n8 hC hu)
theorem sd_ok : m_cubic_second [cT C, tT u] st = .ok (.int (sd C u)) st := by
  obtain ⟨a1, a2, a3⟩ := prod_bz hC hu (be1 n8)
  obtain ⟨b1, b2, b3⟩ := prod_bz hC hu (be2 n8)
  obtain ⟨c1, c2, c3⟩ := prod_bz hC hu (be3 n8)
  exact cubic_second_ok st (n := 16 * (n + 1)) (by omega) (by omega) a1 a2 a3 b1 b2 b3 c1 c2 c3 (mat_ok st (by omega) n8 hC hu)
theorem ix_ok : m_index_of [cT C, tT u] st = .ok (.int (u.2.1 * (prod C u u).2.2 - u.2.2 * (prod C u u).2.1)) st := by
  obtain ⟨a1, a2, a3⟩ := prod_bz hC hu hu
  have l : n ≤ 16 * (n + 1) := by omega
  exact index_of_ok st (n := 16 * (n + 1)) (by omega) (by omega) (hu.1.mono l) (hu.2.1.mono l) (hu.2.2.mono l) a1 a2 a3 (prod_ok st (by omega) n8 hC hu hu)
end
/-! identities -/
theorem prod_comm (C : Cub) (u v : Tri) : prod C u v = prod C v u := by
  simp only [prod, pa, pb, pc, Prod.mk.injEq]
  refine ⟨?_, ?_, ?_⟩ <;> grind
theorem prod_assoc (C : Cub) (u v w : Tri) : prod C (prod C u v) w = prod C u (prod C v w) := by
  simp only [prod, pa, pb, pc, Prod.mk.injEq]
  refine ⟨?_, ?_, ?_⟩ <;> grind
def add3 (u v : Tri) : Tri := (u.1 + v.1, u.2.1 + v.2.1, u.2.2 + v.2.2)
theorem prod_add (C : Cub) (u v w : Tri) : prod C (add3 u v) w = add3 (prod C u w) (prod C v w) := by
  simp only [prod, pa, pb, pc, add3, Prod.mk.injEq]
  refine ⟨?_, ?_, ?_⟩ <;> grind
theorem tr_add (C : Cub) (u v : Tri) : tr C (add3 u v) = tr C u + tr C v := by
  simp only [tr, prod, pa, pb, pc, add3]
  grind
theorem ix_cv (C : Cub) (u : Tri) : u.2.1 * (prod C u u).2.2 - u.2.2 * (prod C u u).2.1 = cv C.1 C.2.1 C.2.2.1 C.2.2.2 u.2.1 u.2.2 := by
  simp only [prod, pb, pc, cv]
  grind
theorem ham (C : Cub) (u : Tri) : (prod C (prod C u u) u).1 - tr C u * (prod C u u).1 + sd C u * u.1 = nm C u ∧ (prod C (prod C u u) u).2.1 - tr C u * (prod C u u).2.1 + sd C u * u.2.1 = 0 ∧ (prod C (prod C u u) u).2.2 - tr C u * (prod C u u).2.2 + sd C u * u.2.2 = 0 := by
  simp only [prod, pa, pb, pc, tr, sd, sec, nm, det]
  refine ⟨?_, ?_, ?_⟩ <;> grind
end DL
namespace DL
open PySem PySem.Spec PyProof.Rows L2 LW
theorem det_mul (a b c d e f g h i a' b' c' d' e' f' g' h' i' : Int) : det (a * a' + b * d' + c * g') (a * b' + b * e' + c * h') (a * c' + b * f' + c * i') (d * a' + e * d' + f * g') (d * b' + e * e' + f * h') (d * c' + e * f' + f * i') (g * a' + h * d' + i * g') (g * b' + h * e' + i * h') (g * c' + h * f' + i * i') =
    det a b c d e f g h i * det a' b' c' d' e' f' g' h' i' := by
  simp only [det]
  grind
def lin (t x y z : Tri) : Tri := (t.1 * x.1 + t.2.1 * y.1 + t.2.2 * z.1, t.1 * x.2.1 + t.2.1 * y.2.1 + t.2.2 * z.2.1, t.1 * x.2.2 + t.2.1 * y.2.2 + t.2.2 * z.2.2)
theorem prod_lin (C : Cub) (u t : Tri) : prod C u t = lin t (prod C u u1) (prod C u u2) (prod C u u3) := by
  simp only [prod, pa, pb, pc, lin, Prod.mk.injEq]
  refine ⟨?_, ?_, ?_⟩ <;> grind
theorem nm_mul (C : Cub) (u v : Tri) : nm C (prod C u v) = nm C u * nm C v := by
  unfold nm
  rw [prod_assoc C u v u1, prod_assoc C u v u2, prod_assoc C u v u3, prod_lin C u (prod C v u1), prod_lin C u (prod C v u2), prod_lin C u (prod C v u3)]
  generalize prod C u u1 = x
  generalize prod C u u2 = y
  generalize prod C u u3 = z
  generalize prod C v u1 = x'
  generalize prod C v u2 = y'
  generalize prod C v u3 = z'
  simp only [lin]
  rw [det_mul]
  exact Int.mul_comm _ _
def tt (C : Cub) (i j : Tri) : Int := tr C (prod C i j)
theorem disc (C : Cub) : det (tt C u1 u1) (tt C u1 u2) (tt C u1 u3) (tt C u2 u1) (tt C u2 u2) (tt C u2 u3) (tt C u3 u1) (tt C u3 u2) (tt C u3 u3) = cs C.1 C.2.1 C.2.2.1 C.2.2.2 := by
  simp only [tt, tr, prod, pa, pb, pc, det, cs]
  grind
abbrev tabD (C : Cub) : PD := .tuple [.tuple [.int (tt C u1 u1), .int (tt C u1 u2), .int (tt C u1 u3)], .tuple [.int (tt C u2 u1), .int (tt C u2 u2), .int (tt C u2 u3)], .tuple [.int (tt C u3 u1), .int (tt C u3 u2), .int (tt C u3 u3)]]
theorem tt_ok (st : S) {n : Nat} (hn : n ≤ 50) (n8 : 8 ≤ n) {C : Cub} (hC : B4 n C) {i j : Tri} (hi : B3 n i) (hj : B3 n j) : m_cubic_trace [cT C, tT (prod C i j)] st = .ok (.int (tt C i j)) st :=
  tr_ok st (n := 16 * (n + 1)) (by omega) (by omega) (hC.mono (by omega)) (prod_bz hC hi hj)
theorem tab_ok (st : S) {n : Nat} (hn : n ≤ 50) (n8 : 8 ≤ n) {C : Cub} (hC : B4 n C) : m_trace_table [cT C] st = .ok (tabD C) st := by
  refine runFn_of (o := .rt (tabD C)) rfl ?_
  unfold g_trace_table
  refine (seq_nx (st' := st) (env' := [some (.v (cT C)), some (.v (.tuple [tT u1, tT u2, tT u3])), none, none]) (by exact set_ok rfl)).trans ?_
  have inner : ∀ (i : Tri), B3 n i → eB opTuple (aCons (eL (nComp (iAny (eV 1)) (tgN 2) tYesF (callF 2 m_cubic_trace (aCons (eV 0) (aCons (callF 3 m_cubic_product (aCons (eV 0) (aCons (eV 3) (aCons (eV 2) aNil)))) aNil))) [2])) aNil) [some (.v (cT C)), some (.v (.tuple [tT u1, tT u2, tT u3])), none, some (.v (tT i))] st = .ok (.tuple [.int (tt C i u1), .int (tt C i u2), .int (tt C i u3)]) st := by
    intro i hi
    have one : ∀ j : Tri, B3 n j → callF 2 m_cubic_trace (aCons (eV 0) (aCons (callF 3 m_cubic_product (aCons (eV 0) (aCons (eV 3) (aCons (eV 2) aNil)))) aNil)) [some (.v (cT C)), some (.v (.tuple [tT u1, tT u2, tT u3])), some (.v (tT j)), some (.v (tT i))] st = .ok (.int (tt C i j)) st := fun j hj =>
      call_of (args2 rfl (call_of rfl rfl (prod_ok st (by omega) n8 hC hi hj))) rfl (tt_ok st hn n8 hC hi hj)
    have cc : compGo [some (.v (cT C)), some (.v (.tuple [tT u1, tT u2, tT u3])), none, some (.v (tT i))] (tgN 2) tYesF (callF 2 m_cubic_trace (aCons (eV 0) (aCons (callF 3 m_cubic_product (aCons (eV 0) (aCons (eV 3) (aCons (eV 2) aNil)))) aNil))) [tT u1, tT u2, tT u3] st = .ok [.int (tt C i u1), .int (tt C i u2), .int (tt C i u3)] st :=
      compGo_cons rfl rfl (one u1 (be1 n8)) rfl (compGo_cons rfl rfl (one u2 (be2 n8)) rfl (compGo_cons rfl rfl (one u3 (be3 n8)) rfl rfl))
    have ce := eL_of (nComp_of (itf := iAny (eV 1)) (vs := [2]) (env := [some (.v (cT C)), some (.v (.tuple [tT u1, tT u2, tT u3])), none, some (.v (tT i))]) (st := st) (st' := st) (ds := [tT u1, tT u2, tT u3]) rfl (by decide) cc)
    rw [eB_ap, aCons_ap, ce]
    rfl
  have cc : compGo [some (.v (cT C)), some (.v (.tuple [tT u1, tT u2, tT u3])), none, none] (tgN 3) tYesF (eB opTuple (aCons (eL (nComp (iAny (eV 1)) (tgN 2) tYesF (callF 2 m_cubic_trace (aCons (eV 0) (aCons (callF 3 m_cubic_product (aCons (eV 0) (aCons (eV 3) (aCons (eV 2) aNil)))) aNil))) [2])) aNil)) [tT u1, tT u2, tT u3] st = .ok [.tuple [.int (tt C u1 u1), .int (tt C u1 u2), .int (tt C u1 u3)], .tuple [.int (tt C u2 u1), .int (tt C u2 u2), .int (tt C u2 u3)], .tuple [.int (tt C u3 u1), .int (tt C u3 u2), .int (tt C u3 u3)]] st :=
    compGo_cons rfl rfl (inner u1 (be1 n8)) rfl (compGo_cons rfl rfl (inner u2 (be2 n8)) rfl (compGo_cons rfl rfl (inner u3 (be3 n8)) rfl rfl))
  have ce := eL_of (nComp_of (itf := iAny (eV 1)) (vs := [3]) (env := [some (.v (cT C)), some (.v (.tuple [tT u1, tT u2, tT u3])), none, none]) (st := st) (st' := st) (ds := [tT u1, tT u2, tT u3]) rfl (by decide) cc)
  refine ret_ok ?_
  rw [eB_ap, aCons_ap, ce]
  rfl
end DL
namespace DL
open PySem PySem.Spec PyProof.Rows L2 LW
theorem shp_t3 (a b c : Int) : SeqAt.shaped (.tuple [.int a, .int b, .int c]) = true := rfl
theorem opEq_t3 {st : S} (a b c d e f : Int) : opEq st (.tuple [.int a, .int b, .int c]) (.tuple [.int d, .int e, .int f]) = some (.bool (decide (a = d) && (decide (b = e) && decide (c = f)))) := by
  rw [opEq_sh (shp_t3 ..) (shp_t3 ..)]; simp [eqv_tup, eqvAll_cons, eqvAll_nil, eqv_int]
theorem opNe_t3 {st : S} (a b c d e f : Int) : opNe st (.tuple [.int a, .int b, .int c]) (.tuple [.int d, .int e, .int f]) = some (.bool (!(decide (a = d) && (decide (b = e) && decide (c = f))))) := by
  rw [opNe_sh (shp_t3 ..) (shp_t3 ..)]; simp [eqv_tup, eqvAll_cons, eqvAll_nil, eqv_int]
theorem opEq_tT {st : S} (u : Tri) : opEq st (tT u) (tT u) = some (.bool true) := by rw [opEq_t3]; simp
theorem opNe_tT {st : S} (u : Tri) : opNe st (tT u) (tT u) = some (.bool false) := by rw [opNe_t3]; simp
theorem rng3 (s : S) (env : Env) (st : S) : iRng rng1D (aCons (eC (.int 3)) aNil) env st = .ok [.int 0, .int 1, .int 2] st := iRng_of (ds := [.int 3]) rfl (rng1D_nat 3 (by decide))
theorem tr_bz {n : Nat} (n8 : 8 ≤ n) {C : Cub} {u : Tri} (hC : B4 n C) (hu : B3 n u) : Bz (3 * (16 * (n + 1) + 1)) (tr C u) :=
  bz_tree (.add (.add (lf _) (lf _)) (lf _)) ⟨⟨(prod_bz hC hu (be1 n8)).1, (prod_bz hC hu (be2 n8)).2.1⟩, (prod_bz hC hu (be3 n8)).2.2⟩
theorem sd_bz {n : Nat} (n8 : 8 ≤ n) {C : Cub} {u : Tri} (hC : B4 n C) (hu : B3 n u) : Bz (12 * (16 * (n + 1) + 1)) (sd C u) := by
  obtain ⟨a1, a2, a3⟩ := prod_bz hC hu (be1 n8)
  obtain ⟨b1, b2, b3⟩ := prod_bz hC hu (be2 n8)
  obtain ⟨c1, c2, c3⟩ := prod_bz hC hu (be3 n8)
  exact bz_tree (.sub (.add (.sub (.add (.sub (.mul (lf _) (lf _)) (.mul (lf _) (lf _))) (.mul (lf _) (lf _))) (.mul (lf _) (lf _))) (.mul (lf _) (lf _))) (.mul (lf _) (lf _))) ⟨⟨⟨⟨⟨⟨a1, b2⟩, a2, b1⟩, a1, c3⟩, a3, c1⟩, b2, c3⟩, b3, c2⟩
/-- the row of the equation, whatever the slots -/
theorem ham_row {f3 f4 f2 f5 f1 f8 : Env → M PD} {env : Env} {st : S} {N : Nat} (hN : N ≤ 20000) {C : Cub} {u : Tri} {k : Int} {x y z : Int} {t s : Int}
    (hx : e2 opIx f3 f8 env st = .ok (.int x) st) (ht : f4 env st = .ok (.int t) st) (hy : e2 opIx f2 f8 env st = .ok (.int y) st) (hs : f5 env st = .ok (.int s) st) (hz : e2 opIx f1 f8 env st = .ok (.int z) st)
    (bx : Bz N x) (bt : Bz N t) (by' : Bz N y) (bs : Bz N s) (bz : Bz N z) :
    e2 opAdd (e2 opSub (e2 opIx f3 f8) (e2 opMul f4 (e2 opIx f2 f8))) (e2 opMul f5 (e2 opIx f1 f8)) env st = .ok (.int (x - t * y + s * z)) st :=
  ae_run (.add (.sub (.at _ x) (.mul (.at _ t) (.at _ y))) (.mul (.at _ s) (.at _ z))) (n := N) ⟨⟨⟨hx, bx⟩, ⟨ht, bt⟩, hy, by'⟩, ⟨hs, bs⟩, hz, bz⟩ (by show 5 * (N + 1) < 1000000; omega)
theorem fits_ok (st : S) {n : Nat} (hn : n ≤ 50) (n8 : 8 ≤ n) {C : Cub} {u : Tri} (hC : B4 n C) (hu : B3 n u) : m_fits_equation [cT C, tT u] st = .ok (.bool true) st := by
  have hsq := prod_bz hC hu hu
  have l : n ≤ 16 * (n + 1) := by omega
  have hcu := prod_bz (hC.mono l) hsq (hu.mono l)
  have pq := prod_ok st (by omega) n8 hC hu hu
  have pc' := prod_ok st (n := 16 * (n + 1)) (by omega) (by omega) (hC.mono l) hsq (hu.mono l)
  have l3 : 16 * (n + 1) ≤ 20000 := by omega
  have l1 : n ≤ 20000 := by omega
  have l2 : 16 * (16 * (n + 1) + 1) ≤ 20000 := by omega
  have bt := (tr_bz n8 hC hu).mono (show _ ≤ 20000 by omega)
  have bs := (sd_bz n8 hC hu).mono (show _ ≤ 20000 by omega)
  obtain ⟨k1, k2, k3⟩ := ham C u
  refine runFn_of (o := .rt (.bool true)) rfl ?_
  unfold g_fits_equation
  refine (seq_nx (st' := st) (env' := [some (.v (cT C)), some (.v (tT u)), some (.v (tT (prod C u u))), none, none, none, none, none, none]) ?_).trans ?_
  · exact set_ok (call_of rfl rfl pq)
  refine (seq_nx (st' := st) (env' := [some (.v (cT C)), some (.v (tT u)), some (.v (tT (prod C u u))), some (.v (tT (prod C (prod C u u) u))), none, none, none, none, none]) ?_).trans ?_
  · exact set_ok (call_of rfl rfl pc')
  refine (seq_nx (st' := st) (env' := [some (.v (cT C)), some (.v (tT u)), some (.v (tT (prod C u u))), some (.v (tT (prod C (prod C u u) u))), some (.v (.int (tr C u))), some (.v (.int (sd C u))), some (.v (.int (nm C u))), none, none]) ?_).trans ?_
  · exact asg_ok (tup_of (args3 (call_of rfl rfl (tr_ok st (by omega) n8 hC hu)) (call_of rfl rfl (sd_ok st (by omega) n8 hC hu)) (call_of rfl rfl (nm_ok st (by omega) n8 hC hu))) rfl) rfl
  generalize prod C (prod C u u) u = w at *
  generalize prod C u u = v at *
  generalize tr C u = t at *
  generalize sd C u = s at *
  generalize nm C u = m at *
  obtain ⟨w1, w2, w3⟩ := w
  obtain ⟨v1, v2, v3⟩ := v
  obtain ⟨x1, x2, x3⟩ := u
  have cc : compGo [some (.v (cT C)), some (.v (tT (x1, x2, x3))), some (.v (tT (v1, v2, v3))), some (.v (tT (w1, w2, w3))), some (.v (.int t)), some (.v (.int s)), some (.v (.int m)), none, none] (tgN 8) tYesF (e2 opAdd (e2 opSub (e2 opIx (eV 3) (eV 8)) (e2 opMul (eV 4) (e2 opIx (eV 2) (eV 8)))) (e2 opMul (eV 5) (e2 opIx (eV 1) (eV 8)))) [.int 0, .int 1, .int 2] st = .ok [.int (w1 - t * v1 + s * x1), .int (w2 - t * v2 + s * x2), .int (w3 - t * v3 + s * x3)] st := by
    refine compGo_cons rfl rfl (ham_row (N := 20000) (Nat.le_refl _) (C := C) (u := (x1, x2, x3)) (k := 0) rfl rfl rfl rfl rfl (hcu.1.mono l2) bt (hsq.1.mono l3) bs (hu.1.mono l1)) rfl ?_
    refine compGo_cons rfl rfl (ham_row (N := 20000) (Nat.le_refl _) (C := C) (u := (x1, x2, x3)) (k := 0) rfl rfl rfl rfl rfl (hcu.2.1.mono l2) bt (hsq.2.1.mono l3) bs (hu.2.1.mono l1)) rfl ?_
    exact compGo_cons rfl rfl (ham_row (N := 20000) (Nat.le_refl _) (C := C) (u := (x1, x2, x3)) (k := 0) rfl rfl rfl rfl rfl (hcu.2.2.mono l2) bt (hsq.2.2.mono l3) bs (hu.2.2.mono l1)) rfl rfl
  dsimp only at k1 k2 k3
  rw [k1, k2, k3] at cc
  have ce := eL_of (nComp_of (itf := iRng rng1D (aCons (eC (.int 3)) aNil)) (vs := [8]) (env := [some (.v (cT C)), some (.v (tT (x1, x2, x3))), some (.v (tT (v1, v2, v3))), some (.v (tT (w1, w2, w3))), some (.v (.int t)), some (.v (.int s)), some (.v (.int m)), none, none]) (st := st) (st' := st) (ds := [.int 0, .int 1, .int 2]) (rng3 st _ st) (by decide) cc)
  refine (seq_nx (st' := st) (env' := [some (.v (cT C)), some (.v (tT (x1, x2, x3))), some (.v (tT (v1, v2, v3))), some (.v (tT (w1, w2, w3))), some (.v (.int t)), some (.v (.int s)), some (.v (.int m)), some (.v (tT (m, 0, 0))), none]) ?_).trans ?_
  · refine set_ok ?_
    rw [eB_ap, aCons_ap, ce]
    rfl
  refine ret_ok ?_
  have : opEq st (.tuple [.int m, .int 0, .int 0]) (.tuple [.int m, .int 0, .int 0]) = some (.bool true) := opEq_tT (m, 0, 0)
  simp [this]
/-! the law's own product -/
theorem lpr_step (st : S) {N : Nat} (hN : N ≤ 100000) (C : List (Option Sl)) (hl : C.length = 16) {f0 f1 f2 m r0 r1 r2 : Int} (a : Option Sl) (b0 : Bz N f0) (b1 : Bz N f1) (b2 : Bz N f2) (bm : Bz N m) (c0 : Bz N r0) (c1 : Bz N r1) (c2 : Bz N r2) :
    b__law_product_0 (C ++ [some (.v (.list [.int f0, .int f1, .int f2])), some (.v (.int m)), some (.v (.tuple [.int r0, .int r1, .int r2])), a]) st = .ok (.nx (C ++ [some (.v (.list [.int (f0 + m * r0), .int (f1 + m * r1), .int (f2 + m * r2)])), some (.v (.int m)), some (.v (.tuple [.int r0, .int r1, .int r2])), a])) st := by
  match C, hl with
  | [x0, x1, x2, x3, x4, x5, x6, x7, x8, x9, x10, x11, x12, x13, x14, x15], _ =>
    unfold b__law_product_0
    have row : ∀ (i x r : Int), e2 opIx (eV 16) (eV 19) [x0, x1, x2, x3, x4, x5, x6, x7, x8, x9, x10, x11, x12, x13, x14, x15, some (.v (.list [.int f0, .int f1, .int f2])), some (.v (.int m)), some (.v (.tuple [.int r0, .int r1, .int r2])), some (.v (.int i))] st = .ok (.int x) st → e2 opIx (eV 18) (eV 19) [x0, x1, x2, x3, x4, x5, x6, x7, x8, x9, x10, x11, x12, x13, x14, x15, some (.v (.list [.int f0, .int f1, .int f2])), some (.v (.int m)), some (.v (.tuple [.int r0, .int r1, .int r2])), some (.v (.int i))] st = .ok (.int r) st → Bz N x → Bz N r →
        e2 opAdd (e2 opIx (eV 16) (eV 19)) (e2 opMul (eV 17) (e2 opIx (eV 18) (eV 19))) [x0, x1, x2, x3, x4, x5, x6, x7, x8, x9, x10, x11, x12, x13, x14, x15, some (.v (.list [.int f0, .int f1, .int f2])), some (.v (.int m)), some (.v (.tuple [.int r0, .int r1, .int r2])), some (.v (.int i))] st = .ok (.int (x + m * r)) st :=
      fun i x r hx hr bx br => ae_run (.add (.at _ x) (.mul (.at _ m) (.at _ r))) (n := N) ⟨⟨hx, bx⟩, ⟨rfl, bm⟩, hr, br⟩ (by show 3 * (N + 1) < 1000000; omega)
    have cc : compGo [x0, x1, x2, x3, x4, x5, x6, x7, x8, x9, x10, x11, x12, x13, x14, x15, some (.v (.list [.int f0, .int f1, .int f2])), some (.v (.int m)), some (.v (.tuple [.int r0, .int r1, .int r2])), none] (tgN 19) tYesF (e2 opAdd (e2 opIx (eV 16) (eV 19)) (e2 opMul (eV 17) (e2 opIx (eV 18) (eV 19)))) [.int 0, .int 1, .int 2] st = .ok [.int (f0 + m * r0), .int (f1 + m * r1), .int (f2 + m * r2)] st :=
      compGo_cons rfl rfl (row 0 f0 r0 rfl rfl b0 c0) rfl (compGo_cons rfl rfl (row 1 f1 r1 rfl rfl b1 c1) rfl (compGo_cons rfl rfl (row 2 f2 r2 rfl rfl b2 c2) rfl rfl))
    have ce := eL_of (nComp_of (itf := iRng rng1D (aCons (eC (.int 3)) aNil)) (vs := [19]) (env := [x0, x1, x2, x3, x4, x5, x6, x7, x8, x9, x10, x11, x12, x13, x14, x15, some (.v (.list [.int f0, .int f1, .int f2])), some (.v (.int m)), some (.v (.tuple [.int r0, .int r1, .int r2])), a]) (st := st) (st' := st) (ds := [.int 0, .int 1, .int 2]) (rng3 st _ st) (by decide) cc)
    exact set_ok ce
theorem lst_of {f : Env → M (List PD)} {env : Env} {st : S} {ds : List PD} (h : f env st = .ok ds st) (hd : (ds.all isD && decide (ds.length ≤ 10000)) = true) : nLst f env st = .ok ds st := by
  rw [nLst_ap, h, nLa_ok hd]
theorem iAny_of {f : Env → M PD} {env : Env} {st : S} {d : PD} {ds : List PD} (h : f env st = .ok d st) (hd : itemsD d = some ds) : iAny f env st = .ok ds st := by
  rw [iAny_ap, h, iAa_ok, hd]; rfl
theorem bz3 {N : Nat} {f m r : Int} (hf : Bz N f) (hm : Bz N m) (hr : Bz N r) : Bz (3 * (N + 1)) (f + m * r) := bz_tree (.add (lf f) (.mul (lf m) (lf r))) ⟨hf, hm, hr⟩
theorem lpr_ok (st : S) {n : Nat} (hn : n ≤ 500) (n8 : 8 ≤ n) {C : Cub} {u v : Tri} (hC : B4 n C) (hu : B3 n u) (hv : B3 n v) : m__law_product [cT C, tT u, tT v] st = .ok (tT (prod C u v)) st := by
  rw [m__law_product_eq]
  refine runFn_of (o := .rt (tT (prod C u v))) rfl ?_
  unfold h__law_product
  have hres : tT (prod C u v) = tT (prod C u v) := rfl
  obtain ⟨a, b, c, d⟩ := C
  obtain ⟨p, q, r⟩ := u
  obtain ⟨x, y, z⟩ := v
  obtain ⟨ha, hb, hc, hd⟩ := hC
  obtain ⟨hp, hq, hr⟩ := hu
  obtain ⟨hx, hy, hz⟩ := hv
  dsimp only at ha hb hc hd hp hq hr hx hy hz
  have z0 : Bz n 0 := (bz1 n8).1
  refine (seq_nx (st' := st) (env' := [some (.v (cT (a, b, c, d))), some (.v (tT (p, q, r))), some (.v (tT (x, y, z))), some (.v (.int a)), some (.v (.int b)), some (.v (.int c)), some (.v (.int d)), none, none, none, none, none, none, none, none, none, none, none, none, none]) ?_).trans ?_
  · exact asg_ok rfl rfl
  refine (seq_nx (st' := st) (env' := [some (.v (cT (a, b, c, d))), some (.v (tT (p, q, r))), some (.v (tT (x, y, z))), some (.v (.int a)), some (.v (.int b)), some (.v (.int c)), some (.v (.int d)), some (.v (.int p)), some (.v (.int q)), some (.v (.int r)), none, none, none, none, none, none, none, none, none, none]) ?_).trans ?_
  · exact asg_ok rfl rfl
  refine (seq_nx (st' := st) (env' := [some (.v (cT (a, b, c, d))), some (.v (tT (p, q, r))), some (.v (tT (x, y, z))), some (.v (.int a)), some (.v (.int b)), some (.v (.int c)), some (.v (.int d)), some (.v (.int p)), some (.v (.int q)), some (.v (.int r)), some (.v (.int x)), some (.v (.int y)), some (.v (.int z)), none, none, none, none, none, none, none]) ?_).trans ?_
  · exact asg_ok rfl rfl
  refine (seq_nx (st' := st) (env' := [some (.v (cT (a, b, c, d))), some (.v (tT (p, q, r))), some (.v (tT (x, y, z))), some (.v (.int a)), some (.v (.int b)), some (.v (.int c)), some (.v (.int d)), some (.v (.int p)), some (.v (.int q)), some (.v (.int r)), some (.v (.int x)), some (.v (.int y)), some (.v (.int z)), some (.v (.tuple [.int (0 - a * c), .int (0 - b), .int a])), none, none, none, none, none, none]) ?_).trans ?_
  · exact set_ok (tup_of (args3 (ae_run (.sub (.at (eC (.int 0)) 0) (.mul (.at (eV 3) a) (.at (eV 5) c))) (n := n) ⟨⟨rfl, z0⟩, ⟨rfl, ha⟩, rfl, hc⟩ (by show 3 * (n + 1) < 1000000; omega)) (ae_run (.sub (.at (eC (.int 0)) 0) (.at (eV 4) b)) (n := n) ⟨⟨rfl, z0⟩, rfl, hb⟩ (by show 2 * (n + 1) < 1000000; omega)) rfl) rfl)
  refine (seq_nx (st' := st) (env' := [some (.v (cT (a, b, c, d))), some (.v (tT (p, q, r))), some (.v (tT (x, y, z))), some (.v (.int a)), some (.v (.int b)), some (.v (.int c)), some (.v (.int d)), some (.v (.int p)), some (.v (.int q)), some (.v (.int r)), some (.v (.int x)), some (.v (.int y)), some (.v (.int z)), some (.v (.tuple [.int (0 - a * c), .int (0 - b), .int a])), some (.v (.tuple [.int (0 - a * d), .int 0, .int 0])), none, none, none, none, none]) ?_).trans ?_
  · exact set_ok (tup_of (args3 (ae_run (.sub (.at (eC (.int 0)) 0) (.mul (.at (eV 3) a) (.at (eV 6) d))) (n := n) ⟨⟨rfl, z0⟩, ⟨rfl, ha⟩, rfl, hd⟩ (by show 3 * (n + 1) < 1000000; omega)) rfl rfl) rfl)
  refine (seq_nx (st' := st) (env' := [some (.v (cT (a, b, c, d))), some (.v (tT (p, q, r))), some (.v (tT (x, y, z))), some (.v (.int a)), some (.v (.int b)), some (.v (.int c)), some (.v (.int d)), some (.v (.int p)), some (.v (.int q)), some (.v (.int r)), some (.v (.int x)), some (.v (.int y)), some (.v (.int z)), some (.v (.tuple [.int (0 - a * c), .int (0 - b), .int a])), some (.v (.tuple [.int (0 - a * d), .int 0, .int 0])), some (.v (.tuple [.int (0 - b * d), .int (0 - d), .int c])), none, none, none, none]) ?_).trans ?_
  · exact set_ok (tup_of (args3 (ae_run (.sub (.at (eC (.int 0)) 0) (.mul (.at (eV 4) b) (.at (eV 6) d))) (n := n) ⟨⟨rfl, z0⟩, ⟨rfl, hb⟩, rfl, hd⟩ (by show 3 * (n + 1) < 1000000; omega)) (ae_run (.sub (.at (eC (.int 0)) 0) (.at (eV 6) d)) (n := n) ⟨⟨rfl, z0⟩, rfl, hd⟩ (by show 2 * (n + 1) < 1000000; omega)) rfl) rfl)
  generalize hpre : ([some (.v (cT (a, b, c, d))), some (.v (tT (p, q, r))), some (.v (tT (x, y, z))), some (.v (.int a)), some (.v (.int b)), some (.v (.int c)), some (.v (.int d)), some (.v (.int p)), some (.v (.int q)), some (.v (.int r)), some (.v (.int x)), some (.v (.int y)), some (.v (.int z)), some (.v (.tuple [.int (0 - a * c), .int (0 - b), .int a])), some (.v (.tuple [.int (0 - a * d), .int 0, .int 0])), some (.v (.tuple [.int (0 - b * d), .int (0 - d), .int c]))] : Env) = pre
  have hlen : pre.length = 16 := by rw [← hpre]; rfl
  refine (seq_nx (st' := st) (env' := pre ++ [some (.v (.list [.int (p * x), .int (p * y + q * x), .int (p * z + r * x)])), none, none, none]) ?_).trans ?_
  · rw [← hpre]
    have k1 := ae_run (.mul (.at (eV 7) p) (.at (eV 10) x)) (n := n) (env := pre ++ [none, none, none, none]) (st := st) (by rw [← hpre]; exact ⟨⟨rfl, hp⟩, rfl, hx⟩) (by show 2 * (n + 1) < 1000000; omega)
    have k2 := ae_run (.add (.mul (.at (eV 7) p) (.at (eV 11) y)) (.mul (.at (eV 8) q) (.at (eV 10) x))) (n := n) (env := pre ++ [none, none, none, none]) (st := st) (by rw [← hpre]; exact ⟨⟨⟨rfl, hp⟩, rfl, hy⟩, ⟨rfl, hq⟩, rfl, hx⟩) (by show 4 * (n + 1) < 1000000; omega)
    have k3 := ae_run (.add (.mul (.at (eV 7) p) (.at (eV 12) z)) (.mul (.at (eV 9) r) (.at (eV 10) x))) (n := n) (env := pre ++ [none, none, none, none]) (st := st) (by rw [← hpre]; exact ⟨⟨⟨rfl, hp⟩, rfl, hz⟩, ⟨rfl, hr⟩, rfl, hx⟩) (by show 4 * (n + 1) < 1000000; omega)
    rw [← hpre] at k1 k2 k3
    exact set_ok (eL_of (lst_of (args3 k1 k2 k3) rfl))
  have N0 : n ≤ 20 * (n + 1) := by omega
  have b0 : Bz (20 * (n + 1)) (p * x) := (bz_tree (.mul (lf p) (lf x)) ⟨hp, hx⟩).mono (by show 2 * (n + 1) ≤ _; omega)
  have b1 : Bz (20 * (n + 1)) (p * y + q * x) := (bz_tree (.add (.mul (lf p) (lf y)) (.mul (lf q) (lf x))) ⟨⟨hp, hy⟩, hq, hx⟩).mono (by show 4 * (n + 1) ≤ _; omega)
  have b2 : Bz (20 * (n + 1)) (p * z + r * x) := (bz_tree (.add (.mul (lf p) (lf z)) (.mul (lf r) (lf x))) ⟨⟨hp, hz⟩, hr, hx⟩).mono (by show 4 * (n + 1) ≤ _; omega)
  have m0 : Bz (20 * (n + 1)) (q * y) := (bz_tree (.mul (lf q) (lf y)) ⟨hq, hy⟩).mono (by show 2 * (n + 1) ≤ _; omega)
  have m1 : Bz (20 * (n + 1)) (q * z + r * y) := (bz_tree (.add (.mul (lf q) (lf z)) (.mul (lf r) (lf y))) ⟨⟨hq, hz⟩, hr, hy⟩).mono (by show 4 * (n + 1) ≤ _; omega)
  have m2 : Bz (20 * (n + 1)) (r * z) := (bz_tree (.mul (lf r) (lf z)) ⟨hr, hz⟩).mono (by show 2 * (n + 1) ≤ _; omega)
  have c1 : Bz (20 * (n + 1)) (0 - a * c) := (bz_tree (.sub (lf 0) (.mul (lf a) (lf c))) ⟨z0, ha, hc⟩).mono (by show 3 * (n + 1) ≤ _; omega)
  have c2 : Bz (20 * (n + 1)) (0 - b) := (bz_tree (.sub (lf 0) (lf b)) ⟨z0, hb⟩).mono (by show 2 * (n + 1) ≤ _; omega)
  have c3 : Bz (20 * (n + 1)) (0 - a * d) := (bz_tree (.sub (lf 0) (.mul (lf a) (lf d))) ⟨z0, ha, hd⟩).mono (by show 3 * (n + 1) ≤ _; omega)
  have c4 : Bz (20 * (n + 1)) (0 - b * d) := (bz_tree (.sub (lf 0) (.mul (lf b) (lf d))) ⟨z0, hb, hd⟩).mono (by show 3 * (n + 1) ≤ _; omega)
  have c5 : Bz (20 * (n + 1)) (0 - d) := (bz_tree (.sub (lf 0) (lf d)) ⟨z0, hd⟩).mono (by show 2 * (n + 1) ≤ _; omega)
  subst hpre
  have l2 : 20 * (n + 1) ≤ 3 * (20 * (n + 1) + 1) := by omega
  have l3 : 20 * (n + 1) ≤ 3 * (3 * (20 * (n + 1) + 1) + 1) := by omega
  have z1 : Bz (20 * (n + 1)) 0 := z0.mono N0
  have g0 := bz3 b0 m0 c1
  have g1 := bz3 b1 m0 c2
  have g2 := bz3 b2 m0 (ha.mono N0)
  have g0' := bz3 g0 (m1.mono l2) (c3.mono l2)
  have g1' := bz3 g1 (m1.mono l2) (z1.mono l2)
  have g2' := bz3 g2 (m1.mono l2) (z1.mono l2)
  have s1 := lpr_step st (N := 20 * (n + 1)) (by omega) [some (.v (cT (a, b, c, d))), some (.v (tT (p, q, r))), some (.v (tT (x, y, z))), some (.v (.int a)), some (.v (.int b)), some (.v (.int c)), some (.v (.int d)), some (.v (.int p)), some (.v (.int q)), some (.v (.int r)), some (.v (.int x)), some (.v (.int y)), some (.v (.int z)), some (.v (.tuple [.int (0 - a * c), .int (0 - b), .int a])), some (.v (.tuple [.int (0 - a * d), .int 0, .int 0])), some (.v (.tuple [.int (0 - b * d), .int (0 - d), .int c]))] rfl none b0 b1 b2 m0 c1 c2 (ha.mono N0)
  have s2 := lpr_step st (N := 3 * (20 * (n + 1) + 1)) (by omega) [some (.v (cT (a, b, c, d))), some (.v (tT (p, q, r))), some (.v (tT (x, y, z))), some (.v (.int a)), some (.v (.int b)), some (.v (.int c)), some (.v (.int d)), some (.v (.int p)), some (.v (.int q)), some (.v (.int r)), some (.v (.int x)), some (.v (.int y)), some (.v (.int z)), some (.v (.tuple [.int (0 - a * c), .int (0 - b), .int a])), some (.v (.tuple [.int (0 - a * d), .int 0, .int 0])), some (.v (.tuple [.int (0 - b * d), .int (0 - d), .int c]))] rfl none g0 g1 g2 (m1.mono l2) (c3.mono l2) (z1.mono l2) (z1.mono l2)
  have s3 := lpr_step st (N := 3 * (3 * (20 * (n + 1) + 1) + 1)) (by omega) [some (.v (cT (a, b, c, d))), some (.v (tT (p, q, r))), some (.v (tT (x, y, z))), some (.v (.int a)), some (.v (.int b)), some (.v (.int c)), some (.v (.int d)), some (.v (.int p)), some (.v (.int q)), some (.v (.int r)), some (.v (.int x)), some (.v (.int y)), some (.v (.int z)), some (.v (.tuple [.int (0 - a * c), .int (0 - b), .int a])), some (.v (.tuple [.int (0 - a * d), .int 0, .int 0])), some (.v (.tuple [.int (0 - b * d), .int (0 - d), .int c]))] rfl none g0' g1' g2' (m2.mono l3) (c4.mono l3) (c5.mono l3) ((hc.mono N0).mono l3)
  refine (seq_nx (st' := st) (env' := [some (.v (cT (a, b, c, d))), some (.v (tT (p, q, r))), some (.v (tT (x, y, z))), some (.v (.int a)), some (.v (.int b)), some (.v (.int c)), some (.v (.int d)), some (.v (.int p)), some (.v (.int q)), some (.v (.int r)), some (.v (.int x)), some (.v (.int y)), some (.v (.int z)), some (.v (.tuple [.int (0 - a * c), .int (0 - b), .int a])), some (.v (.tuple [.int (0 - a * d), .int 0, .int 0])), some (.v (.tuple [.int (0 - b * d), .int (0 - d), .int c]))] ++ [some (.v (.list [.int (p * x + q * y * (0 - a * c) + (q * z + r * y) * (0 - a * d) + r * z * (0 - b * d)), .int (p * y + q * x + q * y * (0 - b) + (q * z + r * y) * 0 + r * z * (0 - d)), .int (p * z + r * x + q * y * a + (q * z + r * y) * 0 + r * z * c)])), some (.v (.int (r * z))), some (.v (.tuple [.int (0 - b * d), .int (0 - d), .int c])), none]) ?_).trans ?_
  · refine (sFor_of (ds := [.tuple [.int (q * y), .tuple [.int (0 - a * c), .int (0 - b), .int a]], .tuple [.int (q * z + r * y), .tuple [.int (0 - a * d), .int 0, .int 0]], .tuple [.int (r * z), .tuple [.int (0 - b * d), .int (0 - d), .int c]]]) (st' := st) ?_).trans ?_
    · have k1 := ae_run (.mul (.at (eV 8) q) (.at (eV 11) y)) (n := n) (env := [some (.v (cT (a, b, c, d))), some (.v (tT (p, q, r))), some (.v (tT (x, y, z))), some (.v (.int a)), some (.v (.int b)), some (.v (.int c)), some (.v (.int d)), some (.v (.int p)), some (.v (.int q)), some (.v (.int r)), some (.v (.int x)), some (.v (.int y)), some (.v (.int z)), some (.v (.tuple [.int (0 - a * c), .int (0 - b), .int a])), some (.v (.tuple [.int (0 - a * d), .int 0, .int 0])), some (.v (.tuple [.int (0 - b * d), .int (0 - d), .int c]))] ++ [some (.v (.list [.int (p * x), .int (p * y + q * x), .int (p * z + r * x)])), none, none, none]) (st := st) ⟨⟨rfl, hq⟩, rfl, hy⟩ (by show 2 * (n + 1) < 1000000; omega)
      have k2 := ae_run (.add (.mul (.at (eV 8) q) (.at (eV 12) z)) (.mul (.at (eV 9) r) (.at (eV 11) y))) (n := n) (env := [some (.v (cT (a, b, c, d))), some (.v (tT (p, q, r))), some (.v (tT (x, y, z))), some (.v (.int a)), some (.v (.int b)), some (.v (.int c)), some (.v (.int d)), some (.v (.int p)), some (.v (.int q)), some (.v (.int r)), some (.v (.int x)), some (.v (.int y)), some (.v (.int z)), some (.v (.tuple [.int (0 - a * c), .int (0 - b), .int a])), some (.v (.tuple [.int (0 - a * d), .int 0, .int 0])), some (.v (.tuple [.int (0 - b * d), .int (0 - d), .int c]))] ++ [some (.v (.list [.int (p * x), .int (p * y + q * x), .int (p * z + r * x)])), none, none, none]) (st := st) ⟨⟨⟨rfl, hq⟩, rfl, hz⟩, ⟨rfl, hr⟩, rfl, hy⟩ (by show 4 * (n + 1) < 1000000; omega)
      have k3 := ae_run (.mul (.at (eV 9) r) (.at (eV 12) z)) (n := n) (env := [some (.v (cT (a, b, c, d))), some (.v (tT (p, q, r))), some (.v (tT (x, y, z))), some (.v (.int a)), some (.v (.int b)), some (.v (.int c)), some (.v (.int d)), some (.v (.int p)), some (.v (.int q)), some (.v (.int r)), some (.v (.int x)), some (.v (.int y)), some (.v (.int z)), some (.v (.tuple [.int (0 - a * c), .int (0 - b), .int a])), some (.v (.tuple [.int (0 - a * d), .int 0, .int 0])), some (.v (.tuple [.int (0 - b * d), .int (0 - d), .int c]))] ++ [some (.v (.list [.int (p * x), .int (p * y + q * x), .int (p * z + r * x)])), none, none, none]) (st := st) ⟨⟨rfl, hr⟩, rfl, hz⟩ (by show 2 * (n + 1) < 1000000; omega)
      exact iAny_of (eL_of (lst_of (args3 (tup_of (args2 k1 rfl) rfl) (tup_of (args2 k2 rfl) rfl) (tup_of (args2 k3 rfl) rfl)) rfl)) rfl
    · refine (forGo_cons (st2 := st) rfl s1).trans ?_
      refine (forGo_cons (st2 := st) rfl s2).trans ?_
      refine (forGo_cons (st2 := st) rfl s3).trans ?_
      rfl
  have q0 : p * x + q * y * (0 - a * c) + (q * z + r * y) * (0 - a * d) + r * z * (0 - b * d) = pa a b c d p q r x y z := by unfold pa; grind
  have q1 : p * y + q * x + q * y * (0 - b) + (q * z + r * y) * 0 + r * z * (0 - d) = pb a b c d p q r x y z := by unfold pb; grind
  have q2 : p * z + r * x + q * y * a + (q * z + r * y) * 0 + r * z * c = pc a b c d p q r x y z := by unfold pc; grind
  rw [q0, q1, q2]
  exact ret_ok rfl
end DL
namespace DL
open PySem PySem.Spec PyProof.Rows L2 LW
/-! what is drawn -/
theorem drw_eq : m__law_draw = drawM := rfl
theorem draw_nat {st : S} (h : Good st) (n : Nat) (h1 : 1 ≤ n) (h2 : n < 1073741824) : ∃ (r : Nat) (st' : S), m__law_draw [STT, .int (n : Int)] st = .ok (.int (r : Int)) st' ∧ r < n ∧ Good st' := by
  obtain ⟨r, st', e, r0, r1, g⟩ := draw_ok h (lim := (n : Int)) (by omega) (by omega)
  refine ⟨r.toNat, st', ?_, by omega, g⟩
  rw [drw_eq, e, Int.toNat_of_nonneg r0]
theorem bz_sm {n : Nat} {i : Int} (n8 : 8 ≤ n) (h1 : -256 < i) (h2 : i < 256) : Bz n i := (Bz.of (n := 8) (by omega) (by omega)).mono n8
theorem el_ok {st : S} (g : Good st) : ∃ (t : Tri) (st' : S), m__law_element [STT] st = .ok (tT t) st' ∧ Good st' ∧ B3 8 t := by
  have one : ∀ (s : S) (k : PD), Good s → ∃ (z : Int) (s' : S), e2 opSub (callF 2 m__law_draw (aCons (eV 0) (aCons (eC (.int 101)) aNil))) (eC (.int 50)) [some (.v STT), some (.v k)] s = .ok (.int z) s' ∧ Good s' ∧ Bz 8 z := by
    intro s k g
    obtain ⟨r, s', e, h, g'⟩ := draw_nat g 101 (by decide) (by decide)
    have e' : m__law_draw [STT, .int 101] s = .ok (.int (r : Int)) s' := by simpa using e
    exact ⟨(r : Int) - 50, s', by simp [e'], g', bz_sm (by decide) (by omega) (by omega)⟩
  obtain ⟨x, s1, e1, g1, b1⟩ := one st (.int 0) g
  obtain ⟨y, s2, e2, g2, b2⟩ := one s1 (.int 1) g1
  obtain ⟨z, s3, e3, g3, b3⟩ := one s2 (.int 2) g2
  refine ⟨(x, y, z), s3, ?_, g3, b1, b2, b3⟩
  refine runFn_of (o := .rt (tT (x, y, z))) rfl ?_
  unfold g__law_element
  have cc : compGo [some (.v STT), none] (tgN 1) tYesF (DL.e2 opSub (callF 2 m__law_draw (aCons (eV 0) (aCons (eC (.int 101)) aNil))) (eC (.int 50))) [.int 0, .int 1, .int 2] st = .ok [.int x, .int y, .int z] s3 :=
    compGo_cons rfl rfl e1 rfl (compGo_cons rfl rfl e2 rfl (compGo_cons rfl rfl e3 rfl rfl))
  have ce := eL_of (nComp_of (itf := iRng rng1D (aCons (eC (.int 3)) aNil)) (vs := [1]) (env := [some (.v STT), none]) (st := st) (st' := st) (ds := [.int 0, .int 1, .int 2]) (rng3 st _ st) (by decide) cc)
  refine ret_ok ?_
  rw [eB_ap, aCons_ap, show startE 2 [STT] = [some (.v STT), none] from rfl, ce]
  rfl
theorem cub_ok {st : S} (g : Good st) : ∃ (C : Cub) (st' : S), m__law_cubic [STT, .int 9] st = .ok (cT C) st' ∧ Good st' ∧ B4 4 C := by
  have one : ∀ (s : S) (k : PD), Good s → ∃ (z : Int) (s' : S), e2 opSub (callF 2 m__law_draw (aCons (eV 0) (aCons (e2 opAdd (e2 opMul (eC (.int 2)) (eV 1)) (eC (.int 1))) aNil))) (eV 1) [some (.v STT), some (.v (.int 9)), some (.v k)] s = .ok (.int z) s' ∧ Good s' ∧ Bz 4 z := by
    intro s k g
    obtain ⟨r, s', e, h, g'⟩ := draw_nat g 19 (by decide) (by decide)
    have e' : m__law_draw [STT, .int 19] s = .ok (.int (r : Int)) s' := by simpa using e
    have hm : mulOk 2 9 := by unfold mulOk; decide
    exact ⟨(r : Int) - 9, s', by simp [hm, e'], g', Bz.of (by omega) (by omega)⟩
  obtain ⟨x, s1, e1, g1, b1⟩ := one st (.int 0) g
  obtain ⟨y, s2, e2, g2, b2⟩ := one s1 (.int 1) g1
  obtain ⟨z, s3, e3, g3, b3⟩ := one s2 (.int 2) g2
  obtain ⟨w, s4, e4, g4, b4⟩ := one s3 (.int 3) g3
  refine ⟨(x, y, z, w), s4, ?_, g4, b1, b2, b3, b4⟩
  refine runFn_of (o := .rt (cT (x, y, z, w))) rfl ?_
  unfold g__law_cubic
  have cc : compGo [some (.v STT), some (.v (.int 9)), none] (tgN 2) tYesF (DL.e2 opSub (callF 2 m__law_draw (aCons (eV 0) (aCons (DL.e2 opAdd (DL.e2 opMul (eC (.int 2)) (eV 1)) (eC (.int 1))) aNil))) (eV 1)) [.int 0, .int 1, .int 2, .int 3] st = .ok [.int x, .int y, .int z, .int w] s4 :=
    compGo_cons rfl rfl e1 rfl (compGo_cons rfl rfl e2 rfl (compGo_cons rfl rfl e3 rfl (compGo_cons rfl rfl e4 rfl rfl)))
  have ce := eL_of (nComp_of (itf := iRng rng1D (aCons (eC (.int 4)) aNil)) (vs := [2]) (env := [some (.v STT), some (.v (.int 9)), none]) (st := st) (st' := st) (ds := [.int 0, .int 1, .int 2, .int 3]) (iRng_of (ds := [.int 4]) rfl (rng1D_nat 4 (by decide))) (by decide) cc)
  refine ret_ok ?_
  rw [eB_ap, aCons_ap, show startE 3 [STT, .int 9] = [some (.v STT), some (.v (.int 9)), none] from rfl, ce]
  rfl
/-- matrices -/
def dt (M : Cub) : Int := M.1 * M.2.2.2 - M.2.1 * M.2.2.1
theorem mtx_ok {st : S} (g : Good st) (most : Nat) (hm : most ≤ 3) : ∃ (M : Cub) (st' : S), m__law_matrix [STT, .int (most : Int), .int 3] st = .ok (cT M) st' ∧ Good st' ∧ B4 (2 * most + 1) M ∧ dt M = 1 := by
  obtain ⟨k, s1, e1, hk, g1⟩ := draw_nat g (most + 1) (by omega) (by omega)
  push_cast at e1
  have hb : ∀ i : Nat, i ≤ 3 → (4 : Int) ^ i ≤ 64 := fun i hi => by
    match i, hi with
    | 0, _ => decide
    | 1, _ => decide
    | 2, _ => decide
    | 3, _ => decide
  obtain ⟨env', s2, e2, i2⟩ := forGo_ind (tg := tgN 4) (b := b__law_matrix_0) (fun i env s => i ≤ k ∧ Good s ∧ ∃ (p q r t : Int) (x4 x5 x6 x7 x8 x9 : Option Sl), env = [some (.v STT), some (.v (.int (most : Int))), some (.v (.int 3)), some (.v (.tuple [.int p, .int q, .int r, .int t])), x4, x5, x6, x7, x8, x9] ∧ p * t - q * r = 1 ∧ (-(4 ^ i) ≤ p ∧ p ≤ 4 ^ i) ∧ (-(4 ^ i) ≤ q ∧ q ≤ 4 ^ i) ∧ (-(4 ^ i) ≤ r ∧ r ≤ 4 ^ i) ∧ (-(4 ^ i) ≤ t ∧ t ≤ 4 ^ i))
    (rangeL 0 1 k) 0 [some (.v STT), some (.v (.int (most : Int))), some (.v (.int 3)), some (.v (.tuple [.int 1, .int 0, .int 0, .int 1])), none, none, none, none, none, none] s1 (by
      rintro i d env s hd ⟨hik, gs, p, q, r, t, x4, x5, x6, x7, x8, x9, rfl, hdt, hp, hq, hr, ht⟩
      obtain ⟨hi, rfl⟩ := rangeL_get hd
      rw [show 0 + i = i from by omega] at *
      obtain ⟨c, s', ec, hc, g'⟩ := draw_nat gs 7 (by decide) (by decide)
      have ec' : m__law_draw [STT, .int 7] s = .ok (.int (c : Int)) s' := by simpa using ec
      have hb' := hb i (by omega)
      obtain ⟨w, ew⟩ : ∃ w : Int, w = (c : Int) - 3 := ⟨_, rfl⟩
      have hw : -3 ≤ w ∧ w ≤ 3 := by omega
      have m1 : mulOk p w := mulOk_bz (bz_sm (n := 8) (by decide) (by omega) (by omega)) (bz_sm (n := 8) (by decide) (by omega) (by omega)) (by decide)
      have m2 : mulOk r w := mulOk_bz (bz_sm (n := 8) (by decide) (by omega) (by omega)) (bz_sm (n := 8) (by decide) (by omega) (by omega)) (by decide)
      have m23 : mulOk 2 3 := by unfold mulOk; decide
      have pw : (4 : Int) ^ (i + 1) = 4 * 4 ^ i := by rw [Int.pow_succ, Int.mul_comm]
      generalize (4 : Int) ^ i = B at *
      have bnd : ∀ x : Int, -B ≤ x → x ≤ B → -(3 * B) ≤ x * w ∧ x * w ≤ 3 * B := fun x h1 h2 => by
        have : w = -3 ∨ w = -2 ∨ w = -1 ∨ w = 0 ∨ w = 1 ∨ w = 2 ∨ w = 3 := by omega
        rcases this with h | h | h | h | h | h | h <;> subst h <;> omega
      have bp := bnd p hp.1 hp.2
      have br := bnd r hr.1 hr.2
      refine ⟨_, [some (.v STT), some (.v (.int (most : Int))), some (.v (.int 3)), some (.v (.tuple [.int (p * w + q), .int (0 - p), .int (r * w + t), .int (0 - r)])), some (.v (.int (0 + (i : Int) * 1))), some (.v (.int w)), some (.v (.int p)), some (.v (.int q)), some (.v (.int r)), some (.v (.int t))], s', rfl, ?_, by omega, g', p * w + q, 0 - p, r * w + t, 0 - r, _, _, _, _, _, _, rfl, by grind, ?_, ?_, ?_, ?_⟩
      · unfold b__law_matrix_0
        refine (seq_nx (st' := s') (env' := [some (.v STT), some (.v (.int (most : Int))), some (.v (.int 3)), some (.v (.tuple [.int p, .int q, .int r, .int t])), some (.v (.int (0 + (i : Int) * 1))), some (.v (.int w)), x6, x7, x8, x9]) ?_).trans ?_
        · rw [ew]
          simp [m23, ec']
        refine (seq_nx (st' := s') (env' := [some (.v STT), some (.v (.int (most : Int))), some (.v (.int 3)), some (.v (.tuple [.int p, .int q, .int r, .int t])), some (.v (.int (0 + (i : Int) * 1))), some (.v (.int w)), some (.v (.int p)), some (.v (.int q)), some (.v (.int r)), some (.v (.int t))]) (asg_ok rfl rfl)).trans ?_
        simp [m1, m2]
      all_goals (rw [pw]; omega)) ⟨Nat.zero_le _, g1, 1, 0, 0, 1, none, none, none, none, none, none, rfl, by decide, by decide, by decide, by decide, by decide⟩
  obtain ⟨hik, g2, p, q, r, t, x4, x5, x6, x7, x8, x9, rfl, hdt, hp, hq, hr, ht⟩ := i2
  rw [rangeL_len, Nat.zero_add] at hp hq hr ht
  have hb' : (4 : Int) ^ k < 2 ^ (2 * most + 1) := by
    match most, hm, k, hk with
    | 0, _, 0, _ => decide
    | 1, _, 0, _ => decide
    | 1, _, 1, _ => decide
    | 2, _, 0, _ => decide
    | 2, _, 1, _ => decide
    | 2, _, 2, _ => decide
    | 3, _, 0, _ => decide
    | 3, _, 1, _ => decide
    | 3, _, 2, _ => decide
    | 3, _, 3, _ => decide
  have bz' : ∀ x : Int, -(4 ^ k) ≤ x → x ≤ 4 ^ k → Bz (2 * most + 1) x := fun x h1 h2 => Bz.of (by generalize (4 : Int) ^ k = B at *; generalize (2 : Int) ^ (2 * most + 1) = D at *; omega) (by generalize (4 : Int) ^ k = B at *; generalize (2 : Int) ^ (2 * most + 1) = D at *; omega)
  refine ⟨(p, q, r, t), s2, ?_, g2, ⟨bz' p hp.1 hp.2, bz' q hq.1 hq.2, bz' r hr.1 hr.2, bz' t ht.1 ht.2⟩, hdt⟩
  rw [m__law_matrix_eq]
  refine runFn_of (o := .rt (cT (p, q, r, t))) rfl ?_
  unfold h__law_matrix
  refine (seq_nx (st' := st) (env' := [some (.v STT), some (.v (.int (most : Int))), some (.v (.int 3)), some (.v (.tuple [.int 1, .int 0, .int 0, .int 1])), none, none, none, none, none, none]) (set_ok rfl)).trans ?_
  refine (seq_nx (st' := s2) (env' := [some (.v STT), some (.v (.int (most : Int))), some (.v (.int 3)), some (.v (.tuple [.int p, .int q, .int r, .int t])), x4, x5, x6, x7, x8, x9]) ?_).trans (ret_ok rfl)
  refine (sFor_of (iRng_of (ds := [.int (k : Int)]) (st' := s1) ?_ (rng1D_nat k (Nat.lt_of_lt_of_le hk (Nat.le_trans (Nat.add_le_add_right hm 1) (by decide)))))).trans e2
  simp [e1]
/-- the turned form -/
def tn (C M : Cub) : Cub := (cv C.1 C.2.1 C.2.2.1 C.2.2.2 M.1 M.2.2.1, tc2 C.1 C.2.1 C.2.2.1 C.2.2.2 M.1 M.2.1 M.2.2.1 M.2.2.2, tc3 C.1 C.2.1 C.2.2.1 C.2.2.2 M.1 M.2.1 M.2.2.1 M.2.2.2, cv C.1 C.2.1 C.2.2.1 C.2.2.2 M.2.1 M.2.2.2)
theorem ltn_ok (st : S) {n : Nat} (hn : n ≤ 10000) (n8 : 8 ≤ n) {C M : Cub} (hC : B4 n C) (hM : B4 n M) : m__law_cubic_turned [cT C, cT M] st = .ok (cT (tn C M)) st := by
  obtain ⟨a, b, c, d⟩ := C
  obtain ⟨p, q, r, s⟩ := M
  have := _law_cubic_turned_ok st (by omega) n8 hC.1 hC.2.1 hC.2.2.1 hC.2.2.2 hM.1 hM.2.1 hM.2.2.1 hM.2.2.2
  rw [this]
  have q1 : lt1 a b c d p q r s = cv a b c d p r := by unfold lt1 cv; rfl
  have q2 : lt2 a b c d p q r s = tc2 a b c d p q r s := by unfold lt2 tc2; grind
  have q3 : lt3 a b c d p q r s = tc3 a b c d p q r s := by unfold lt3 tc3; grind
  have q4 : lt4 a b c d p q r s = cv a b c d q s := by unfold lt4 cv; rfl
  simp only [q1, q2, q3, q4, tn]
theorem tn_ok (st : S) {n : Nat} (hn : n ≤ 10000) (n8 : 8 ≤ n) {C M : Cub} (hC : B4 n C) (hM : B4 n M) : m_turned_cubic [cT C, cT M] st = .ok (cT (tn C M)) st := by
  obtain ⟨a, b, c, d⟩ := C
  obtain ⟨p, q, r, s⟩ := M
  exact turned_cubic_ok st (by omega) n8 hC.1 hC.2.1 hC.2.2.1 hC.2.2.2 hM.1 hM.2.1 hM.2.2.1 hM.2.2.2
theorem bz_k {n : Nat} (i : Int) (h : i.natAbs < 2 ^ n := by decide) : Bz n i := h
theorem tn_bz {C M : Cub} (hC : B4 4 C) (hM : B4 5 M) : B4 25 (tn C M) := by
  obtain ⟨a, b, c, d⟩ := C
  obtain ⟨p, q, r, s⟩ := M
  obtain ⟨ha, hb, hc, hd⟩ := hC
  obtain ⟨hp, hq, hr, hs⟩ := hM
  have b2 : Bz 2 2 := bz_k 2
  have b3 : Bz 2 3 := bz_k 3
  have cvb : ∀ {x y : Int}, Bz 5 x → Bz 5 y → Bz 25 (cv a b c d x y) := fun hx hy => (((((((ha.mul hx).mul hx).mul hx).add (((hb.mul hx).mul hx).mul hy)).add (((hc.mul hx).mul hy).mul hy))).add (((hd.mul hy).mul hy).mul hy)).mono (by decide)
  refine ⟨cvb hp hr, ?_, ?_, cvb hq hs⟩
  · exact (((((((b3.mul ha).mul hp).mul hp).mul hq).add (hb.mul (((hp.mul hp).mul hs).add (((b2.mul hp).mul hq).mul hr)))).add (hc.mul (((hq.mul hr).mul hr).add (((b2.mul hp).mul hr).mul hs)))).add ((((b3.mul hd).mul hr).mul hr).mul hs)).mono (by decide)
  · exact (((((((b3.mul ha).mul hp).mul hq).mul hq).add (hb.mul (((hq.mul hq).mul hr).add (((b2.mul hp).mul hq).mul hs)))).add (hc.mul (((hp.mul hs).mul hs).add (((b2.mul hq).mul hr).mul hs)))).add ((((b3.mul hd).mul hr).mul hs).mul hs)).mono (by decide)
end DL
namespace DL
open PySem PySem.Spec PyProof.Rows L2 LW
/-! parts of the law's first half -/
theorem add_bz {n : Nat} {u v : Tri} (hu : B3 n u) (hv : B3 n v) : B3 (2 * (n + 1)) (add3 u v) :=
  ⟨bz_tree (.add (lf _) (lf _)) ⟨hu.1, hv.1⟩, bz_tree (.add (lf _) (lf _)) ⟨hu.2.1, hv.2.1⟩, bz_tree (.add (lf _) (lf _)) ⟨hu.2.2, hv.2.2⟩⟩
theorem sum_ok (st : S) {n : Nat} (hn : n ≤ 20000) (n8 : 8 ≤ n) {u v : Tri} (hu : B3 n u) (hv : B3 n v) : m_cubic_sum [tT u, tT v] st = .ok (tT (add3 u v)) st :=
  cubic_sum_ok st (by omega) n8 hu.1 hu.2.1 hu.2.2 hv.1 hv.2.1 hv.2.2
theorem add_row (st : S) {n : Nat} (hn : n ≤ 20000) {f g k : Env → M PD} {env : Env} {x y : Int} (h1 : e2 opIx f k env st = .ok (.int x) st) (h2 : e2 opIx g k env st = .ok (.int y) st) : e2 opAdd (e2 opIx f k) (e2 opIx g k) env st = .ok (.int (x + y)) st := by
  rw [e2_ap opAdd, h1, e2a_ok, h2, e2b_ok]; rfl
theorem tot_ok (st : S) (a0 a1 a2 a5 a6 a7 a8 : Option Sl) (t : Env) (u v : Tri) : sSet 7 (eB opTuple (aCons (eL (nComp (iRng rng1D (aCons (eC (.int 3)) aNil)) (tgN 8) tYesF (e2 opAdd (e2 opIx (eV 3) (eV 8)) (e2 opIx (eV 4) (eV 8))) [8])) aNil)) (a0 :: a1 :: a2 :: some (.v (tT u)) :: some (.v (tT v)) :: a5 :: a6 :: a7 :: a8 :: t) st = .ok (.nx (a0 :: a1 :: a2 :: some (.v (tT u)) :: some (.v (tT v)) :: a5 :: a6 :: some (.v (tT (add3 u v))) :: a8 :: t)) st := by
  have cc : compGo (a0 :: a1 :: a2 :: some (.v (tT u)) :: some (.v (tT v)) :: a5 :: a6 :: a7 :: none :: t) (tgN 8) tYesF (e2 opAdd (e2 opIx (eV 3) (eV 8)) (e2 opIx (eV 4) (eV 8))) [.int 0, .int 1, .int 2] st = .ok [.int (u.1 + v.1), .int (u.2.1 + v.2.1), .int (u.2.2 + v.2.2)] st :=
    compGo_cons rfl rfl (add_row st (n := 8) (by decide) rfl rfl) rfl (compGo_cons rfl rfl (add_row st (n := 8) (by decide) rfl rfl) rfl (compGo_cons rfl rfl (add_row st (n := 8) (by decide) rfl rfl) rfl rfl))
  have ce := eL_of (nComp_of (itf := iRng rng1D (aCons (eC (.int 3)) aNil)) (vs := [8]) (env := (a0 :: a1 :: a2 :: some (.v (tT u)) :: some (.v (tT v)) :: a5 :: a6 :: a7 :: a8 :: t)) (st := st) (st' := st) (ds := [.int 0, .int 1, .int 2]) (rng3 st _ st) (by decide) cc)
  refine set_ok ?_
  rw [eB_ap, aCons_ap, ce]
  rfl
theorem mat5 (st : S) {n : Nat} (hn : n ≤ 500) (n8 : 8 ≤ n) {C : Cub} {u : Tri} (hC : B4 n C) (hu : B3 n u) (a0 a1 a4 a5 a6 a7 a8 a10 a11 : Option Sl) (t : Env) : sSet 10 (eB opTuple (aCons (eL (nComp (iAny (eV 9)) (tgN 11) tYesF (callF 3 m__law_product (aCons (eV 2) (aCons (eV 3) (aCons (eV 11) aNil)))) [11])) aNil)) (a0 :: a1 :: some (.v (cT C)) :: some (.v (tT u)) :: a4 :: a5 :: a6 :: a7 :: a8 :: some (.v (.list [tT u1, tT u2, tT u3])) :: a10 :: a11 :: t) st =
    .ok (.nx (a0 :: a1 :: some (.v (cT C)) :: some (.v (tT u)) :: a4 :: a5 :: a6 :: a7 :: a8 :: some (.v (.list [tT u1, tT u2, tT u3])) :: some (.v (matD C u)) :: a11 :: t)) st := by
  have one : ∀ w : Tri, B3 n w → callF 3 m__law_product (aCons (eV 2) (aCons (eV 3) (aCons (eV 11) aNil))) (a0 :: a1 :: some (.v (cT C)) :: some (.v (tT u)) :: a4 :: a5 :: a6 :: a7 :: a8 :: some (.v (.list [tT u1, tT u2, tT u3])) :: a10 :: some (.v (tT w)) :: t) st = .ok (tT (prod C u w)) st := fun w hw => call_of rfl rfl (lpr_ok st hn n8 hC hu hw)
  have cc : compGo (a0 :: a1 :: some (.v (cT C)) :: some (.v (tT u)) :: a4 :: a5 :: a6 :: a7 :: a8 :: some (.v (.list [tT u1, tT u2, tT u3])) :: a10 :: none :: t) (tgN 11) tYesF (callF 3 m__law_product (aCons (eV 2) (aCons (eV 3) (aCons (eV 11) aNil)))) [tT u1, tT u2, tT u3] st = .ok [tT (prod C u u1), tT (prod C u u2), tT (prod C u u3)] st :=
    compGo_cons rfl rfl (one u1 (be1 n8)) rfl (compGo_cons rfl rfl (one u2 (be2 n8)) rfl (compGo_cons rfl rfl (one u3 (be3 n8)) rfl rfl))
  have ce := eL_of (nComp_of (itf := iAny (eV 9)) (vs := [11]) (env := (a0 :: a1 :: some (.v (cT C)) :: some (.v (tT u)) :: a4 :: a5 :: a6 :: a7 :: a8 :: some (.v (.list [tT u1, tT u2, tT u3])) :: a10 :: a11 :: t)) (st := st) (st' := st) (ds := [tT u1, tT u2, tT u3]) rfl (by decide) cc)
  refine set_ok ?_
  rw [eB_ap, aCons_ap, ce]
  rfl
theorem shp_m3 (a b c : Tri) : SeqAt.shaped (.tuple [tT a, tT b, tT c]) = true := rfl
theorem opNe_mat {st : S} (a b c : Tri) : opNe st (.tuple [tT a, tT b, tT c]) (.tuple [tT a, tT b, tT c]) = some (.bool false) := by
  rw [opNe_sh (shp_m3 ..) (shp_m3 ..)]; simp [eqv_tup, eqvAll_cons, eqvAll_nil, eqv_int]
theorem nm_bz {n : Nat} (n8 : 8 ≤ n) {C : Cub} {u : Tri} (hC : B4 n C) (hu : B3 n u) : Bz (15 * (16 * (n + 1) + 1)) (nm C u) := by
  obtain ⟨a1, a2, a3⟩ := prod_bz hC hu (be1 n8)
  obtain ⟨b1, b2, b3⟩ := prod_bz hC hu (be2 n8)
  obtain ⟨c1, c2, c3⟩ := prod_bz hC hu (be3 n8)
  exact bz_tree (.add (.sub (.mul (lf _) (.sub (.mul (lf _) (lf _)) (.mul (lf _) (lf _)))) (.mul (lf _) (.sub (.mul (lf _) (lf _)) (.mul (lf _) (lf _))))) (.mul (lf _) (.sub (.mul (lf _) (lf _)) (.mul (lf _) (lf _))))) ⟨⟨⟨a1, ⟨b2, c3⟩, b3, c2⟩, a2, ⟨b1, c3⟩, b3, c1⟩, a3, ⟨b1, c2⟩, b2, c1⟩
/-- the equation in the law's own text -/
theorem hamL (st : S) {n : Nat} (hn : n ≤ 50) (n8 : 8 ≤ n) {C : Cub} {u : Tri} (hC : B4 n C) (hu : B3 n u) (a0 a1 a2 a4 a5 a6 a7 a8 a9 a10 a11 : Option Sl) (t : Env) :
    eB opTuple (aCons (eL (nComp (iRng rng1D (aCons (eC (.int 3)) aNil)) (tgN 8) tYesF (e2 opAdd (e2 opSub (e2 opIx (eV 16) (eV 8)) (e2 opMul (eV 12) (e2 opIx (eV 15) (eV 8)))) (e2 opMul (eV 13) (e2 opIx (eV 3) (eV 8)))) [8])) aNil) (a0 :: a1 :: a2 :: some (.v (tT u)) :: a4 :: a5 :: a6 :: a7 :: a8 :: a9 :: a10 :: a11 :: some (.v (.int (tr C u))) :: some (.v (.int (sd C u))) :: some (.v (.int (nm C u))) :: some (.v (tT (prod C u u))) :: some (.v (tT (prod C (prod C u u) u))) :: t) st = .ok (tT (nm C u, 0, 0)) st := by
  have hsq := prod_bz hC hu hu
  have l : n ≤ 16 * (n + 1) := by omega
  have hcu := prod_bz (hC.mono l) hsq (hu.mono l)
  have l3 : 16 * (n + 1) ≤ 20000 := by omega
  have l1 : n ≤ 20000 := by omega
  have l2 : 16 * (16 * (n + 1) + 1) ≤ 20000 := by omega
  have bt := (tr_bz n8 hC hu).mono (show _ ≤ 20000 by omega)
  have bs := (sd_bz n8 hC hu).mono (show _ ≤ 20000 by omega)
  obtain ⟨k1, k2, k3⟩ := ham C u
  generalize prod C (prod C u u) u = w at *
  generalize prod C u u = v at *
  generalize tr C u = tt at *
  generalize sd C u = s at *
  generalize nm C u = m at *
  obtain ⟨w1, w2, w3⟩ := w
  obtain ⟨v1, v2, v3⟩ := v
  obtain ⟨x1, x2, x3⟩ := u
  have cc : compGo (a0 :: a1 :: a2 :: some (.v (tT (x1, x2, x3))) :: a4 :: a5 :: a6 :: a7 :: none :: a9 :: a10 :: a11 :: some (.v (.int tt)) :: some (.v (.int s)) :: some (.v (.int m)) :: some (.v (tT (v1, v2, v3))) :: some (.v (tT (w1, w2, w3))) :: t) (tgN 8) tYesF (e2 opAdd (e2 opSub (e2 opIx (eV 16) (eV 8)) (e2 opMul (eV 12) (e2 opIx (eV 15) (eV 8)))) (e2 opMul (eV 13) (e2 opIx (eV 3) (eV 8)))) [.int 0, .int 1, .int 2] st = .ok [.int (w1 - tt * v1 + s * x1), .int (w2 - tt * v2 + s * x2), .int (w3 - tt * v3 + s * x3)] st := by
    refine compGo_cons rfl rfl (ham_row (N := 20000) (Nat.le_refl _) (C := C) (u := (x1, x2, x3)) (k := 0) rfl rfl rfl rfl rfl (hcu.1.mono l2) bt (hsq.1.mono l3) bs (hu.1.mono l1)) rfl ?_
    refine compGo_cons rfl rfl (ham_row (N := 20000) (Nat.le_refl _) (C := C) (u := (x1, x2, x3)) (k := 0) rfl rfl rfl rfl rfl (hcu.2.1.mono l2) bt (hsq.2.1.mono l3) bs (hu.2.1.mono l1)) rfl ?_
    exact compGo_cons rfl rfl (ham_row (N := 20000) (Nat.le_refl _) (C := C) (u := (x1, x2, x3)) (k := 0) rfl rfl rfl rfl rfl (hcu.2.2.mono l2) bt (hsq.2.2.mono l3) bs (hu.2.2.mono l1)) rfl rfl
  dsimp only at k1 k2 k3
  rw [k1, k2, k3] at cc
  have ce := eL_of (nComp_of (itf := iRng rng1D (aCons (eC (.int 3)) aNil)) (vs := [8]) (env := (a0 :: a1 :: a2 :: some (.v (tT (x1, x2, x3))) :: a4 :: a5 :: a6 :: a7 :: a8 :: a9 :: a10 :: a11 :: some (.v (.int tt)) :: some (.v (.int s)) :: some (.v (.int m)) :: some (.v (tT (v1, v2, v3))) :: some (.v (tT (w1, w2, w3))) :: t)) (st := st) (st' := st) (ds := [.int 0, .int 1, .int 2]) (rng3 st _ st) (by decide) cc)
  rw [eB_ap, aCons_ap, ce]
  rfl
end DL
namespace DL
open PySem PySem.Spec PyProof.Rows L2 LW
theorem tab_cell (st : S) {C : Cub} (hC : B4 25 C) (x0 x1 x3 x4 x5 x6 x7 x10 x11 x12 x13 x14 x15 x16 x17 : Option Sl) (t : Env) (i j : Int) (x y : Tri) (hx : B3 25 x) (hy : B3 25 y)
    (h1 : ∀ s : S, opIx s (.list [tT u1, tT u2, tT u3]) (.int i) = some (tT x)) (h2 : ∀ s : S, opIx s (.list [tT u1, tT u2, tT u3]) (.int j) = some (tT y)) (h3 : ∀ s : S, ∃ r, opIx s (tabD C) (.int i) = some r ∧ opIx s r (.int j) = some (.int (tt C x y))) :
    b_law_0 (x0 :: x1 :: some (.v (cT C)) :: x3 :: x4 :: x5 :: x6 :: x7 :: some (.v (.int i)) :: some (.v (.list [tT u1, tT u2, tT u3])) :: x10 :: x11 :: x12 :: x13 :: x14 :: x15 :: x16 :: x17 :: some (.v (tabD C)) :: some (.v (.int j)) :: t) st =
      .ok (.nx (x0 :: x1 :: some (.v (cT C)) :: x3 :: x4 :: x5 :: x6 :: x7 :: some (.v (.int i)) :: some (.v (.list [tT u1, tT u2, tT u3])) :: x10 :: x11 :: x12 :: x13 :: x14 :: x15 :: x16 :: x17 :: some (.v (tabD C)) :: some (.v (.int j)) :: t)) st := by
  have hp := lpr_ok st (n := 25) (by decide) (by decide) hC hx hy
  have ht := tt_ok st (n := 25) (by decide) (by decide) hC hx hy
  obtain ⟨r, h4, h5⟩ := h3 st
  have h1 := h1 st
  have h2 := h2 st
  unfold b_law_0
  generalize (PyData.list [tT u1, tT u2, tT u3]) = U at *
  generalize tabD C = T at *
  generalize hX : tT x = X at *
  generalize hY : tT y = Y at *
  generalize hP : tT (prod C x y) = P at *
  generalize cT C = CC at *
  simp [h1, h2, h4, h5, hp, ht]
theorem tab_row (st : S) {C : Cub} (hC : B4 25 C) (x0 x1 x3 x4 x5 x6 x7 x10 x11 x12 x13 x14 x15 x16 x17 x19 : Option Sl) (t : Env) (i : Int) (x : Tri) (hx : B3 25 x)
    (h1 : ∀ s : S, opIx s (.list [tT u1, tT u2, tT u3]) (.int i) = some (tT x)) (h3 : ∀ s : S, opIx s (tabD C) (.int i) = some (.tuple [.int (tt C x u1), .int (tt C x u2), .int (tt C x u3)])) :
    b_law_1 (x0 :: x1 :: some (.v (cT C)) :: x3 :: x4 :: x5 :: x6 :: x7 :: some (.v (.int i)) :: some (.v (.list [tT u1, tT u2, tT u3])) :: x10 :: x11 :: x12 :: x13 :: x14 :: x15 :: x16 :: x17 :: some (.v (tabD C)) :: x19 :: t) st =
      .ok (.nx (x0 :: x1 :: some (.v (cT C)) :: x3 :: x4 :: x5 :: x6 :: x7 :: some (.v (.int i)) :: some (.v (.list [tT u1, tT u2, tT u3])) :: x10 :: x11 :: x12 :: x13 :: x14 :: x15 :: x16 :: x17 :: some (.v (tabD C)) :: some (.v (.int 2)) :: t)) st := by
  unfold b_law_1
  refine (sFor_of (rng3 st _ st)).trans ?_
  refine (forGo_cons (st2 := st) rfl (tab_cell st hC x0 x1 x3 x4 x5 x6 x7 x10 x11 x12 x13 x14 x15 x16 x17 t i 0 x u1 hx (be1 (by decide)) h1 (fun s => rfl) (fun s => ⟨_, h3 s, rfl⟩))).trans ?_
  refine (forGo_cons (st2 := st) rfl (tab_cell st hC x0 x1 x3 x4 x5 x6 x7 x10 x11 x12 x13 x14 x15 x16 x17 t i 1 x u2 hx (be2 (by decide)) h1 (fun s => rfl) (fun s => ⟨_, h3 s, rfl⟩))).trans ?_
  refine (forGo_cons (st2 := st) rfl (tab_cell st hC x0 x1 x3 x4 x5 x6 x7 x10 x11 x12 x13 x14 x15 x16 x17 t i 2 x u3 hx (be3 (by decide)) h1 (fun s => rfl) (fun s => ⟨_, h3 s, rfl⟩))).trans ?_
  rfl
theorem tab_for (st : S) {C : Cub} (hC : B4 25 C) (x0 x1 x3 x4 x5 x6 x7 x8 x10 x11 x12 x13 x14 x15 x16 x17 x19 : Option Sl) (t : Env) :
    sFor (iRng rng1D (aCons (eC (.int 3)) aNil)) (tgN 8) b_law_1 (x0 :: x1 :: some (.v (cT C)) :: x3 :: x4 :: x5 :: x6 :: x7 :: x8 :: some (.v (.list [tT u1, tT u2, tT u3])) :: x10 :: x11 :: x12 :: x13 :: x14 :: x15 :: x16 :: x17 :: some (.v (tabD C)) :: x19 :: t) st =
      .ok (.nx (x0 :: x1 :: some (.v (cT C)) :: x3 :: x4 :: x5 :: x6 :: x7 :: some (.v (.int 2)) :: some (.v (.list [tT u1, tT u2, tT u3])) :: x10 :: x11 :: x12 :: x13 :: x14 :: x15 :: x16 :: x17 :: some (.v (tabD C)) :: some (.v (.int 2)) :: t)) st := by
  refine (sFor_of (rng3 st _ st)).trans ?_
  refine (forGo_cons (st2 := st) rfl (tab_row st hC x0 x1 x3 x4 x5 x6 x7 x10 x11 x12 x13 x14 x15 x16 x17 x19 t 0 u1 (be1 (by decide)) (fun s => rfl) (fun s => rfl))).trans ?_
  refine (forGo_cons (st2 := st) rfl (tab_row st hC x0 x1 x3 x4 x5 x6 x7 x10 x11 x12 x13 x14 x15 x16 x17 _ t 1 u2 (be2 (by decide)) (fun s => rfl) (fun s => rfl))).trans ?_
  refine (forGo_cons (st2 := st) rfl (tab_row st hC x0 x1 x3 x4 x5 x6 x7 x10 x11 x12 x13 x14 x15 x16 x17 _ t 2 u3 (be3 (by decide)) (fun s => rfl) (fun s => rfl))).trans ?_
  rfl
end DL
namespace DL
open PySem PySem.Spec PyProof.Rows L2 LW
noncomputable def rest20 : MS := (sSeq (sSet 20 (e2 opIx (eL (nLst (aCons (eC (.int 2)) (aCons (eC (.int 3)) (aCons (eC (.int 5)) (aCons (eC (.int 7)) (aCons (eC (.int 11)) (aCons (eC (.int 13)) (aCons (eC (.int 17)) (aCons (eC (.int 19)) aNil)))))))))) (callF 2 m__law_draw (aCons (eV 1) (aCons (eC (.int 8)) aNil))))) (sSeq (sIf (tNotF (tV (callF 2 m__law_places_hold (aCons (eV 2) (aCons (eV 20) aNil))))) (sRet (eC (.bool false))) sSkip) (sSeq (sAsg (eV 2) (tgT 4 (tgsCons (tgN 21) (tgsCons (tgN 22) (tgsCons (tgN 23) (tgsCons (tgN 24) tgsNil)))))) (sSeq (sSet 25 (callF 2 m__law_cubic_turned (aCons (eTup (aCons (e2 opMul (e2 opMul (eV 20) (eV 20)) (eV 21)) (aCons (e2 opMul (eV 20) (eV 22)) (aCons (eV 23) (aCons (eV 24) aNil))))) (aCons (callF 3 m__law_matrix (aCons (eV 1) (aCons (eC (.int 3)) (aCons (eC (.int 3)) aNil)))) aNil)))) (sSeq (sIf (tOrF (tNotF (tV (callF 2 m__law_places_hold (aCons (eV 25) (aCons (eV 20) aNil))))) (tV (e2 (opIs true) (callF 2 m_is_largest_at (aCons (eV 25) (aCons (eV 20) aNil))) (eC (.bool false))))) (sRet (eC (.bool false))) sSkip) (sSeq (sSet 11 (e2 opAdd (eC (.int 1)) (callF 2 m__law_draw (aCons (eV 1) (aCons (e2 opSub (eV 20) (eC (.int 1))) aNil))))) (sSeq (sSet 26 (callF 2 m__law_cubic_turned (aCons (eTup (aCons (eC (.int 1)) (aCons (e2 opMul (eV 20) (eV 22)) (aCons (e2 opMul (eV 20) (eV 23)) (aCons (e2 opMul (eV 20) (eV 11)) aNil))))) (aCons (callF 3 m__law_matrix (aCons (eV 1) (aCons (eC (.int 3)) (aCons (eC (.int 3)) aNil)))) aNil)))) (sSeq (sIf (tOrF (tV (e2 (opIs true) (callF 2 m_is_largest_at (aCons (eV 26) (aCons (eV 20) aNil))) (eC (.bool true)))) (tOrF (tV (e2 opNe (callF 2 m_splitting_of (aCons (eV 26) (aCons (eV 20) aNil))) (eC (.str "1^3")))) (tV (e2 opNe (e2 opMod (eB opInt (aCons (callF 1 m__law_cubic_size (aCons (eV 26) aNil)) aNil)) (e2 opMul (eV 20) (eV 20))) (eC (.int 0)))))) (sRet (eC (.bool false))) sSkip) (sRet (eAnd (e2 opEq (callF 2 m__law_refused (aCons (eV 2) (aCons (eC (.int 4)) aNil))) (eC (.str "no"))) (eAnd (e2 opEq (callF 2 m__law_refused (aCons (eV 2) (aCons (eC (.int 1)) aNil))) (eC (.str "no"))) (eAnd (e2 opEq (callF 2 m__law_refused (aCons (eV 2) (aCons (eC (.int 401)) aNil))) (eC (.str "large"))) (e2 opEq (callF 2 m__law_refused (aCons (eV 2) (aCons (eV 20) aNil))) (eC (.str "told")))))))))))))))
theorem half1 (st : S) {C : Cub} {u v w : Tri} (hC : B4 25 C) (hu : B3 25 u) (hv : B3 25 v) (hw : B3 25 w) (x0 x1 : Option Sl) (t : Env) :
    (sIf (tOrF (tV (e2 opNe (callF 3 m_cubic_product (aCons (eV 2) (aCons (eV 3) (aCons (eV 4) aNil)))) (eV 6))) (tOrF (tV (e2 opNe (callF 3 m_cubic_product (aCons (eV 2) (aCons (eV 4) (aCons (eV 3) aNil)))) (eV 6))) (tV (e2 opNe (callF 3 m_cubic_product (aCons (eV 2) (aCons (eV 6) (aCons (eV 5) aNil)))) (callF 3 m_cubic_product (aCons (eV 2) (aCons (eV 3) (aCons (callF 3 m_cubic_product (aCons (eV 2) (aCons (eV 4) (aCons (eV 5) aNil)))) aNil)))))))) (sRet (eC (.bool false))) sSkip) (x0 :: x1 :: some (.v (cT C)) :: some (.v (tT u)) :: some (.v (tT v)) :: some (.v (tT w)) :: some (.v (tT (prod C u v))) :: t) st = .ok (.nx (x0 :: x1 :: some (.v (cT C)) :: some (.v (tT u)) :: some (.v (tT v)) :: some (.v (tT w)) :: some (.v (tT (prod C u v))) :: t)) st := by
  have a1 := prod_ok st (n := 25) (by decide) (by decide) hC hu hv
  have a2 := prod_ok st (n := 25) (by decide) (by decide) hC hv hu
  have a3 := prod_ok st (n := 16 * (25 + 1)) (by decide) (by decide) (hC.mono (by decide)) (prod_bz hC hu hv) (hw.mono (by decide))
  have a4 := prod_ok st (n := 25) (by decide) (by decide) hC hv hw
  have a5 := prod_ok st (n := 16 * (25 + 1)) (by decide) (by decide) (hC.mono (by decide)) (hu.mono (by decide)) (prod_bz hC hv hw)
  rw [prod_comm C v u] at a2
  rw [prod_assoc C u v w] at a3
  have o1 := opNe_tT (st := st) (prod C u v)
  have o2 := opNe_tT (st := st) (prod C u (prod C v w))
  generalize tT (prod C u (prod C v w)) = P3 at *
  generalize tT (prod C u v) = P1 at *
  generalize tT (prod C v w) = P2 at *
  generalize tT u = U at *
  generalize tT v = V at *
  generalize tT w = W at *
  generalize cT C = CC at *
  simp [a1, a2, a3, a4, a5, o1, o2]
theorem half2 (st : S) {C : Cub} {u v w : Tri} (hC : B4 25 C) (hu : B3 25 u) (hv : B3 25 v) (hw : B3 25 w) (hs : B3 25 (add3 u v)) (x0 x1 x6 : Option Sl) (t : Env) :
    (sIf (tOrF (tV (e2 opNe (callF 2 m_cubic_sum (aCons (eV 3) (aCons (eV 4) aNil))) (eV 7))) (tV (e2 opNe (callF 3 m_cubic_product (aCons (eV 2) (aCons (eV 7) (aCons (eV 5) aNil)))) (callF 2 m_cubic_sum (aCons (callF 3 m_cubic_product (aCons (eV 2) (aCons (eV 3) (aCons (eV 5) aNil)))) (aCons (callF 3 m_cubic_product (aCons (eV 2) (aCons (eV 4) (aCons (eV 5) aNil)))) aNil)))))) (sRet (eC (.bool false))) sSkip) (x0 :: x1 :: some (.v (cT C)) :: some (.v (tT u)) :: some (.v (tT v)) :: some (.v (tT w)) :: x6 :: some (.v (tT (add3 u v))) :: t) st = .ok (.nx (x0 :: x1 :: some (.v (cT C)) :: some (.v (tT u)) :: some (.v (tT v)) :: some (.v (tT w)) :: x6 :: some (.v (tT (add3 u v))) :: t)) st := by
  have a1 := sum_ok st (n := 25) (by decide) (by decide) hu hv
  have a2 := prod_ok st (n := 25) (by decide) (by decide) hC hs hw
  have a3 := prod_ok st (n := 25) (by decide) (by decide) hC hu hw
  have a4 := prod_ok st (n := 25) (by decide) (by decide) hC hv hw
  have a5 := sum_ok st (n := 16 * (25 + 1)) (by decide) (by decide) (prod_bz hC hu hw) (prod_bz hC hv hw)
  rw [prod_add C u v w] at a2
  have o1 := opNe_tT (st := st) (add3 u v)
  have o2 := opNe_tT (st := st) (add3 (prod C u w) (prod C v w))
  generalize tT (add3 (prod C u w) (prod C v w)) = P3 at *
  generalize tT (prod C u w) = P1 at *
  generalize tT (prod C v w) = P2 at *
  generalize tT (add3 u v) = P4 at *
  generalize tT u = U at *
  generalize tT v = V at *
  generalize tT w = W at *
  generalize cT C = CC at *
  simp [a1, a2, a3, a4, a5, o1, o2]
theorem half3 (st : S) {C : Cub} {u : Tri} (hC : B4 25 C) (hu : B3 25 u) (x0 x1 x4 x5 x6 x7 x8 x9 x11 : Option Sl) (t : Env) :
    (sIf (tOrF (tV (e2 opNe (callF 2 m_cubic_matrix (aCons (eV 2) (aCons (eV 3) aNil))) (eV 10))) (tOrF (tV (e2 opNe (callF 2 m_cubic_trace (aCons (eV 2) (aCons (eV 3) aNil))) (eV 12))) (tOrF (tV (e2 opNe (callF 2 m_cubic_second (aCons (eV 2) (aCons (eV 3) aNil))) (eV 13))) (tV (e2 opNe (callF 2 m_cubic_norm (aCons (eV 2) (aCons (eV 3) aNil))) (eV 14)))))) (sRet (eC (.bool false))) sSkip) (x0 :: x1 :: some (.v (cT C)) :: some (.v (tT u)) :: x4 :: x5 :: x6 :: x7 :: x8 :: x9 :: some (.v (matD C u)) :: x11 :: some (.v (.int (tr C u))) :: some (.v (.int (sd C u))) :: some (.v (.int (nm C u))) :: t) st = .ok (.nx (x0 :: x1 :: some (.v (cT C)) :: some (.v (tT u)) :: x4 :: x5 :: x6 :: x7 :: x8 :: x9 :: some (.v (matD C u)) :: x11 :: some (.v (.int (tr C u))) :: some (.v (.int (sd C u))) :: some (.v (.int (nm C u))) :: t)) st := by
  have a1 := mat_ok st (n := 25) (by decide) (by decide) hC hu
  have a2 := tr_ok st (n := 25) (by decide) (by decide) hC hu
  have a3 := sd_ok st (n := 25) (by decide) (by decide) hC hu
  have a4 := nm_ok st (n := 25) (by decide) (by decide) hC hu
  have o1 : opNe st (matD C u) (matD C u) = some (.bool false) := opNe_mat _ _ _
  generalize matD C u = P at *
  generalize tT u = U at *
  generalize cT C = CC at *
  simp [a1, a2, a3, a4, o1]
theorem half4 (st : S) {C : Cub} {u : Tri} (hC : B4 25 C) (hu : B3 25 u) (x0 x1 x4 x5 x6 x7 x8 x9 x10 x11 : Option Sl) (t : Env) :
    (sIf (tOrF (tV (e2 opNe (eB opTuple (aCons (eL (nComp (iRng rng1D (aCons (eC (.int 3)) aNil)) (tgN 8) tYesF (e2 opAdd (e2 opSub (e2 opIx (eV 16) (eV 8)) (e2 opMul (eV 12) (e2 opIx (eV 15) (eV 8)))) (e2 opMul (eV 13) (e2 opIx (eV 3) (eV 8)))) [8])) aNil)) (eTup (aCons (eV 14) (aCons (eC (.int 0)) (aCons (eC (.int 0)) aNil)))))) (tV (e2 (opIs true) (callF 2 m_fits_equation (aCons (eV 2) (aCons (eV 3) aNil))) (eC (.bool true))))) (sRet (eC (.bool false))) sSkip) (x0 :: x1 :: some (.v (cT C)) :: some (.v (tT u)) :: x4 :: x5 :: x6 :: x7 :: x8 :: x9 :: x10 :: x11 :: some (.v (.int (tr C u))) :: some (.v (.int (sd C u))) :: some (.v (.int (nm C u))) :: some (.v (tT (prod C u u))) :: some (.v (tT (prod C (prod C u u) u))) :: t) st = .ok (.nx (x0 :: x1 :: some (.v (cT C)) :: some (.v (tT u)) :: x4 :: x5 :: x6 :: x7 :: x8 :: x9 :: x10 :: x11 :: some (.v (.int (tr C u))) :: some (.v (.int (sd C u))) :: some (.v (.int (nm C u))) :: some (.v (tT (prod C u u))) :: some (.v (tT (prod C (prod C u u) u))) :: t)) st := by
  have a1 := hamL st (n := 25) (by decide) (by decide) hC hu x0 x1 (some (.v (cT C))) x4 x5 x6 x7 x8 x9 x10 x11 t
  have a2 := fits_ok st (n := 25) (by decide) (by decide) hC hu
  have o1 := opNe_tT (st := st) (nm C u, 0, 0)
  rw [sIf_ap, tOrF_ap, tV_ap, e2_ap, a1, e2a_ok]
  generalize tT (prod C (prod C u u) u) = P2 at *
  generalize tT (prod C u u) = P1 at *
  generalize tT u = U at *
  generalize cT C = CC at *
  simp only [tT] at o1
  simp [a2, o1]
theorem half5 (st : S) {C : Cub} {u v : Tri} (hC : B4 25 C) (hu : B3 25 u) (hv : B3 25 v) (hs : B3 25 (add3 u v)) (x0 x1 x3 x5 x8 x9 x10 x11 x13 : Option Sl) (t : Env) :
    (sIf (tOrF (tV (e2 opNe (callF 2 m_cubic_norm (aCons (eV 2) (aCons (eV 6) aNil))) (e2 opMul (eV 14) (callF 2 m_cubic_norm (aCons (eV 2) (aCons (eV 4) aNil)))))) (tV (e2 opNe (callF 2 m_cubic_trace (aCons (eV 2) (aCons (eV 7) aNil))) (e2 opAdd (eV 12) (callF 2 m_cubic_trace (aCons (eV 2) (aCons (eV 4) aNil))))))) (sRet (eC (.bool false))) sSkip) (x0 :: x1 :: some (.v (cT C)) :: x3 :: some (.v (tT v)) :: x5 :: some (.v (tT (prod C u v))) :: some (.v (tT (add3 u v))) :: x8 :: x9 :: x10 :: x11 :: some (.v (.int (tr C u))) :: x13 :: some (.v (.int (nm C u))) :: t) st = .ok (.nx (x0 :: x1 :: some (.v (cT C)) :: x3 :: some (.v (tT v)) :: x5 :: some (.v (tT (prod C u v))) :: some (.v (tT (add3 u v))) :: x8 :: x9 :: x10 :: x11 :: some (.v (.int (tr C u))) :: x13 :: some (.v (.int (nm C u))) :: t)) st := by
  have a1 := nm_ok st (n := 16 * (25 + 1)) (by decide) (by decide) (hC.mono (by decide)) (prod_bz hC hu hv)
  have a2 := nm_ok st (n := 25) (by decide) (by decide) hC hv
  have a3 := tr_ok st (n := 25) (by decide) (by decide) hC hs
  have a4 := tr_ok st (n := 25) (by decide) (by decide) hC hv
  rw [nm_mul] at a1
  rw [tr_add] at a3
  have mm : mulOk (nm C u) (nm C v) := mulOk_bz (nm_bz (by decide) hC hu) (nm_bz (by decide) hC hv) (by decide)
  generalize tT (prod C u v) = P1 at *
  generalize tT (add3 u v) = P2 at *
  generalize tT v = V at *
  generalize cT C = CC at *
  simp [a1, a2, a3, a4, mm]
theorem half6 (st : S) {C : Cub} {u : Tri} (hC : B4 25 C) (hu : B3 25 u) (x0 x1 x4 x5 x6 x7 x8 x9 x10 x11 x12 x13 x14 x15 x16 : Option Sl) (t : Env) :
    (sIf (tOrF (tV (e2 opNe (callF 1 m_trace_discriminant (aCons (eV 2) aNil)) (eV 17))) (tOrF (tV (e2 opNe (callF 1 m__law_determinant (aCons (eV 18) aNil)) (eV 17))) (tV (e2 opNe (callF 2 m_index_of (aCons (eV 2) (aCons (eV 3) aNil))) (callF 3 m__law_cubic_value (aCons (eV 2) (aCons (e2 opIx (eV 3) (eC (.int 1))) (aCons (e2 opIx (eV 3) (eC (.int 2))) aNil)))))))) (sRet (eC (.bool false))) sSkip) (x0 :: x1 :: some (.v (cT C)) :: some (.v (tT u)) :: x4 :: x5 :: x6 :: x7 :: x8 :: x9 :: x10 :: x11 :: x12 :: x13 :: x14 :: x15 :: x16 :: some (.v (.int (cs C.1 C.2.1 C.2.2.1 C.2.2.2))) :: some (.v (tabD C)) :: t) st = .ok (.nx (x0 :: x1 :: some (.v (cT C)) :: some (.v (tT u)) :: x4 :: x5 :: x6 :: x7 :: x8 :: x9 :: x10 :: x11 :: x12 :: x13 :: x14 :: x15 :: x16 :: some (.v (.int (cs C.1 C.2.1 C.2.2.1 C.2.2.2))) :: some (.v (tabD C)) :: t)) st := by
  have T : ∀ i j : Tri, B3 25 i → B3 25 j → Bz 21000 (tt C i j) := fun i j hi hj => (tr_bz (n := 16 * (25 + 1)) (by decide) (hC.mono (by decide)) (prod_bz hC hi hj)).mono (by decide)
  have b1 := be1 (n := 25) (by decide)
  have b2 := be2 (n := 25) (by decide)
  have b3 := be3 (n := 25) (by decide)
  have a1 := trace_discriminant_ok st (n := 21000) (by decide) (by decide) (T _ _ b1 b1) (T _ _ b1 b2) (T _ _ b1 b3) (T _ _ b2 b1) (T _ _ b2 b2) (T _ _ b2 b3) (T _ _ b3 b1) (T _ _ b3 b2) (T _ _ b3 b3) (tab_ok st (n := 25) (by decide) (by decide) hC)
  have a2 := _law_determinant_ok st (n := 21000) (by decide) (by decide) (T _ _ b1 b1) (T _ _ b1 b2) (T _ _ b1 b3) (T _ _ b2 b1) (T _ _ b2 b2) (T _ _ b2 b3) (T _ _ b3 b1) (T _ _ b3 b2) (T _ _ b3 b3)
  have a3 := ix_ok st (n := 25) (by decide) (by decide) hC hu
  have a4 := _law_cubic_value_ok st (n := 25) (by decide) (by decide) hC.1 hC.2.1 hC.2.2.1 hC.2.2.2 hu.2.1 hu.2.2
  rw [disc] at a1 a2
  rw [ix_cv] at a3
  have a1 : m_trace_discriminant [cT C] st = .ok (.int (cs C.1 C.2.1 C.2.2.1 C.2.2.2)) st := a1
  have a2 : m__law_determinant [tabD C] st = .ok (.int (cs C.1 C.2.1 C.2.2.1 C.2.2.2)) st := a2
  have a4 : m__law_cubic_value [cT C, .int u.2.1, .int u.2.2] st = .ok (.int (cv C.1 C.2.1 C.2.2.1 C.2.2.2 u.2.1 u.2.2)) st := a4
  generalize tabD C = TT at *
  generalize cT C = CC at *
  simp [a1, a2, a3, a4]
theorem half7 (st : S) {C : Cub} {u : Tri} (hC : B4 25 C) (hu : B3 25 u) (x0 x1 x4 x5 x6 x7 x8 x9 x10 x11 x12 x13 x14 : Option Sl) (t : Env) :
    (sIf (tV (e2 opNe (e2 opSub (e2 opMul (e2 opIx (eV 3) (eC (.int 1))) (e2 opIx (eV 15) (eC (.int 2)))) (e2 opMul (e2 opIx (eV 3) (eC (.int 2))) (e2 opIx (eV 15) (eC (.int 1))))) (callF 2 m_index_of (aCons (eV 2) (aCons (eV 3) aNil))))) (sRet (eC (.bool false))) sSkip) (x0 :: x1 :: some (.v (cT C)) :: some (.v (tT u)) :: x4 :: x5 :: x6 :: x7 :: x8 :: x9 :: x10 :: x11 :: x12 :: x13 :: x14 :: some (.v (tT (prod C u u))) :: t) st = .ok (.nx (x0 :: x1 :: some (.v (cT C)) :: some (.v (tT u)) :: x4 :: x5 :: x6 :: x7 :: x8 :: x9 :: x10 :: x11 :: x12 :: x13 :: x14 :: some (.v (tT (prod C u u))) :: t)) st := by
  have a3 := ix_ok st (n := 25) (by decide) (by decide) hC hu
  have hp := prod_bz hC hu hu
  have m1 : mulOk u.2.1 (prod C u u).2.2 := mulOk_bz hu.2.1 hp.2.2 (by decide)
  have m2 : mulOk u.2.2 (prod C u u).2.1 := mulOk_bz hu.2.2 hp.2.1 (by decide)
  generalize prod C u u = q at *
  generalize cT C = CC at *
  simp [a3, m1, m2]
end DL
namespace DL
open PySem PySem.Spec PyProof.Rows L2 LW
theorem first_half {st : S} (g : Good st) : ∃ (C : Cub) (u v w : Tri) (s5 : S), Good s5 ∧ B4 25 C ∧ h_law [none, some (.v STT), none, none, none, none, none, none, none, none, none, none, none, none, none, none, none, none, none, none, none, none, none, none, none, none, none] st = rest20 [none, some (.v (STT)), some (.v (cT C)), some (.v (tT u)), some (.v (tT v)), some (.v (tT w)), some (.v (tT (prod C u v))), some (.v (tT (add3 u v))), some (.v (.int 2)), some (.v (.list [tT u1, tT u2, tT u3])), some (.v (matD C u)), none, some (.v (.int (tr C u))), some (.v (.int (sd C u))), some (.v (.int (nm C u))), some (.v (tT (prod C u u))), some (.v (tT (prod C (prod C u u) u))), some (.v (.int (cs C.1 C.2.1 C.2.2.1 C.2.2.2))), some (.v (tabD C)), some (.v (.int 2)), none, none, none, none, none, none, none] s5 := by
  obtain ⟨C0, s1, y1, g1, hC0⟩ := cub_ok g
  obtain ⟨M0, s2, y2, g2, hM0, hdt⟩ := mtx_ok g1 2 (by decide)
  obtain ⟨u, s3, y3, g3, hu8⟩ := el_ok g2
  obtain ⟨v, s4, y4, g4, hv8⟩ := el_ok g3
  obtain ⟨w, s5, y5, g5, hw8⟩ := el_ok g4
  have y2 : m__law_matrix [STT, .int 2, .int 3] s1 = .ok (cT M0) s2 := y2
  have h8 : 8 ≤ 25 := by decide
  have hC := tn_bz hC0 hM0
  have ltn := ltn_ok s2 (n := 8) (by decide) (by decide) (hC0.mono (by decide)) (hM0.mono (by decide))
  obtain ⟨C, eqC⟩ : ∃ C, C = tn C0 M0 := ⟨_, rfl⟩
  rw [← eqC] at hC ltn
  have hu := hu8.mono (show 8 ≤ 25 by decide)
  have hv := hv8.mono (show 8 ≤ 25 by decide)
  have hw := hw8.mono (show 8 ≤ 25 by decide)
  have hs := (add_bz hu8 hv8).mono (show 2 * (8 + 1) ≤ 25 by decide)
  obtain ⟨m00, m01, m02⟩ := prod_bz hC hu (be1 h8)
  obtain ⟨m10, m11, m12⟩ := prod_bz hC hu (be2 h8)
  obtain ⟨m20, m21, m22⟩ := prod_bz hC hu (be3 h8)
  have ldt := _law_determinant_ok s5 (n := 16 * (25 + 1)) (by decide) (by decide) m00 m01 m02 m10 m11 m12 m20 m21 m22
  have sz := _law_cubic_size_ok s5 (n := 25) (by decide) (by decide) hC.1 hC.2.1 hC.2.2.1 hC.2.2.2
  refine ⟨C, u, v, w, s5, g5, hC, ?_⟩
  obtain ⟨n, hn⟩ : ∃ n : Nat, n = 16 * (25 + 1) := ⟨_, rfl⟩
  rw [← hn] at m00 m01 m02 m10 m11 m12 m20 m21 m22
  unfold h_law
  refine (seq_nx (st' := s2) (env' := [none, some (.v (STT)), some (.v (cT C)), none, none, none, none, none, none, none, none, none, none, none, none, none, none, none, none, none, none, none, none, none, none, none, none]) ?_).trans ?_
  · generalize cT C0 = X0 at y1 ltn ⊢
    generalize cT M0 = X1 at y2 ltn ⊢
    generalize cT C = X2 at ltn ⊢
    simp [y1, y2, ltn]
  refine (seq_nx (st' := s3) (env' := [none, some (.v (STT)), some (.v (cT C)), some (.v (tT u)), none, none, none, none, none, none, none, none, none, none, none, none, none, none, none, none, none, none, none, none, none, none, none]) ?_).trans ?_
  · exact set_ok (call_of rfl rfl y3)
  refine (seq_nx (st' := s4) (env' := [none, some (.v (STT)), some (.v (cT C)), some (.v (tT u)), some (.v (tT v)), none, none, none, none, none, none, none, none, none, none, none, none, none, none, none, none, none, none, none, none, none, none]) ?_).trans ?_
  · exact set_ok (call_of rfl rfl y4)
  refine (seq_nx (st' := s5) (env' := [none, some (.v (STT)), some (.v (cT C)), some (.v (tT u)), some (.v (tT v)), some (.v (tT w)), none, none, none, none, none, none, none, none, none, none, none, none, none, none, none, none, none, none, none, none, none]) ?_).trans ?_
  · exact set_ok (call_of rfl rfl y5)
  refine (seq_nx (st' := s5) (env' := [none, some (.v (STT)), some (.v (cT C)), some (.v (tT u)), some (.v (tT v)), some (.v (tT w)), some (.v (tT (prod C u v))), none, none, none, none, none, none, none, none, none, none, none, none, none, none, none, none, none, none, none, none]) ?_).trans ?_
  · exact set_ok (call_of rfl rfl (lpr_ok s5 (n := 25) (by decide) h8 hC hu hv))
  refine (seq_nx (st' := s5) (env' := [none, some (.v (STT)), some (.v (cT C)), some (.v (tT u)), some (.v (tT v)), some (.v (tT w)), some (.v (tT (prod C u v))), none, none, none, none, none, none, none, none, none, none, none, none, none, none, none, none, none, none, none, none]) ?_).trans ?_
  · exact half1 s5 hC hu hv hw _ _ _
  refine (seq_nx (st' := s5) (env' := [none, some (.v (STT)), some (.v (cT C)), some (.v (tT u)), some (.v (tT v)), some (.v (tT w)), some (.v (tT (prod C u v))), some (.v (tT (add3 u v))), none, none, none, none, none, none, none, none, none, none, none, none, none, none, none, none, none, none, none]) ?_).trans ?_
  · exact tot_ok s5 _ _ _ _ _ _ _ _ u v
  refine (seq_nx (st' := s5) (env' := [none, some (.v (STT)), some (.v (cT C)), some (.v (tT u)), some (.v (tT v)), some (.v (tT w)), some (.v (tT (prod C u v))), some (.v (tT (add3 u v))), none, none, none, none, none, none, none, none, none, none, none, none, none, none, none, none, none, none, none]) ?_).trans ?_
  · exact half2 s5 hC hu hv hw hs _ _ _ _
  refine (seq_nx (st' := s5) (env' := [none, some (.v (STT)), some (.v (cT C)), some (.v (tT u)), some (.v (tT v)), some (.v (tT w)), some (.v (tT (prod C u v))), some (.v (tT (add3 u v))), none, some (.v (.list [tT u1, tT u2, tT u3])), none, none, none, none, none, none, none, none, none, none, none, none, none, none, none, none, none]) ?_).trans ?_
  · exact set_ok (eL_of (lst_of (args3 rfl rfl rfl) rfl))
  refine (seq_nx (st' := s5) (env' := [none, some (.v (STT)), some (.v (cT C)), some (.v (tT u)), some (.v (tT v)), some (.v (tT w)), some (.v (tT (prod C u v))), some (.v (tT (add3 u v))), none, some (.v (.list [tT u1, tT u2, tT u3])), some (.v (matD C u)), none, none, none, none, none, none, none, none, none, none, none, none, none, none, none, none]) ?_).trans ?_
  · exact mat5 s5 (n := 25) (by decide) h8 hC hu _ _ _ _ _ _ _ _ _ _
  refine (seq_nx (st' := s5) (env' := [none, some (.v (STT)), some (.v (cT C)), some (.v (tT u)), some (.v (tT v)), some (.v (tT w)), some (.v (tT (prod C u v))), some (.v (tT (add3 u v))), none, some (.v (.list [tT u1, tT u2, tT u3])), some (.v (matD C u)), none, some (.v (.int (tr C u))), none, none, none, none, none, none, none, none, none, none, none, none, none, none]) ?_).trans ?_
  · exact set_ok (ae_run (.add (.add (.at (e2 opIx (e2 opIx (eV 10) (eC (.int 0))) (eC (.int 0))) (prod C u u1).1) (.at (e2 opIx (e2 opIx (eV 10) (eC (.int 1))) (eC (.int 1))) (prod C u u2).2.1)) (.at (e2 opIx (e2 opIx (eV 10) (eC (.int 2))) (eC (.int 2))) (prod C u u3).2.2)) (n := n) ⟨⟨⟨rfl, m00⟩, ⟨rfl, m11⟩⟩, ⟨rfl, m22⟩⟩ (by show 3 * (n + 1) < 1000000; omega))
  refine (seq_nx (st' := s5) (env' := [none, some (.v (STT)), some (.v (cT C)), some (.v (tT u)), some (.v (tT v)), some (.v (tT w)), some (.v (tT (prod C u v))), some (.v (tT (add3 u v))), none, some (.v (.list [tT u1, tT u2, tT u3])), some (.v (matD C u)), none, some (.v (.int (tr C u))), some (.v (.int (sd C u))), none, none, none, none, none, none, none, none, none, none, none, none, none]) ?_).trans ?_
  · exact set_ok (ae_run (.sub (.add (.sub (.add (.sub (.mul (.at (e2 opIx (e2 opIx (eV 10) (eC (.int 0))) (eC (.int 0))) (prod C u u1).1) (.at (e2 opIx (e2 opIx (eV 10) (eC (.int 1))) (eC (.int 1))) (prod C u u2).2.1)) (.mul (.at (e2 opIx (e2 opIx (eV 10) (eC (.int 0))) (eC (.int 1))) (prod C u u1).2.1) (.at (e2 opIx (e2 opIx (eV 10) (eC (.int 1))) (eC (.int 0))) (prod C u u2).1))) (.mul (.at (e2 opIx (e2 opIx (eV 10) (eC (.int 0))) (eC (.int 0))) (prod C u u1).1) (.at (e2 opIx (e2 opIx (eV 10) (eC (.int 2))) (eC (.int 2))) (prod C u u3).2.2))) (.mul (.at (e2 opIx (e2 opIx (eV 10) (eC (.int 0))) (eC (.int 2))) (prod C u u1).2.2) (.at (e2 opIx (e2 opIx (eV 10) (eC (.int 2))) (eC (.int 0))) (prod C u u3).1))) (.mul (.at (e2 opIx (e2 opIx (eV 10) (eC (.int 1))) (eC (.int 1))) (prod C u u2).2.1) (.at (e2 opIx (e2 opIx (eV 10) (eC (.int 2))) (eC (.int 2))) (prod C u u3).2.2))) (.mul (.at (e2 opIx (e2 opIx (eV 10) (eC (.int 1))) (eC (.int 2))) (prod C u u2).2.2) (.at (e2 opIx (e2 opIx (eV 10) (eC (.int 2))) (eC (.int 1))) (prod C u u3).2.1))) (n := n) ⟨⟨⟨⟨⟨⟨⟨rfl, m00⟩, ⟨rfl, m11⟩⟩, ⟨⟨rfl, m01⟩, ⟨rfl, m10⟩⟩⟩, ⟨⟨rfl, m00⟩, ⟨rfl, m22⟩⟩⟩, ⟨⟨rfl, m02⟩, ⟨rfl, m20⟩⟩⟩, ⟨⟨rfl, m11⟩, ⟨rfl, m22⟩⟩⟩, ⟨⟨rfl, m12⟩, ⟨rfl, m21⟩⟩⟩ (by show 12 * (n + 1) < 1000000; omega))
  refine (seq_nx (st' := s5) (env' := [none, some (.v (STT)), some (.v (cT C)), some (.v (tT u)), some (.v (tT v)), some (.v (tT w)), some (.v (tT (prod C u v))), some (.v (tT (add3 u v))), none, some (.v (.list [tT u1, tT u2, tT u3])), some (.v (matD C u)), none, some (.v (.int (tr C u))), some (.v (.int (sd C u))), some (.v (.int (nm C u))), none, none, none, none, none, none, none, none, none, none, none, none]) ?_).trans ?_
  · exact set_ok (call_of rfl rfl ldt)
  refine (seq_nx (st' := s5) (env' := [none, some (.v (STT)), some (.v (cT C)), some (.v (tT u)), some (.v (tT v)), some (.v (tT w)), some (.v (tT (prod C u v))), some (.v (tT (add3 u v))), none, some (.v (.list [tT u1, tT u2, tT u3])), some (.v (matD C u)), none, some (.v (.int (tr C u))), some (.v (.int (sd C u))), some (.v (.int (nm C u))), none, none, none, none, none, none, none, none, none, none, none, none]) ?_).trans ?_
  · exact half3 s5 hC hu _ _ _ _ _ _ _ _ _ _
  refine (seq_nx (st' := s5) (env' := [none, some (.v (STT)), some (.v (cT C)), some (.v (tT u)), some (.v (tT v)), some (.v (tT w)), some (.v (tT (prod C u v))), some (.v (tT (add3 u v))), none, some (.v (.list [tT u1, tT u2, tT u3])), some (.v (matD C u)), none, some (.v (.int (tr C u))), some (.v (.int (sd C u))), some (.v (.int (nm C u))), some (.v (tT (prod C u u))), none, none, none, none, none, none, none, none, none, none, none]) ?_).trans ?_
  · exact set_ok (call_of rfl rfl (lpr_ok s5 (n := 25) (by decide) h8 hC hu hu))
  refine (seq_nx (st' := s5) (env' := [none, some (.v (STT)), some (.v (cT C)), some (.v (tT u)), some (.v (tT v)), some (.v (tT w)), some (.v (tT (prod C u v))), some (.v (tT (add3 u v))), none, some (.v (.list [tT u1, tT u2, tT u3])), some (.v (matD C u)), none, some (.v (.int (tr C u))), some (.v (.int (sd C u))), some (.v (.int (nm C u))), some (.v (tT (prod C u u))), some (.v (tT (prod C (prod C u u) u))), none, none, none, none, none, none, none, none, none, none]) ?_).trans ?_
  · exact set_ok (call_of rfl rfl (lpr_ok s5 (n := 16 * (25 + 1)) (by decide) (by decide) (hC.mono (by decide)) (prod_bz hC hu hu) (hu.mono (by decide))))
  refine (seq_nx (st' := s5) (env' := [none, some (.v (STT)), some (.v (cT C)), some (.v (tT u)), some (.v (tT v)), some (.v (tT w)), some (.v (tT (prod C u v))), some (.v (tT (add3 u v))), none, some (.v (.list [tT u1, tT u2, tT u3])), some (.v (matD C u)), none, some (.v (.int (tr C u))), some (.v (.int (sd C u))), some (.v (.int (nm C u))), some (.v (tT (prod C u u))), some (.v (tT (prod C (prod C u u) u))), none, none, none, none, none, none, none, none, none, none]) ?_).trans ?_
  · exact half4 s5 hC hu _ _ _ _ _ _ _ _ _ _ _
  refine (seq_nx (st' := s5) (env' := [none, some (.v (STT)), some (.v (cT C)), some (.v (tT u)), some (.v (tT v)), some (.v (tT w)), some (.v (tT (prod C u v))), some (.v (tT (add3 u v))), none, some (.v (.list [tT u1, tT u2, tT u3])), some (.v (matD C u)), none, some (.v (.int (tr C u))), some (.v (.int (sd C u))), some (.v (.int (nm C u))), some (.v (tT (prod C u u))), some (.v (tT (prod C (prod C u u) u))), none, none, none, none, none, none, none, none, none, none]) ?_).trans ?_
  · exact half5 s5 hC hu hv hs _ _ _ _ _ _ _ _ _ _
  refine (seq_nx (st' := s5) (env' := [none, some (.v (STT)), some (.v (cT C)), some (.v (tT u)), some (.v (tT v)), some (.v (tT w)), some (.v (tT (prod C u v))), some (.v (tT (add3 u v))), none, some (.v (.list [tT u1, tT u2, tT u3])), some (.v (matD C u)), none, some (.v (.int (tr C u))), some (.v (.int (sd C u))), some (.v (.int (nm C u))), some (.v (tT (prod C u u))), some (.v (tT (prod C (prod C u u) u))), some (.v (.int (cs C.1 C.2.1 C.2.2.1 C.2.2.2))), none, none, none, none, none, none, none, none, none]) ?_).trans ?_
  · exact set_ok (call_of rfl rfl sz)
  refine (seq_nx (st' := s5) (env' := [none, some (.v (STT)), some (.v (cT C)), some (.v (tT u)), some (.v (tT v)), some (.v (tT w)), some (.v (tT (prod C u v))), some (.v (tT (add3 u v))), none, some (.v (.list [tT u1, tT u2, tT u3])), some (.v (matD C u)), none, some (.v (.int (tr C u))), some (.v (.int (sd C u))), some (.v (.int (nm C u))), some (.v (tT (prod C u u))), some (.v (tT (prod C (prod C u u) u))), some (.v (.int (cs C.1 C.2.1 C.2.2.1 C.2.2.2))), some (.v (tabD C)), none, none, none, none, none, none, none, none]) ?_).trans ?_
  · exact set_ok (call_of rfl rfl (tab_ok s5 (n := 25) (by decide) h8 hC))
  refine (seq_nx (st' := s5) (env' := [none, some (.v (STT)), some (.v (cT C)), some (.v (tT u)), some (.v (tT v)), some (.v (tT w)), some (.v (tT (prod C u v))), some (.v (tT (add3 u v))), some (.v (.int 2)), some (.v (.list [tT u1, tT u2, tT u3])), some (.v (matD C u)), none, some (.v (.int (tr C u))), some (.v (.int (sd C u))), some (.v (.int (nm C u))), some (.v (tT (prod C u u))), some (.v (tT (prod C (prod C u u) u))), some (.v (.int (cs C.1 C.2.1 C.2.2.1 C.2.2.2))), some (.v (tabD C)), some (.v (.int 2)), none, none, none, none, none, none, none]) ?_).trans ?_
  · exact tab_for s5 hC _ _ _ _ _ _ _ _ _ _ _ _ _ _ _ _ _ _
  refine (seq_nx (st' := s5) (env' := [none, some (.v (STT)), some (.v (cT C)), some (.v (tT u)), some (.v (tT v)), some (.v (tT w)), some (.v (tT (prod C u v))), some (.v (tT (add3 u v))), some (.v (.int 2)), some (.v (.list [tT u1, tT u2, tT u3])), some (.v (matD C u)), none, some (.v (.int (tr C u))), some (.v (.int (sd C u))), some (.v (.int (nm C u))), some (.v (tT (prod C u u))), some (.v (tT (prod C (prod C u u) u))), some (.v (.int (cs C.1 C.2.1 C.2.2.1 C.2.2.2))), some (.v (tabD C)), some (.v (.int 2)), none, none, none, none, none, none, none]) ?_).trans ?_
  · exact half6 s5 hC hu _ _ _ _ _ _ _ _ _ _ _ _ _ _ _ _ 
  refine (seq_nx (st' := s5) (env' := [none, some (.v (STT)), some (.v (cT C)), some (.v (tT u)), some (.v (tT v)), some (.v (tT w)), some (.v (tT (prod C u v))), some (.v (tT (add3 u v))), some (.v (.int 2)), some (.v (.list [tT u1, tT u2, tT u3])), some (.v (matD C u)), none, some (.v (.int (tr C u))), some (.v (.int (sd C u))), some (.v (.int (nm C u))), some (.v (tT (prod C u u))), some (.v (tT (prod C (prod C u u) u))), some (.v (.int (cs C.1 C.2.1 C.2.2.1 C.2.2.2))), some (.v (tabD C)), some (.v (.int 2)), none, none, none, none, none, none, none]) ?_).trans ?_
  · exact half7 s5 hC hu _ _ _ _ _ _ _ _ _ _ _ _ _ _ 
  rfl
end DL
namespace DL.TL
open PySem PySem.Spec PyProof.Rows L2 LW
/-! the law's word of a list of counts -/
def f__law_word (l : List Int) : T Str := if isort l = [1, 1, 1] then Pure.pure "1 1 1" else if isort l = [1] then Pure.pure "1 2" else if isort l = [] then Pure.pure "3" else if isort l = [1, 2] then Pure.pure "1 1^2" else if isort l = [3] then Pure.pure "1^3" else T.bad
def kvs20 : List (Str × Str) := [("1-1-1", "1 1 1"), ("1", "1 2"), ("", "3"), ("1-2", "1 1^2"), ("3", "1^3")]
theorem word_at (l : List Int) (s : S) (k : List Int) (zs : List Str) (w : Str) (h : isort l = k) (hl : k.length ≤ 10000000) (h2 : compGo [some (.v (eLs eI l)), none, none] (tgN 2) tYesF (eB opStr (aCons (eV 2) aNil)) (k.map eI) s = .ok (zs.map PyData.str) s)
    (hj : opJoin (.str "-") (.list (zs.map PyData.str)) = some (.str (Txt.join "-" zs))) (h3 : dlook kvs20 (Txt.join "-" zs) = some w) : m__law_word [eLs eI l] s = .ok (.str w) s := by
  have hi : iAny (eL (nB opSortI (aCons (eV 0) aNil))) [some (.v (eLs eI l)), none, none] s = .ok (k.map eI) s := by
    have := vl_itL (vl_L (vl_nB (Γ := [some (.v (eLs eI l)), none, none]) (vl_cons (vl_V (i := 0) rfl) vl_nil) (v_sortI l))) _ s (Mt.refl _)
    rw [h] at this
    exact this
  have hc := eL_of (nComp_of (vs := [2]) hi (by rw [List.length_map]; exact hl) h2)
  refine runFn_of (o := .rt (.str w)) rfl ?_
  unfold g__law_word
  refine ret_ok ?_
  show (if 1 < 3 then (match eJoin (eC (.str "-")) _ [some (.v (eLs eI l)), none, none] s with
    | .ok (.str k) s => R.ofO ((dlook kvs20 k).map PyData.str) s
    | _ => .bad) else .bad) = _
  rw [if_pos (by decide)]
  have he : ∀ f : DL.Env → M PD, f [some (.v (eLs eI l)), none, none] s = .ok (.list (zs.map PyData.str)) s → eJoin (eC (.str "-")) f [some (.v (eLs eI l)), none, none] s = .ok (.str (Txt.join "-" zs)) s := fun f hf => by
    show (f [some (.v (eLs eI l)), none, none] s).bind _ = _
    rw [hf]
    show R.ofO (opJoin (.str "-") (.list (zs.map PyData.str))) s = _
    rw [hj]; rfl
  rw [he _ hc]
  dsimp only
  rw [h3]
  rfl
theorem t__law_word (l : List Int) : Fn eSt (m__law_word [eLs eI l]) (f__law_word l) := fun s => by
  unfold f__law_word
  by_cases h1 : isort l = [1, 1, 1]
  · rw [if_pos h1]
    exact word_at l s _ ["1", "1", "1"] _ h1 (by decide) (by rfl) (by rfl) (by decide)
  rw [if_neg h1]
  by_cases h2 : isort l = [1]
  · rw [if_pos h2]
    exact word_at l s _ ["1"] _ h2 (by decide) (by rfl) (by rfl) (by decide)
  rw [if_neg h2]
  by_cases h3 : isort l = []
  · rw [if_pos h3]
    exact word_at l s _ [] _ h3 (by decide) (by rfl) (by rfl) (by decide)
  rw [if_neg h3]
  by_cases h4 : isort l = [1, 2]
  · rw [if_pos h4]
    exact word_at l s _ ["1", "2"] _ h4 (by decide) (by rfl) (by rfl) (by decide)
  rw [if_neg h4]
  by_cases h5 : isort l = [3]
  · rw [if_pos h5]
    exact word_at l s _ ["3"] _ h5 (by decide) (by rfl) (by rfl) (by decide)
  rw [if_neg h5]
  exact trivial
end DL.TL
namespace DL.TL
open PySem PySem.Spec PyProof.Rows L2 LW
noncomputable def f__law_cubic_value (cubic : (Int × Int × Int × Int)) (x : Int) (y : Int) : T Int :=
  (T.ar [cubic.1, x, x, x, cubic.2.1, x, x, y, cubic.2.2.1, x, y, y, cubic.2.2.2, y, y, y] ((((((cubic.1 * x) * x) * x) + (((cubic.2.1 * x) * x) * y)) + (((cubic.2.2.1 * x) * y) * y)) + (((cubic.2.2.2 * y) * y) * y)))
theorem t__law_cubic_value (cubic : (Int × Int × Int × Int)) (x : Int) (y : Int) : Fn eI (m__law_cubic_value [(eT4 eI eI eI eI) cubic, eI x, eI y]) (f__law_cubic_value cubic x y) := by
  have h : Sg X0 [some (.v ((eT4 eI eI eI eI) cubic)), some (.v (eI x)), some (.v (eI y)), none, none, none, none] (Pf eI) g__law_cubic_value _ := (sg_v (Γ1 := [some (.v ((eT4 eI eI eI eI) cubic)), some (.v (eI x)), some (.v (eI y)), some (.v (eI cubic.1)), some (.v (eI cubic.2.1)), some (.v (eI cubic.2.2.1)), some (.v (eI cubic.2.2.2))]) (sv_asg (vl_V rfl) (tg_t (tgs_cons tg_n (tgs_cons tg_n (tgs_cons tg_n (tgs_cons tg_n tgs_nil)))))) (sg_unlv (sf_ret (ev_ar (AX.add (AX.add (AX.add (AX.mul (AX.mul (AX.mul (AX.at (eV 3) cubic.1) (AX.at (eV 1) x)) (AX.at (eV 1) x)) (AX.at (eV 1) x)) (AX.mul (AX.mul (AX.mul (AX.at (eV 4) cubic.2.1) (AX.at (eV 1) x)) (AX.at (eV 1) x)) (AX.at (eV 2) y))) (AX.mul (AX.mul (AX.mul (AX.at (eV 5) cubic.2.2.1) (AX.at (eV 1) x)) (AX.at (eV 2) y)) (AX.at (eV 2) y))) (AX.mul (AX.mul (AX.mul (AX.at (eV 6) cubic.2.2.2) (AX.at (eV 2) y)) (AX.at (eV 2) y)) (AX.at (eV 2) y))) 16 ⟨⟨⟨⟨⟨⟨(vl_V rfl), (vl_V rfl)⟩, (vl_V rfl)⟩, (vl_V rfl)⟩, ⟨⟨⟨(vl_V rfl), (vl_V rfl)⟩, (vl_V rfl)⟩, (vl_V rfl)⟩⟩, ⟨⟨⟨(vl_V rfl), (vl_V rfl)⟩, (vl_V rfl)⟩, (vl_V rfl)⟩⟩, ⟨⟨⟨(vl_V rfl), (vl_V rfl)⟩, (vl_V rfl)⟩, (vl_V rfl)⟩⟩ rfl rfl) inx0)))
  exact fn_ok (n := 3) (N := 7) (g := g__law_cubic_value) (ds := [(eT4 eI eI eI eI) cubic, eI x, eI y]) h
noncomputable def f__law_cubic_turned (cubic : (Int × Int × Int × Int)) (one : (Int × Int × Int × Int)) : T (Int × Int × Int × Int) :=
  ((T.ar [cubic.1, one.1, one.1, one.1, cubic.2.1, one.1, one.1, one.2.2.1, cubic.2.2.1, one.1, one.2.2.1, one.2.2.1, cubic.2.2.2, one.2.2.1, one.2.2.1, one.2.2.1] ((((((cubic.1 * one.1) * one.1) * one.1) + (((cubic.2.1 * one.1) * one.1) * one.2.2.1)) + (((cubic.2.2.1 * one.1) * one.2.2.1) * one.2.2.1)) + (((cubic.2.2.2 * one.2.2.1) * one.2.2.1) * one.2.2.1))) >>= fun first =>
  ((T.ar [cubic.1, one.1, one.1, one.2.1, cubic.2.1, one.1, one.1, one.2.2.2, one.1, one.2.1, one.2.2.1, cubic.2.2.1, one.2.2.1, one.2.2.1, one.2.1, one.1, one.2.2.1, one.2.2.2, cubic.2.2.2, one.2.2.1, one.2.2.1, one.2.2.2] (((((((3 * cubic.1) * one.1) * one.1) * one.2.1) + (cubic.2.1 * (((one.1 * one.1) * one.2.2.2) + (((2 * one.1) * one.2.1) * one.2.2.1)))) + (cubic.2.2.1 * (((one.2.2.1 * one.2.2.1) * one.2.1) + (((2 * one.1) * one.2.2.1) * one.2.2.2)))) + ((((3 * cubic.2.2.2) * one.2.2.1) * one.2.2.1) * one.2.2.2))) >>= fun second =>
  ((T.ar [cubic.1, one.1, one.2.1, one.2.1, cubic.2.1, one.2.1, one.2.1, one.2.2.1, one.1, one.2.1, one.2.2.2, cubic.2.2.1, one.2.2.2, one.2.2.2, one.1, one.2.1, one.2.2.1, one.2.2.2, cubic.2.2.2, one.2.2.1, one.2.2.2, one.2.2.2] (((((((3 * cubic.1) * one.1) * one.2.1) * one.2.1) + (cubic.2.1 * (((one.2.1 * one.2.1) * one.2.2.1) + (((2 * one.1) * one.2.1) * one.2.2.2)))) + (cubic.2.2.1 * (((one.2.2.2 * one.2.2.2) * one.1) + (((2 * one.2.1) * one.2.2.1) * one.2.2.2)))) + ((((3 * cubic.2.2.2) * one.2.2.1) * one.2.2.2) * one.2.2.2))) >>= fun third =>
  ((T.ar [cubic.1, one.2.1, one.2.1, one.2.1, cubic.2.1, one.2.1, one.2.1, one.2.2.2, cubic.2.2.1, one.2.1, one.2.2.2, one.2.2.2, cubic.2.2.2, one.2.2.2, one.2.2.2, one.2.2.2] ((((((cubic.1 * one.2.1) * one.2.1) * one.2.1) + (((cubic.2.1 * one.2.1) * one.2.1) * one.2.2.2)) + (((cubic.2.2.1 * one.2.1) * one.2.2.2) * one.2.2.2)) + (((cubic.2.2.2 * one.2.2.2) * one.2.2.2) * one.2.2.2))) >>= fun last =>
  (Pure.pure (first, second, third, last))))))
theorem t__law_cubic_turned (cubic : (Int × Int × Int × Int)) (one : (Int × Int × Int × Int)) : Fn (eT4 eI eI eI eI) (m__law_cubic_turned [(eT4 eI eI eI eI) cubic, (eT4 eI eI eI eI) one]) (f__law_cubic_turned cubic one) := by
  have h : Sg X0 [some (.v ((eT4 eI eI eI eI) cubic)), some (.v ((eT4 eI eI eI eI) one)), none, none, none, none, none, none, none, none, none, none, none, none] (Pf (eT4 eI eI eI eI)) g__law_cubic_turned _ := (sg_v (Γ1 := [some (.v ((eT4 eI eI eI eI) cubic)), some (.v ((eT4 eI eI eI eI) one)), some (.v (eI cubic.1)), some (.v (eI cubic.2.1)), some (.v (eI cubic.2.2.1)), some (.v (eI cubic.2.2.2)), none, none, none, none, none, none, none, none]) (sv_asg (vl_V rfl) (tg_t (tgs_cons tg_n (tgs_cons tg_n (tgs_cons tg_n (tgs_cons tg_n tgs_nil)))))) (sg_v (Γ1 := [some (.v ((eT4 eI eI eI eI) cubic)), some (.v ((eT4 eI eI eI eI) one)), some (.v (eI cubic.1)), some (.v (eI cubic.2.1)), some (.v (eI cubic.2.2.1)), some (.v (eI cubic.2.2.2)), some (.v (eI one.1)), some (.v (eI one.2.1)), some (.v (eI one.2.2.1)), some (.v (eI one.2.2.2)), none, none, none, none]) (sv_asg (vl_V rfl) (tg_t (tgs_cons tg_n (tgs_cons tg_n (tgs_cons tg_n (tgs_cons tg_n tgs_nil)))))) (sg_seq (Γ1 := fun first : Int => [some (.v ((eT4 eI eI eI eI) cubic)), some (.v ((eT4 eI eI eI eI) one)), some (.v (eI cubic.1)), some (.v (eI cubic.2.1)), some (.v (eI cubic.2.2.1)), some (.v (eI cubic.2.2.2)), some (.v (eI one.1)), some (.v (eI one.2.1)), some (.v (eI one.2.2.1)), some (.v (eI one.2.2.2)), some (.v (eI first)), none, none, none]) (s1_set (ev_ar (AX.add (AX.add (AX.add (AX.mul (AX.mul (AX.mul (AX.at (eV 2) cubic.1) (AX.at (eV 6) one.1)) (AX.at (eV 6) one.1)) (AX.at (eV 6) one.1)) (AX.mul (AX.mul (AX.mul (AX.at (eV 3) cubic.2.1) (AX.at (eV 6) one.1)) (AX.at (eV 6) one.1)) (AX.at (eV 8) one.2.2.1))) (AX.mul (AX.mul (AX.mul (AX.at (eV 4) cubic.2.2.1) (AX.at (eV 6) one.1)) (AX.at (eV 8) one.2.2.1)) (AX.at (eV 8) one.2.2.1))) (AX.mul (AX.mul (AX.mul (AX.at (eV 5) cubic.2.2.2) (AX.at (eV 8) one.2.2.1)) (AX.at (eV 8) one.2.2.1)) (AX.at (eV 8) one.2.2.1))) 16 ⟨⟨⟨⟨⟨⟨(vl_V rfl), (vl_V rfl)⟩, (vl_V rfl)⟩, (vl_V rfl)⟩, ⟨⟨⟨(vl_V rfl), (vl_V rfl)⟩, (vl_V rfl)⟩, (vl_V rfl)⟩⟩, ⟨⟨⟨(vl_V rfl), (vl_V rfl)⟩, (vl_V rfl)⟩, (vl_V rfl)⟩⟩, ⟨⟨⟨(vl_V rfl), (vl_V rfl)⟩, (vl_V rfl)⟩, (vl_V rfl)⟩⟩ rfl rfl) inx0) (fun first => (sg_seq (Γ1 := fun second : Int => [some (.v ((eT4 eI eI eI eI) cubic)), some (.v ((eT4 eI eI eI eI) one)), some (.v (eI cubic.1)), some (.v (eI cubic.2.1)), some (.v (eI cubic.2.2.1)), some (.v (eI cubic.2.2.2)), some (.v (eI one.1)), some (.v (eI one.2.1)), some (.v (eI one.2.2.1)), some (.v (eI one.2.2.2)), some (.v (eI first)), some (.v (eI second)), none, none]) (s1_set (ev_ar (AX.add (AX.add (AX.add (AX.mul (AX.mul (AX.mul (AX.mul (AX.ct 3) (AX.at (eV 2) cubic.1)) (AX.at (eV 6) one.1)) (AX.at (eV 6) one.1)) (AX.at (eV 7) one.2.1)) (AX.mul (AX.at (eV 3) cubic.2.1) (AX.add (AX.mul (AX.mul (AX.at (eV 6) one.1) (AX.at (eV 6) one.1)) (AX.at (eV 9) one.2.2.2)) (AX.mul (AX.mul (AX.mul (AX.ct 2) (AX.at (eV 6) one.1)) (AX.at (eV 7) one.2.1)) (AX.at (eV 8) one.2.2.1))))) (AX.mul (AX.at (eV 4) cubic.2.2.1) (AX.add (AX.mul (AX.mul (AX.at (eV 8) one.2.2.1) (AX.at (eV 8) one.2.2.1)) (AX.at (eV 7) one.2.1)) (AX.mul (AX.mul (AX.mul (AX.ct 2) (AX.at (eV 6) one.1)) (AX.at (eV 8) one.2.2.1)) (AX.at (eV 9) one.2.2.2))))) (AX.mul (AX.mul (AX.mul (AX.mul (AX.ct 3) (AX.at (eV 5) cubic.2.2.2)) (AX.at (eV 8) one.2.2.1)) (AX.at (eV 8) one.2.2.1)) (AX.at (eV 9) one.2.2.2))) 26 ⟨⟨⟨⟨⟨⟨⟨rfl, (vl_V rfl)⟩, (vl_V rfl)⟩, (vl_V rfl)⟩, (vl_V rfl)⟩, ⟨(vl_V rfl), ⟨⟨⟨(vl_V rfl), (vl_V rfl)⟩, (vl_V rfl)⟩, ⟨⟨⟨rfl, (vl_V rfl)⟩, (vl_V rfl)⟩, (vl_V rfl)⟩⟩⟩⟩, ⟨(vl_V rfl), ⟨⟨⟨(vl_V rfl), (vl_V rfl)⟩, (vl_V rfl)⟩, ⟨⟨⟨rfl, (vl_V rfl)⟩, (vl_V rfl)⟩, (vl_V rfl)⟩⟩⟩⟩, ⟨⟨⟨⟨rfl, (vl_V rfl)⟩, (vl_V rfl)⟩, (vl_V rfl)⟩, (vl_V rfl)⟩⟩ rfl rfl) inx0) (fun second => (sg_seq (Γ1 := fun third : Int => [some (.v ((eT4 eI eI eI eI) cubic)), some (.v ((eT4 eI eI eI eI) one)), some (.v (eI cubic.1)), some (.v (eI cubic.2.1)), some (.v (eI cubic.2.2.1)), some (.v (eI cubic.2.2.2)), some (.v (eI one.1)), some (.v (eI one.2.1)), some (.v (eI one.2.2.1)), some (.v (eI one.2.2.2)), some (.v (eI first)), some (.v (eI second)), some (.v (eI third)), none]) (s1_set (ev_ar (AX.add (AX.add (AX.add (AX.mul (AX.mul (AX.mul (AX.mul (AX.ct 3) (AX.at (eV 2) cubic.1)) (AX.at (eV 6) one.1)) (AX.at (eV 7) one.2.1)) (AX.at (eV 7) one.2.1)) (AX.mul (AX.at (eV 3) cubic.2.1) (AX.add (AX.mul (AX.mul (AX.at (eV 7) one.2.1) (AX.at (eV 7) one.2.1)) (AX.at (eV 8) one.2.2.1)) (AX.mul (AX.mul (AX.mul (AX.ct 2) (AX.at (eV 6) one.1)) (AX.at (eV 7) one.2.1)) (AX.at (eV 9) one.2.2.2))))) (AX.mul (AX.at (eV 4) cubic.2.2.1) (AX.add (AX.mul (AX.mul (AX.at (eV 9) one.2.2.2) (AX.at (eV 9) one.2.2.2)) (AX.at (eV 6) one.1)) (AX.mul (AX.mul (AX.mul (AX.ct 2) (AX.at (eV 7) one.2.1)) (AX.at (eV 8) one.2.2.1)) (AX.at (eV 9) one.2.2.2))))) (AX.mul (AX.mul (AX.mul (AX.mul (AX.ct 3) (AX.at (eV 5) cubic.2.2.2)) (AX.at (eV 8) one.2.2.1)) (AX.at (eV 9) one.2.2.2)) (AX.at (eV 9) one.2.2.2))) 26 ⟨⟨⟨⟨⟨⟨⟨rfl, (vl_V rfl)⟩, (vl_V rfl)⟩, (vl_V rfl)⟩, (vl_V rfl)⟩, ⟨(vl_V rfl), ⟨⟨⟨(vl_V rfl), (vl_V rfl)⟩, (vl_V rfl)⟩, ⟨⟨⟨rfl, (vl_V rfl)⟩, (vl_V rfl)⟩, (vl_V rfl)⟩⟩⟩⟩, ⟨(vl_V rfl), ⟨⟨⟨(vl_V rfl), (vl_V rfl)⟩, (vl_V rfl)⟩, ⟨⟨⟨rfl, (vl_V rfl)⟩, (vl_V rfl)⟩, (vl_V rfl)⟩⟩⟩⟩, ⟨⟨⟨⟨rfl, (vl_V rfl)⟩, (vl_V rfl)⟩, (vl_V rfl)⟩, (vl_V rfl)⟩⟩ rfl rfl) inx0) (fun third => (sg_seq (Γ1 := fun last : Int => [some (.v ((eT4 eI eI eI eI) cubic)), some (.v ((eT4 eI eI eI eI) one)), some (.v (eI cubic.1)), some (.v (eI cubic.2.1)), some (.v (eI cubic.2.2.1)), some (.v (eI cubic.2.2.2)), some (.v (eI one.1)), some (.v (eI one.2.1)), some (.v (eI one.2.2.1)), some (.v (eI one.2.2.2)), some (.v (eI first)), some (.v (eI second)), some (.v (eI third)), some (.v (eI last))]) (s1_set (ev_ar (AX.add (AX.add (AX.add (AX.mul (AX.mul (AX.mul (AX.at (eV 2) cubic.1) (AX.at (eV 7) one.2.1)) (AX.at (eV 7) one.2.1)) (AX.at (eV 7) one.2.1)) (AX.mul (AX.mul (AX.mul (AX.at (eV 3) cubic.2.1) (AX.at (eV 7) one.2.1)) (AX.at (eV 7) one.2.1)) (AX.at (eV 9) one.2.2.2))) (AX.mul (AX.mul (AX.mul (AX.at (eV 4) cubic.2.2.1) (AX.at (eV 7) one.2.1)) (AX.at (eV 9) one.2.2.2)) (AX.at (eV 9) one.2.2.2))) (AX.mul (AX.mul (AX.mul (AX.at (eV 5) cubic.2.2.2) (AX.at (eV 9) one.2.2.2)) (AX.at (eV 9) one.2.2.2)) (AX.at (eV 9) one.2.2.2))) 16 ⟨⟨⟨⟨⟨⟨(vl_V rfl), (vl_V rfl)⟩, (vl_V rfl)⟩, (vl_V rfl)⟩, ⟨⟨⟨(vl_V rfl), (vl_V rfl)⟩, (vl_V rfl)⟩, (vl_V rfl)⟩⟩, ⟨⟨⟨(vl_V rfl), (vl_V rfl)⟩, (vl_V rfl)⟩, (vl_V rfl)⟩⟩, ⟨⟨⟨(vl_V rfl), (vl_V rfl)⟩, (vl_V rfl)⟩, (vl_V rfl)⟩⟩ rfl rfl) inx0) (fun last => (sg_unlv (sf_retv (en := (eT4 eI eI eI eI)) (v := (first, second, third, last)) (vl_tup (vl_cons (vl_V rfl) (vl_cons (vl_V rfl) (vl_cons (vl_V rfl) (vl_cons (vl_V rfl) vl_nil)))) rfl)))))))))))))
  exact fn_ok (n := 2) (N := 14) (g := g__law_cubic_turned) (ds := [(eT4 eI eI eI eI) cubic, (eT4 eI eI eI eI) one]) h
noncomputable def f__law_counts (cubic : (Int × Int × Int × Int)) (prime : Int) : T (List ((Int × Int) × Int × Bool)) :=
  (let found : (List ((Int × Int) × Int × Bool)) := ([] : List ((Int × Int) × Int × Bool))
  (((((((T.rng1 prime)) >>= fun l => T.comp l (fun _ => Pure.pure true) (fun x : Int => (Pure.pure (x, (1 : Int))))) >>= fun x1 => (T.cat x1 [((1 : Int), (0 : Int))])) >>= fun x2 => (T.sortP x2)) >>= fun l1 => T.fo (fun (found1 : (List ((Int × Int) × Int × Bool))) (p : (Int × Int)) => (((((f__law_cubic_value cubic p.1 p.2) >>= fun x3 => (Pure.pure x3)) >>= fun x4 => (T.mod x4 prime)) >>= fun x5 => (Pure.pure (decide (x5 = (0 : Int))))) >>= fun c1 => if c1 = true then (((T.ix [((1 : Int), (0 : Int), (0 : Int), (1 : Int)), (p.1, (-1 : Int), (1 : Int), (0 : Int))] p.2) >>= fun x6 => f__law_cubic_turned cubic x6) >>= fun p1 =>
  ((((T.mod p1.2.1 prime) >>= fun x7 => (Pure.pure (decide (x7 = (0 : Int))))) >>= fun c => if c = true then (((((T.mod p1.2.2.1 prime) >>= fun x8 => (Pure.pure (decide (x8 = (0 : Int))))) >>= fun x9 => (Pure.pure (if x9 = true then (1 : Int) else 0))) >>= fun y => (Pure.pure ((2 : Int) + y))) >>= fun count1 => Pure.pure count1)
  else (Pure.pure (1 : Int))) >>= fun count : Int =>
  ((((((T.mod p1.2.1 prime) >>= fun x10 => (Pure.pure (decide (x10 = (0 : Int))))) >>= fun b => if b = true then (((T.ar [prime, prime] (prime * prime)) >>= fun y1 => (T.mod p1.1 y1)) >>= fun x11 => (Pure.pure (decide (x11 = (0 : Int))))) else Pure.pure false) >>= fun x12 => (Pure.pure ((p.1, p.2), count, x12))) >>= fun x13 => T.app found1 x13) >>= fun found2 => Pure.pure found2)))
  else (Pure.pure found1))) l1 found) >>= fun found1 : (List ((Int × Int) × Int × Bool)) =>
  (Pure.pure found1)))
theorem t__law_counts (cubic : (Int × Int × Int × Int)) (prime : Int) : Fn (eLs (eF3 (eT2 eI eI) eI eBo)) (m__law_counts [(eT4 eI eI eI eI) cubic, eI prime]) (f__law_counts cubic prime) := by
  have h : Sg X0 [some (.v ((eT4 eI eI eI eI) cubic)), some (.v (eI prime)), none, none, none, none, none, none, none, none] (Pf (eLs (eF3 (eT2 eI eI) eI eBo))) g__law_counts _ := (sg_let (Γ1 := fun found : (List ((Int × Int) × Int × Bool)) => [some (.v ((eT4 eI eI eI eI) cubic)), some (.v (eI prime)), some (.o (found.map (eF3 (eT2 eI eI) eI eBo))), none, none, none, none, none, none, none]) (a := ([] : List ((Int × Int) × Int × Bool))) (sv_new (vl_lst (ds := []) vl_nil rfl)) (fun found => (sg_seq (Γ1 := fun found1 : (List ((Int × Int) × Int × Bool)) => [some (.v ((eT4 eI eI eI eI) cubic)), some (.v (eI prime)), some (.o (found1.map (eF3 (eT2 eI eI) eI eBo))), none, none, none, none, none, none, none]) (s_forE (G := (fun found1 : (List ((Int × Int) × Int × Bool)) => [some (.v ((eT4 eI eI eI eI) cubic)), some (.v (eI prime)), some (.o (found1.map (eF3 (eT2 eI eI) eI eBo))), none, none, none, none, none, none, none])) (Γ1 := (fun (found1 : (List ((Int × Int) × Int × Bool))) (p : (Int × Int)) => [some (.v ((eT4 eI eI eI eI) cubic)), some (.v (eI prime)), some (.o (found1.map (eF3 (eT2 eI eI) eI eBo))), some (.v (eI p.1)), some (.v (eI p.2)), none, none, none, none, none])) (ea := (eT2 eI eI)) (x := found) (ev_itL (ev_L (ev_nB (g := List.map (eT2 eI eI)) (ca_e (ev_e2v (g := (eLs (eT2 eI eI))) (ev_L (ev_comp (Γ' := (fun x : Int => [some (.v ((eT4 eI eI eI eI) cubic)), some (.v (eI prime)), some (.o (found.map (eF3 (eT2 eI eI) eI eBo))), some (.v (eI x)), none, none, none, none, none, none])) (eb := (eT2 eI eI)) (ev_rng (g := List.map eI) (ca_v (vl_V rfl) (ca_nil (rng1_map (α := Int) prime)))) (fun x => tg_n) (fun _ => ev_yes) (fun x => (Vl.ev (g := (eT2 eI eI)) (a := (x, (1 : Int))) (vl_tup (vl_cons (vl_V rfl) (vl_cons (vl_C _) vl_nil)) rfl))))) (vl_L (vl_lst (ds := [(eT2 eI eI) ((1 : Int), (0 : Int))]) (vl_cons (vl_tup (vl_cons (vl_C _) (vl_cons (vl_C _) vl_nil)) rfl) vl_nil) rfl)) (fun x1 => (o_cat (en := (eT2 eI eI)) x1 [((1 : Int), (0 : Int))]))) fun x2 => (ca_nil (o_sortP x2)))))) inx0 (And.intro rfl (And.intro rfl (And.intro rfl trivial))) (fun found1 p => (tg_t (tgs_cons tg_n (tgs_cons tg_n tgs_nil)))) (fun found1 p => (sg_if (ev_tV (ev_e2v (g := eBo) (ev_e2v (g := eI) (ev_B (g := eI) (ca_e (ev_callv (vl_cons (vl_V rfl) (vl_cons (vl_V rfl) (vl_cons (vl_V rfl) vl_nil))) (t__law_cubic_value cubic p.1 p.2)) fun x3 => (ca_nil (b_of (g := eI) (v := x3) (fun _ => rfl))))) (vl_V rfl) (fun x4 => (o_mod _ _))) (vl_C _) (fun x5 => (o2_of (g := eBo) (v := (decide (x5 = (0 : Int)))) (fun _ => eq_k kI x5 (0 : Int)))))) inx0 (sg_seq (Γ1 := fun p1 : (Int × Int × Int × Int) => [some (.v ((eT4 eI eI eI eI) cubic)), some (.v (eI prime)), some (.o (found1.map (eF3 (eT2 eI eI) eI eBo))), some (.v (eI p.1)), some (.v (eI p.2)), some (.v (eI p1.1)), some (.v (eI p1.2.1)), some (.v (eI p1.2.2.1)), some (.v (eI p1.2.2.2)), none]) (s1_asg (ev_call (g := (eT4 eI eI eI eI)) (ca_v (vl_V rfl) (ca_e (ev_e2vv (g := (eT4 eI eI eI eI)) (vl_L (vl_lst (ds := [(eT4 eI eI eI eI) ((1 : Int), (0 : Int), (0 : Int), (1 : Int)), (eT4 eI eI eI eI) (p.1, (-1 : Int), (1 : Int), (0 : Int))]) (vl_cons (vl_tup (vl_cons (vl_C _) (vl_cons (vl_C _) (vl_cons (vl_C _) (vl_cons (vl_C _) vl_nil)))) rfl) (vl_cons (vl_tup (vl_cons (vl_V rfl) (vl_cons (vl_e1 (vl_C _) (fun _ => rfl)) (vl_cons (vl_C _) (vl_cons (vl_C _) vl_nil)))) rfl) vl_nil)) rfl)) (vl_V rfl) (o_ixL (en := (eT4 eI eI eI eI)) [((1 : Int), (0 : Int), (0 : Int), (1 : Int)), (p.1, (-1 : Int), (1 : Int), (0 : Int))] p.2)) fun x6 => (ca_nil (call_k (t__law_cubic_turned cubic x6)))))) (fun p1 => (tg_t (tgs_cons tg_n (tgs_cons tg_n (tgs_cons tg_n (tgs_cons tg_n tgs_nil)))))) inx0) (fun p1 => (sg_v (Γ1 := [some (.v ((eT4 eI eI eI eI) cubic)), some (.v (eI prime)), some (.o (found1.map (eF3 (eT2 eI eI) eI eBo))), some (.v (eI p.1)), some (.v (eI p.2)), some (.v (eI p1.1)), some (.v (eI p1.2.1)), some (.v (eI p1.2.2.1)), some (.v (eI p1.2.2.2)), some (.v (eI (1 : Int)))]) (sv_set (vl_C _)) (sg_seq (Γ1 := fun count : Int => [some (.v ((eT4 eI eI eI eI) cubic)), some (.v (eI prime)), some (.o (found1.map (eF3 (eT2 eI eI) eI eBo))), some (.v (eI p.1)), some (.v (eI p.2)), some (.v (eI p1.1)), some (.v (eI p1.2.1)), some (.v (eI p1.2.2.1)), some (.v (eI p1.2.2.2)), some (.v (eI count))]) (sg_if (ev_tV (ev_e2v (g := eBo) (ev_e2vv (g := eI) (vl_B (vl_cons (vl_V rfl) vl_nil) (fun _ => rfl)) (vl_V rfl) (o_mod _ _)) (vl_C _) (fun x7 => (o2_of (g := eBo) (v := (decide (x7 = (0 : Int)))) (fun _ => eq_k kI x7 (0 : Int)))))) inx0 (sn_e (G := (fun count : Int => [some (.v ((eT4 eI eI eI eI) cubic)), some (.v (eI prime)), some (.o (found1.map (eF3 (eT2 eI eI) eI eBo))), some (.v (eI p.1)), some (.v (eI p.2)), some (.v (eI p1.1)), some (.v (eI p1.2.1)), some (.v (eI p1.2.2.1)), some (.v (eI p1.2.2.2)), some (.v (eI count))])) (Γ1 := fun count1 : Int => [some (.v ((eT4 eI eI eI eI) cubic)), some (.v (eI prime)), some (.o (found1.map (eF3 (eT2 eI eI) eI eBo))), some (.v (eI p.1)), some (.v (eI p.2)), some (.v (eI p1.1)), some (.v (eI p1.2.1)), some (.v (eI p1.2.2.1)), some (.v (eI p1.2.2.2)), some (.v (eI count1))]) (k := fun count1 => count1) (s1_set (ev_ve2 (g := eI) (vl_C _) (ev_B (g := eI) (ca_e (ev_e2v (g := eBo) (ev_e2vv (g := eI) (vl_B (vl_cons (vl_V rfl) vl_nil) (fun _ => rfl)) (vl_V rfl) (o_mod _ _)) (vl_C _) (fun x8 => (o2_of (g := eBo) (v := (decide (x8 = (0 : Int)))) (fun _ => eq_k kI x8 (0 : Int))))) fun x9 => (ca_nil (b_of (g := eI) (v := (if x9 = true then (1 : Int) else 0)) (v_intB x9))))) (fun y => (o2_of (g := eI) (v := ((2 : Int) + y)) (fun _ => rfl)))) inx0) (fun count1 => (And.intro rfl (And.intro rfl (And.intro rfl (And.intro rfl (And.intro rfl (And.intro rfl (And.intro rfl (And.intro rfl (And.intro rfl (And.intro rfl trivial)))))))))))) (sn_v (G := (fun count : Int => [some (.v ((eT4 eI eI eI eI) cubic)), some (.v (eI prime)), some (.o (found1.map (eF3 (eT2 eI eI) eI eBo))), some (.v (eI p.1)), some (.v (eI p.2)), some (.v (eI p1.1)), some (.v (eI p1.2.1)), some (.v (eI p1.2.2.1)), some (.v (eI p1.2.2.2)), some (.v (eI count))])) (x := (1 : Int)) sv_skip (And.intro rfl (And.intro rfl (And.intro rfl (And.intro rfl (And.intro rfl (And.intro rfl (And.intro rfl (And.intro rfl (And.intro rfl (And.intro rfl trivial)))))))))))) (fun count => (sn_e (G := (fun found1 : (List ((Int × Int) × Int × Bool)) => [some (.v ((eT4 eI eI eI eI) cubic)), some (.v (eI prime)), some (.o (found1.map (eF3 (eT2 eI eI) eI eBo))), none, none, none, none, none, none, none])) (Γ1 := fun found2 : (List ((Int × Int) × Int × Bool)) => [some (.v ((eT4 eI eI eI eI) cubic)), some (.v (eI prime)), some (.o (found2.map (eF3 (eT2 eI eI) eI eBo))), some (.v (eI p.1)), some (.v (eI p.2)), some (.v (eI p1.1)), some (.v (eI p1.2.1)), some (.v (eI p1.2.2.1)), some (.v (eI p1.2.2.2)), some (.v (eI count))]) (k := fun found2 => found2) (s1_app (ea := (eF3 (eT2 eI eI) eI eBo)) (l := found1) rfl (ev_L (ev_lst (g := (fun p : ((Int × Int) × Int × Bool) => [(eT2 eI eI) p.1, eI p.2.1, eBo p.2.2])) (ca_v (vl_tup (vl_cons (vl_V rfl) (vl_cons (vl_V rfl) vl_nil)) rfl) (ca_v (vl_V rfl) (ca_e (ev_eAnd (ev_e2v (g := eBo) (ev_e2vv (g := eI) (vl_B (vl_cons (vl_V rfl) vl_nil) (fun _ => rfl)) (vl_V rfl) (o_mod _ _)) (vl_C _) (fun x10 => (o2_of (g := eBo) (v := (decide (x10 = (0 : Int)))) (fun _ => eq_k kI x10 (0 : Int))))) (ev_e2v (g := eBo) (ev_ve2 (g := eI) (vl_B (vl_cons (vl_V rfl) vl_nil) (fun _ => rfl)) (ev_ar (AX.mul (AX.at (eV 1) prime) (AX.at (eV 1) prime)) 2 ⟨(vl_V rfl), (vl_V rfl)⟩ rfl rfl) (fun y1 => (o_mod _ _))) (vl_C _) (fun x11 => (o2_of (g := eBo) (v := (decide (x11 = (0 : Int)))) (fun _ => eq_k kI x11 (0 : Int)))))) fun x12 => (ca_nil (lst_k (g := (fun p : ((Int × Int) × Int × Bool) => [(eT2 eI eI) p.1, eI p.2.1, eBo p.2.2])) (v := ((p.1, p.2), count, x12)) rfl))))))) inx0) (fun found2 => (And.intro rfl (And.intro rfl (And.intro rfl trivial)))))))))) (sn_v (G := (fun found1 : (List ((Int × Int) × Int × Bool)) => [some (.v ((eT4 eI eI eI eI) cubic)), some (.v (eI prime)), some (.o (found1.map (eF3 (eT2 eI eI) eI eBo))), none, none, none, none, none, none, none])) (x := found1) sv_skip (And.intro rfl (And.intro rfl (And.intro rfl trivial))))))) (fun found1 => (sg_frz rfl (sg_unlv (sf_retv (en := (eLs (eF3 (eT2 eI eI) eI eBo))) (v := found1) (vl_V rfl))))))))
  exact fn_ok (n := 2) (N := 10) (g := g__law_counts) (ds := [(eT4 eI eI eI eI) cubic, eI prime]) h
noncomputable def f_factorization (number : Int) : T (List (Int × Int)) :=
  (if (decide ((1000000000000 : Int) < number)) = true then (T.ex "TooLarge")
  else (let found : (List (Int × Int)) := ([] : List (Int × Int))
  ((T.wh (fun z : (Int × (List (Int × Int)) × Int) => ((T.ar [z.2.2, z.2.2] (z.2.2 * z.2.2)) >>= fun x => (Pure.pure (decide (x ≤ z.1))))) (fun z : (Int × (List (Int × Int)) × Int) => ((T.wh (fun z1 : (Int × Int) => ((T.mod z1.1 z.2.2) >>= fun x1 => (Pure.pure (decide (x1 = (0 : Int)))))) (fun z1 : (Int × Int) => ((T.divP z1.1 z.2.2) >>= fun number1 =>
  (Pure.pure (number1, (z1.2 + (1 : Int)))))) (z.1, (0 : Int))) >>= fun z1 : (Int × Int) =>
  ((if (decide ((0 : Int) < z1.2)) = true then ((T.app z.2.1 (z.2.2, z1.2)) >>= fun found2 => Pure.pure found2)
  else (Pure.pure z.2.1)) >>= fun found1 : (List (Int × Int)) =>
  (Pure.pure (z1.1, found1, (z.2.2 + (if (decide (z.2.2 = (2 : Int))) = true then (1 : Int) else (2 : Int)))))))) (number, found, (2 : Int))) >>= fun z : (Int × (List (Int × Int)) × Int) =>
  ((if (decide ((1 : Int) < z.1)) = true then ((T.app z.2.1 (z.1, (1 : Int))) >>= fun found4 => Pure.pure found4)
  else (Pure.pure z.2.1)) >>= fun found3 : (List (Int × Int)) =>
  (Pure.pure found3)))))
theorem t_factorization (number : Int) : Fn (eVT (eT2 eI eI)) (m_factorization [eI number]) (f_factorization number) := by
  have h : Sg X0 [some (.v (eI number)), none, none, none] (Pf (eVT (eT2 eI eI))) g_factorization _ := (sg_ifv_seq (vl_tV (vl_e2 (vl_V rfl) (vl_C _) (fun _ => rfl))) (Sg.lvseq (sg_raise inx0)) (sg_skip_seq (sg_let (Γ1 := fun found : (List (Int × Int)) => [some (.v (eI number)), some (.o (found.map (eT2 eI eI))), none, none]) (a := ([] : List (Int × Int))) (sv_new (vl_lst (ds := []) vl_nil rfl)) (fun found => (sg_v (Γ1 := [some (.v (eI number)), some (.o (found.map (eT2 eI eI))), some (.v (eI (2 : Int))), none]) (sv_set (vl_C _)) (sg_seq (Γ1 := fun z : (Int × (List (Int × Int)) × Int) => [some (.v (eI z.1)), some (.o (z.2.1.map (eT2 eI eI))), some (.v (eI z.2.2)), none]) (s_while (G := (fun z : (Int × (List (Int × Int)) × Int) => [some (.v (eI z.1)), some (.o (z.2.1.map (eT2 eI eI))), some (.v (eI z.2.2)), none])) (x := (number, found, (2 : Int))) (And.intro rfl (And.intro rfl (And.intro rfl trivial))) (fun z => (ev_tV (ev_e2v (g := eBo) (ev_ar (AX.mul (AX.at (eV 2) z.2.2) (AX.at (eV 2) z.2.2)) 2 ⟨(vl_V rfl), (vl_V rfl)⟩ rfl rfl) (vl_V rfl) (fun x => (o2_of (g := eBo) (v := (decide (x ≤ z.1))) (fun _ => rfl)))))) (fun _ => inx0) (fun z => (sg_v (Γ1 := [some (.v (eI z.1)), some (.o (z.2.1.map (eT2 eI eI))), some (.v (eI z.2.2)), some (.v (eI (0 : Int)))]) (sv_set (vl_C _)) (sg_seq (Γ1 := fun z1 : (Int × Int) => [some (.v (eI z1.1)), some (.o (z.2.1.map (eT2 eI eI))), some (.v (eI z.2.2)), some (.v (eI z1.2))]) (s_while (G := (fun z1 : (Int × Int) => [some (.v (eI z1.1)), some (.o (z.2.1.map (eT2 eI eI))), some (.v (eI z.2.2)), some (.v (eI z1.2))])) (x := (z.1, (0 : Int))) (And.intro rfl (And.intro rfl (And.intro rfl (And.intro rfl trivial)))) (fun z1 => (ev_tV (ev_e2v (g := eBo) (ev_e2vv (g := eI) (vl_V rfl) (vl_V rfl) (o_mod _ _)) (vl_C _) (fun x1 => (o2_of (g := eBo) (v := (decide (x1 = (0 : Int)))) (fun _ => eq_k kI x1 (0 : Int))))))) (fun _ => inx0) (fun z1 => (sg_seq (Γ1 := fun number1 : Int => [some (.v (eI number1)), some (.o (z.2.1.map (eT2 eI eI))), some (.v (eI z.2.2)), some (.v (eI z1.2))]) (s1_augv (g1 := eI) rfl (vl_V rfl) (o_divP _ _) inx0) (fun number1 => (sn_v (G := (fun z1 : (Int × Int) => [some (.v (eI z1.1)), some (.o (z.2.1.map (eT2 eI eI))), some (.v (eI z.2.2)), some (.v (eI z1.2))])) (x := (number1, (z1.2 + (1 : Int)))) (sv_aug rfl (vl_C _) (fun _ => rfl)) (And.intro rfl (And.intro rfl (And.intro rfl (And.intro rfl trivial))))))))) (fun z1 => (sg_seq (Γ1 := fun found1 : (List (Int × Int)) => [some (.v (eI z1.1)), some (.o (found1.map (eT2 eI eI))), some (.v (eI z.2.2)), some (.v (eI z1.2))]) (sg_ifv (vl_tV (vl_e2 (vl_V rfl) (vl_C _) (fun _ => rfl))) (sn_e (G := (fun found1 : (List (Int × Int)) => [some (.v (eI z1.1)), some (.o (found1.map (eT2 eI eI))), some (.v (eI z.2.2)), some (.v (eI z1.2))])) (Γ1 := fun found2 : (List (Int × Int)) => [some (.v (eI z1.1)), some (.o (found2.map (eT2 eI eI))), some (.v (eI z.2.2)), some (.v (eI z1.2))]) (k := fun found2 => found2) (s1_appv (ea := (eT2 eI eI)) (l := z.2.1) (a := (z.2.2, z1.2)) rfl (vl_tup (vl_cons (vl_V rfl) (vl_cons (vl_V rfl) vl_nil)) rfl) inx0) (fun found2 => (And.intro rfl (And.intro rfl (And.intro rfl (And.intro rfl trivial)))))) (sn_v (G := (fun found1 : (List (Int × Int)) => [some (.v (eI z1.1)), some (.o (found1.map (eT2 eI eI))), some (.v (eI z.2.2)), some (.v (eI z1.2))])) (x := z.2.1) sv_skip (And.intro rfl (And.intro rfl (And.intro rfl (And.intro rfl trivial)))))) (fun found1 => (sn_v (G := (fun z : (Int × (List (Int × Int)) × Int) => [some (.v (eI z.1)), some (.o (z.2.1.map (eT2 eI eI))), some (.v (eI z.2.2)), none])) (x := (z1.1, found1, (z.2.2 + (if (decide (z.2.2 = (2 : Int))) = true then (1 : Int) else (2 : Int))))) (sv_aug rfl (vl_eIf (g := eI) (vl_tV (vl_e2 (vl_V rfl) (vl_C _) (fun _ => eq_k kI z.2.2 (2 : Int)))) (vl_C _) (vl_C _)) (fun _ => rfl)) (And.intro rfl (And.intro rfl (And.intro rfl trivial))))))))))) (fun z => (sg_seq (Γ1 := fun found3 : (List (Int × Int)) => [some (.v (eI z.1)), some (.o (found3.map (eT2 eI eI))), some (.v (eI z.2.2)), none]) (sg_ifv (vl_tV (vl_e2 (vl_V rfl) (vl_C _) (fun _ => rfl))) (sn_e (G := (fun found3 : (List (Int × Int)) => [some (.v (eI z.1)), some (.o (found3.map (eT2 eI eI))), some (.v (eI z.2.2)), none])) (Γ1 := fun found4 : (List (Int × Int)) => [some (.v (eI z.1)), some (.o (found4.map (eT2 eI eI))), some (.v (eI z.2.2)), none]) (k := fun found4 => found4) (s1_appv (ea := (eT2 eI eI)) (l := z.2.1) (a := (z.1, (1 : Int))) rfl (vl_tup (vl_cons (vl_V rfl) (vl_cons (vl_C _) vl_nil)) rfl) inx0) (fun found4 => (And.intro rfl (And.intro rfl (And.intro rfl trivial))))) (sn_v (G := (fun found3 : (List (Int × Int)) => [some (.v (eI z.1)), some (.o (found3.map (eT2 eI eI))), some (.v (eI z.2.2)), none])) (x := z.2.1) sv_skip (And.intro rfl (And.intro rfl (And.intro rfl trivial))))) (fun found3 => (sg_unlv (sf_retv (en := (eVT (eT2 eI eI))) (v := found3) (vl_B (vl_cons (vl_Po rfl) vl_nil) (v_tupL (en := (eT2 eI eI)) found3)))))))))))))
  exact fn_ok (n := 1) (N := 4) (g := g_factorization) (ds := [eI number]) h
noncomputable def f_is_prime (number : Int) : T Bool :=
  (if (decide ((1 : Int) < number)) = true then ((f_factorization number) >>= fun x => (Pure.pure (decide (x = [(number, (1 : Int))])))) else Pure.pure false)
theorem t_is_prime (number : Int) : Fn eBo (m_is_prime [eI number]) (f_is_prime number) := by
  have h : Sg X0 [some (.v (eI number))] (Pf eBo) g_is_prime _ := (sg_unlv (sf_ret (ev_eAndv (vl_e2 (vl_V rfl) (vl_C _) (fun _ => rfl)) (ev_e2v (g := eBo) (ev_callv (vl_cons (vl_V rfl) vl_nil) (t_factorization number)) (vl_tup (vl_cons (vl_tup (vl_cons (vl_V rfl) (vl_cons (vl_C _) vl_nil)) rfl) vl_nil) rfl) (fun x => (o2_of (g := eBo) (v := (decide (x = [(number, (1 : Int))]))) (fun _ => eq_k (kVT (kT2 kI kI)) x [(number, (1 : Int))]))))) inx0))
  exact fn_ok (n := 1) (N := 1) (g := g_is_prime) (ds := [eI number]) h
noncomputable def f_cubic_value (cubic : (Int × Int × Int × Int)) (x : Int) (y : Int) : T Int :=
  (T.ar [cubic.1, x, x, x, cubic.2.1, x, x, y, cubic.2.2.1, x, y, y, cubic.2.2.2, y, y, y] ((((((cubic.1 * x) * x) * x) + (((cubic.2.1 * x) * x) * y)) + (((cubic.2.2.1 * x) * y) * y)) + (((cubic.2.2.2 * y) * y) * y)))
theorem t_cubic_value (cubic : (Int × Int × Int × Int)) (x : Int) (y : Int) : Fn eI (m_cubic_value [(eT4 eI eI eI eI) cubic, eI x, eI y]) (f_cubic_value cubic x y) := by
  have h : Sg X0 [some (.v ((eT4 eI eI eI eI) cubic)), some (.v (eI x)), some (.v (eI y)), none, none, none, none] (Pf eI) g_cubic_value _ := (sg_v (Γ1 := [some (.v ((eT4 eI eI eI eI) cubic)), some (.v (eI x)), some (.v (eI y)), some (.v (eI cubic.1)), some (.v (eI cubic.2.1)), some (.v (eI cubic.2.2.1)), some (.v (eI cubic.2.2.2))]) (sv_asg (vl_V rfl) (tg_t (tgs_cons tg_n (tgs_cons tg_n (tgs_cons tg_n (tgs_cons tg_n tgs_nil)))))) (sg_unlv (sf_ret (ev_ar (AX.add (AX.add (AX.add (AX.mul (AX.mul (AX.mul (AX.at (eV 3) cubic.1) (AX.at (eV 1) x)) (AX.at (eV 1) x)) (AX.at (eV 1) x)) (AX.mul (AX.mul (AX.mul (AX.at (eV 4) cubic.2.1) (AX.at (eV 1) x)) (AX.at (eV 1) x)) (AX.at (eV 2) y))) (AX.mul (AX.mul (AX.mul (AX.at (eV 5) cubic.2.2.1) (AX.at (eV 1) x)) (AX.at (eV 2) y)) (AX.at (eV 2) y))) (AX.mul (AX.mul (AX.mul (AX.at (eV 6) cubic.2.2.2) (AX.at (eV 2) y)) (AX.at (eV 2) y)) (AX.at (eV 2) y))) 16 ⟨⟨⟨⟨⟨⟨(vl_V rfl), (vl_V rfl)⟩, (vl_V rfl)⟩, (vl_V rfl)⟩, ⟨⟨⟨(vl_V rfl), (vl_V rfl)⟩, (vl_V rfl)⟩, (vl_V rfl)⟩⟩, ⟨⟨⟨(vl_V rfl), (vl_V rfl)⟩, (vl_V rfl)⟩, (vl_V rfl)⟩⟩, ⟨⟨⟨(vl_V rfl), (vl_V rfl)⟩, (vl_V rfl)⟩, (vl_V rfl)⟩⟩ rfl rfl) inx0)))
  exact fn_ok (n := 3) (N := 7) (g := g_cubic_value) (ds := [(eT4 eI eI eI eI) cubic, eI x, eI y]) h
noncomputable def f_roots_modulo_prime (cubic : (Int × Int × Int × Int)) (prime : Int) : T (List (Int × Int)) :=
  (((f_is_prime prime) >>= fun b => Pure.pure (!b)) >>= fun c1 => if c1 = true then (T.ex "NotPossible")
  else (if (decide ((400 : Int) < prime)) = true then (T.ex "TooLarge")
  else ((((T.rng1 prime)) >>= fun l => T.comp l (fun x : Int => (((f_cubic_value cubic x (1 : Int)) >>= fun x1 => (T.mod x1 prime)) >>= fun x2 => (Pure.pure (decide (x2 = (0 : Int)))))) (fun x : Int => (Pure.pure (x, (1 : Int))))) >>= fun found =>
  ((((T.mod cubic.1 prime) >>= fun x3 => (Pure.pure (decide (x3 = (0 : Int))))) >>= fun c => if c = true then ((T.app found ((1 : Int), (0 : Int))) >>= fun found2 => Pure.pure found2)
  else (Pure.pure found)) >>= fun found1 : (List (Int × Int)) =>
  (T.sortP found1)))))
theorem t_roots_modulo_prime (cubic : (Int × Int × Int × Int)) (prime : Int) : Fn (eLs (eT2 eI eI)) (m_roots_modulo_prime [(eT4 eI eI eI eI) cubic, eI prime]) (f_roots_modulo_prime cubic prime) := by
  have h : Sg X0 [some (.v ((eT4 eI eI eI eI) cubic)), some (.v (eI prime)), none, none] (Pf (eLs (eT2 eI eI))) g_roots_modulo_prime _ := (sg_if_seq (ev_not (ev_tV (ev_callv (vl_cons (vl_V rfl) vl_nil) (t_is_prime prime)))) inx0 (Sg.lvseq (sg_raise inx0)) (sg_skip_seq (sg_ifv_seq (vl_tV (vl_e2 (vl_V rfl) (vl_C _) (fun _ => rfl))) (Sg.lvseq (sg_raise inx0)) (sg_skip_seq (sg_seq (Γ1 := fun found : (List (Int × Int)) => [some (.v ((eT4 eI eI eI eI) cubic)), some (.v (eI prime)), some (.o (found.map (eT2 eI eI))), none]) (s1_new (ev_comp (Γ' := (fun x : Int => [some (.v ((eT4 eI eI eI eI) cubic)), some (.v (eI prime)), none, some (.v (eI x))])) (eb := (eT2 eI eI)) (ev_rng (g := List.map eI) (ca_v (vl_V rfl) (ca_nil (rng1_map (α := Int) prime)))) (fun x => tg_n) (fun x => (ev_tV (ev_e2v (g := eBo) (ev_e2v (g := eI) (ev_callv (vl_cons (vl_V rfl) (vl_cons (vl_V rfl) (vl_cons (vl_C _) vl_nil))) (t_cubic_value cubic x (1 : Int))) (vl_V rfl) (fun x1 => (o_mod _ _))) (vl_C _) (fun x2 => (o2_of (g := eBo) (v := (decide (x2 = (0 : Int)))) (fun _ => eq_k kI x2 (0 : Int))))))) (fun x => (Vl.ev (g := (eT2 eI eI)) (a := (x, (1 : Int))) (vl_tup (vl_cons (vl_V rfl) (vl_cons (vl_C _) vl_nil)) rfl)))) inx0) (fun found => (sg_seq (Γ1 := fun found1 : (List (Int × Int)) => [some (.v ((eT4 eI eI eI eI) cubic)), some (.v (eI prime)), some (.o (found1.map (eT2 eI eI))), none]) (sg_if (ev_tV (ev_e2v (g := eBo) (ev_e2vv (g := eI) (vl_e2 (vl_V rfl) (vl_C _) (fun _ => rfl)) (vl_V rfl) (o_mod _ _)) (vl_C _) (fun x3 => (o2_of (g := eBo) (v := (decide (x3 = (0 : Int)))) (fun _ => eq_k kI x3 (0 : Int)))))) inx0 (sn_e (G := (fun found1 : (List (Int × Int)) => [some (.v ((eT4 eI eI eI eI) cubic)), some (.v (eI prime)), some (.o (found1.map (eT2 eI eI))), none])) (Γ1 := fun found2 : (List (Int × Int)) => [some (.v ((eT4 eI eI eI eI) cubic)), some (.v (eI prime)), some (.o (found2.map (eT2 eI eI))), none]) (k := fun found2 => found2) (s1_appv (ea := (eT2 eI eI)) (l := found) (a := ((1 : Int), (0 : Int))) rfl (vl_tup (vl_cons (vl_C _) (vl_cons (vl_C _) vl_nil)) rfl) inx0) (fun found2 => (And.intro rfl (And.intro rfl (And.intro rfl trivial))))) (sn_v (G := (fun found1 : (List (Int × Int)) => [some (.v ((eT4 eI eI eI eI) cubic)), some (.v (eI prime)), some (.o (found1.map (eT2 eI eI))), none])) (x := found) sv_skip (And.intro rfl (And.intro rfl (And.intro rfl trivial))))) (fun found1 => (sg_unlv (sf_ret (ev_L (ev_nB (g := List.map (eT2 eI eI)) (ca_v (vl_Po rfl) (ca_nil (o_sortP found1))))) inx0))))))))))
  exact fn_ok (n := 2) (N := 4) (g := g_roots_modulo_prime) (ds := [(eT4 eI eI eI eI) cubic, eI prime]) h
noncomputable def f_turned_cubic (cubic : (Int × Int × Int × Int)) (twist : (Int × Int × Int × Int)) : T (Int × Int × Int × Int) :=
  ((f_cubic_value cubic twist.1 twist.2.2.1) >>= fun first =>
  ((f_cubic_value cubic twist.2.1 twist.2.2.2) >>= fun last =>
  ((T.ar [cubic.1, twist.1, twist.1, twist.2.1, cubic.2.1, twist.1, twist.1, twist.2.2.2, twist.1, twist.2.1, twist.2.2.1, cubic.2.2.1, twist.2.1, twist.2.2.1, twist.2.2.1, twist.1, twist.2.2.1, twist.2.2.2, cubic.2.2.2, twist.2.2.1, twist.2.2.1, twist.2.2.2] (((((((3 * cubic.1) * twist.1) * twist.1) * twist.2.1) + (cubic.2.1 * (((twist.1 * twist.1) * twist.2.2.2) + (((2 * twist.1) * twist.2.1) * twist.2.2.1)))) + (cubic.2.2.1 * (((twist.2.1 * twist.2.2.1) * twist.2.2.1) + (((2 * twist.1) * twist.2.2.1) * twist.2.2.2)))) + ((((3 * cubic.2.2.2) * twist.2.2.1) * twist.2.2.1) * twist.2.2.2))) >>= fun second =>
  ((T.ar [cubic.1, twist.1, twist.2.1, twist.2.1, cubic.2.1, twist.2.1, twist.2.1, twist.2.2.1, twist.1, twist.2.1, twist.2.2.2, cubic.2.2.1, twist.1, twist.2.2.2, twist.2.2.2, twist.2.1, twist.2.2.1, twist.2.2.2, cubic.2.2.2, twist.2.2.1, twist.2.2.2, twist.2.2.2] (((((((3 * cubic.1) * twist.1) * twist.2.1) * twist.2.1) + (cubic.2.1 * (((twist.2.1 * twist.2.1) * twist.2.2.1) + (((2 * twist.1) * twist.2.1) * twist.2.2.2)))) + (cubic.2.2.1 * (((twist.1 * twist.2.2.2) * twist.2.2.2) + (((2 * twist.2.1) * twist.2.2.1) * twist.2.2.2)))) + ((((3 * cubic.2.2.2) * twist.2.2.1) * twist.2.2.2) * twist.2.2.2))) >>= fun third =>
  (Pure.pure (first, second, third, last))))))
theorem t_turned_cubic (cubic : (Int × Int × Int × Int)) (twist : (Int × Int × Int × Int)) : Fn (eT4 eI eI eI eI) (m_turned_cubic [(eT4 eI eI eI eI) cubic, (eT4 eI eI eI eI) twist]) (f_turned_cubic cubic twist) := by
  have h : Sg X0 [some (.v ((eT4 eI eI eI eI) cubic)), some (.v ((eT4 eI eI eI eI) twist)), none, none, none, none, none, none, none, none, none, none, none, none] (Pf (eT4 eI eI eI eI)) g_turned_cubic _ := (sg_v (Γ1 := [some (.v ((eT4 eI eI eI eI) cubic)), some (.v ((eT4 eI eI eI eI) twist)), some (.v (eI cubic.1)), some (.v (eI cubic.2.1)), some (.v (eI cubic.2.2.1)), some (.v (eI cubic.2.2.2)), none, none, none, none, none, none, none, none]) (sv_asg (vl_V rfl) (tg_t (tgs_cons tg_n (tgs_cons tg_n (tgs_cons tg_n (tgs_cons tg_n tgs_nil)))))) (sg_v (Γ1 := [some (.v ((eT4 eI eI eI eI) cubic)), some (.v ((eT4 eI eI eI eI) twist)), some (.v (eI cubic.1)), some (.v (eI cubic.2.1)), some (.v (eI cubic.2.2.1)), some (.v (eI cubic.2.2.2)), some (.v (eI twist.1)), some (.v (eI twist.2.1)), some (.v (eI twist.2.2.1)), some (.v (eI twist.2.2.2)), none, none, none, none]) (sv_asg (vl_V rfl) (tg_t (tgs_cons tg_n (tgs_cons tg_n (tgs_cons tg_n (tgs_cons tg_n tgs_nil)))))) (sg_seq (Γ1 := fun first : Int => [some (.v ((eT4 eI eI eI eI) cubic)), some (.v ((eT4 eI eI eI eI) twist)), some (.v (eI cubic.1)), some (.v (eI cubic.2.1)), some (.v (eI cubic.2.2.1)), some (.v (eI cubic.2.2.2)), some (.v (eI twist.1)), some (.v (eI twist.2.1)), some (.v (eI twist.2.2.1)), some (.v (eI twist.2.2.2)), some (.v (eI first)), none, none, none]) (s1_set (ev_callv (vl_cons (vl_V rfl) (vl_cons (vl_V rfl) (vl_cons (vl_V rfl) vl_nil))) (t_cubic_value cubic twist.1 twist.2.2.1)) inx0) (fun first => (sg_seq (Γ1 := fun last : Int => [some (.v ((eT4 eI eI eI eI) cubic)), some (.v ((eT4 eI eI eI eI) twist)), some (.v (eI cubic.1)), some (.v (eI cubic.2.1)), some (.v (eI cubic.2.2.1)), some (.v (eI cubic.2.2.2)), some (.v (eI twist.1)), some (.v (eI twist.2.1)), some (.v (eI twist.2.2.1)), some (.v (eI twist.2.2.2)), some (.v (eI first)), some (.v (eI last)), none, none]) (s1_set (ev_callv (vl_cons (vl_V rfl) (vl_cons (vl_V rfl) (vl_cons (vl_V rfl) vl_nil))) (t_cubic_value cubic twist.2.1 twist.2.2.2)) inx0) (fun last => (sg_seq (Γ1 := fun second : Int => [some (.v ((eT4 eI eI eI eI) cubic)), some (.v ((eT4 eI eI eI eI) twist)), some (.v (eI cubic.1)), some (.v (eI cubic.2.1)), some (.v (eI cubic.2.2.1)), some (.v (eI cubic.2.2.2)), some (.v (eI twist.1)), some (.v (eI twist.2.1)), some (.v (eI twist.2.2.1)), some (.v (eI twist.2.2.2)), some (.v (eI first)), some (.v (eI last)), some (.v (eI second)), none]) (s1_set (ev_ar (AX.add (AX.add (AX.add (AX.mul (AX.mul (AX.mul (AX.mul (AX.ct 3) (AX.at (eV 2) cubic.1)) (AX.at (eV 6) twist.1)) (AX.at (eV 6) twist.1)) (AX.at (eV 7) twist.2.1)) (AX.mul (AX.at (eV 3) cubic.2.1) (AX.add (AX.mul (AX.mul (AX.at (eV 6) twist.1) (AX.at (eV 6) twist.1)) (AX.at (eV 9) twist.2.2.2)) (AX.mul (AX.mul (AX.mul (AX.ct 2) (AX.at (eV 6) twist.1)) (AX.at (eV 7) twist.2.1)) (AX.at (eV 8) twist.2.2.1))))) (AX.mul (AX.at (eV 4) cubic.2.2.1) (AX.add (AX.mul (AX.mul (AX.at (eV 7) twist.2.1) (AX.at (eV 8) twist.2.2.1)) (AX.at (eV 8) twist.2.2.1)) (AX.mul (AX.mul (AX.mul (AX.ct 2) (AX.at (eV 6) twist.1)) (AX.at (eV 8) twist.2.2.1)) (AX.at (eV 9) twist.2.2.2))))) (AX.mul (AX.mul (AX.mul (AX.mul (AX.ct 3) (AX.at (eV 5) cubic.2.2.2)) (AX.at (eV 8) twist.2.2.1)) (AX.at (eV 8) twist.2.2.1)) (AX.at (eV 9) twist.2.2.2))) 26 ⟨⟨⟨⟨⟨⟨⟨rfl, (vl_V rfl)⟩, (vl_V rfl)⟩, (vl_V rfl)⟩, (vl_V rfl)⟩, ⟨(vl_V rfl), ⟨⟨⟨(vl_V rfl), (vl_V rfl)⟩, (vl_V rfl)⟩, ⟨⟨⟨rfl, (vl_V rfl)⟩, (vl_V rfl)⟩, (vl_V rfl)⟩⟩⟩⟩, ⟨(vl_V rfl), ⟨⟨⟨(vl_V rfl), (vl_V rfl)⟩, (vl_V rfl)⟩, ⟨⟨⟨rfl, (vl_V rfl)⟩, (vl_V rfl)⟩, (vl_V rfl)⟩⟩⟩⟩, ⟨⟨⟨⟨rfl, (vl_V rfl)⟩, (vl_V rfl)⟩, (vl_V rfl)⟩, (vl_V rfl)⟩⟩ rfl rfl) inx0) (fun second => (sg_seq (Γ1 := fun third : Int => [some (.v ((eT4 eI eI eI eI) cubic)), some (.v ((eT4 eI eI eI eI) twist)), some (.v (eI cubic.1)), some (.v (eI cubic.2.1)), some (.v (eI cubic.2.2.1)), some (.v (eI cubic.2.2.2)), some (.v (eI twist.1)), some (.v (eI twist.2.1)), some (.v (eI twist.2.2.1)), some (.v (eI twist.2.2.2)), some (.v (eI first)), some (.v (eI last)), some (.v (eI second)), some (.v (eI third))]) (s1_set (ev_ar (AX.add (AX.add (AX.add (AX.mul (AX.mul (AX.mul (AX.mul (AX.ct 3) (AX.at (eV 2) cubic.1)) (AX.at (eV 6) twist.1)) (AX.at (eV 7) twist.2.1)) (AX.at (eV 7) twist.2.1)) (AX.mul (AX.at (eV 3) cubic.2.1) (AX.add (AX.mul (AX.mul (AX.at (eV 7) twist.2.1) (AX.at (eV 7) twist.2.1)) (AX.at (eV 8) twist.2.2.1)) (AX.mul (AX.mul (AX.mul (AX.ct 2) (AX.at (eV 6) twist.1)) (AX.at (eV 7) twist.2.1)) (AX.at (eV 9) twist.2.2.2))))) (AX.mul (AX.at (eV 4) cubic.2.2.1) (AX.add (AX.mul (AX.mul (AX.at (eV 6) twist.1) (AX.at (eV 9) twist.2.2.2)) (AX.at (eV 9) twist.2.2.2)) (AX.mul (AX.mul (AX.mul (AX.ct 2) (AX.at (eV 7) twist.2.1)) (AX.at (eV 8) twist.2.2.1)) (AX.at (eV 9) twist.2.2.2))))) (AX.mul (AX.mul (AX.mul (AX.mul (AX.ct 3) (AX.at (eV 5) cubic.2.2.2)) (AX.at (eV 8) twist.2.2.1)) (AX.at (eV 9) twist.2.2.2)) (AX.at (eV 9) twist.2.2.2))) 26 ⟨⟨⟨⟨⟨⟨⟨rfl, (vl_V rfl)⟩, (vl_V rfl)⟩, (vl_V rfl)⟩, (vl_V rfl)⟩, ⟨(vl_V rfl), ⟨⟨⟨(vl_V rfl), (vl_V rfl)⟩, (vl_V rfl)⟩, ⟨⟨⟨rfl, (vl_V rfl)⟩, (vl_V rfl)⟩, (vl_V rfl)⟩⟩⟩⟩, ⟨(vl_V rfl), ⟨⟨⟨(vl_V rfl), (vl_V rfl)⟩, (vl_V rfl)⟩, ⟨⟨⟨rfl, (vl_V rfl)⟩, (vl_V rfl)⟩, (vl_V rfl)⟩⟩⟩⟩, ⟨⟨⟨⟨rfl, (vl_V rfl)⟩, (vl_V rfl)⟩, (vl_V rfl)⟩, (vl_V rfl)⟩⟩ rfl rfl) inx0) (fun third => (sg_unlv (sf_retv (en := (eT4 eI eI eI eI)) (v := (first, second, third, last)) (vl_tup (vl_cons (vl_V rfl) (vl_cons (vl_V rfl) (vl_cons (vl_V rfl) (vl_cons (vl_V rfl) vl_nil)))) rfl)))))))))))))
  exact fn_ok (n := 2) (N := 14) (g := g_turned_cubic) (ds := [(eT4 eI eI eI eI) cubic, (eT4 eI eI eI eI) twist]) h
noncomputable def f_root_count (cubic : (Int × Int × Int × Int)) (root : (Int × Int)) (prime : Int) : T Int :=
  ((f_turned_cubic cubic (if (decide (root.2 = (1 : Int))) = true then (root.1, (-1 : Int), (1 : Int), (0 : Int)) else ((1 : Int), (0 : Int), (0 : Int), (1 : Int)))) >>= fun p =>
  (((T.mod p.2.1 prime) >>= fun x => (Pure.pure (!decide (x = (0 : Int))))) >>= fun c1 => if c1 = true then (Pure.pure (1 : Int))
  else (((T.mod p.2.2.1 prime) >>= fun x1 => (Pure.pure (!decide (x1 = (0 : Int))))) >>= fun c => if c = true then (Pure.pure (2 : Int)) else (Pure.pure (3 : Int)))))
theorem t_root_count (cubic : (Int × Int × Int × Int)) (root : (Int × Int)) (prime : Int) : Fn eI (m_root_count [(eT4 eI eI eI eI) cubic, (eT2 eI eI) root, eI prime]) (f_root_count cubic root prime) := by
  have h : Sg X0 [some (.v ((eT4 eI eI eI eI) cubic)), some (.v ((eT2 eI eI) root)), some (.v (eI prime)), none, none, none, none, none, none] (Pf eI) g_root_count _ := (sg_v (Γ1 := [some (.v ((eT4 eI eI eI eI) cubic)), some (.v ((eT2 eI eI) root)), some (.v (eI prime)), some (.v (eI root.1)), some (.v (eI root.2)), none, none, none, none]) (sv_asg (vl_V rfl) (tg_t (tgs_cons tg_n (tgs_cons tg_n tgs_nil)))) (sg_seq (Γ1 := fun p : (Int × Int × Int × Int) => [some (.v ((eT4 eI eI eI eI) cubic)), some (.v ((eT2 eI eI) root)), some (.v (eI prime)), some (.v (eI root.1)), some (.v (eI root.2)), some (.v (eI p.1)), some (.v (eI p.2.1)), some (.v (eI p.2.2.1)), some (.v (eI p.2.2.2))]) (s1_asg (ev_callv (vl_cons (vl_V rfl) (vl_cons (vl_eIf (g := (eT4 eI eI eI eI)) (vl_tV (vl_e2 (vl_V rfl) (vl_C _) (fun _ => eq_k kI root.2 (1 : Int)))) (vl_tup (vl_cons (vl_V rfl) (vl_cons (vl_e1 (vl_C _) (fun _ => rfl)) (vl_cons (vl_C _) (vl_cons (vl_C _) vl_nil)))) rfl) (vl_tup (vl_cons (vl_C _) (vl_cons (vl_C _) (vl_cons (vl_C _) (vl_cons (vl_C _) vl_nil)))) rfl)) vl_nil)) (t_turned_cubic cubic (if (decide (root.2 = (1 : Int))) = true then (root.1, (-1 : Int), (1 : Int), (0 : Int)) else ((1 : Int), (0 : Int), (0 : Int), (1 : Int))))) (fun p => (tg_t (tgs_cons tg_n (tgs_cons tg_n (tgs_cons tg_n (tgs_cons tg_n tgs_nil)))))) inx0) (fun p => (sg_if_seq (ev_tV (ev_e2v (g := eBo) (ev_e2vv (g := eI) (vl_V rfl) (vl_V rfl) (o_mod _ _)) (vl_C _) (fun x => (o2_of (g := eBo) (v := (!decide (x = (0 : Int)))) (fun _ => ne_k kI x (0 : Int)))))) inx0 (Sg.lvseq (sf_retv (en := eI) (v := (1 : Int)) (vl_C _))) (sg_skip_seq (sg_unlv (sf_ret (ev_eIf (g := eI) (ev_tV (ev_e2v (g := eBo) (ev_e2vv (g := eI) (vl_V rfl) (vl_V rfl) (o_mod _ _)) (vl_C _) (fun x1 => (o2_of (g := eBo) (v := (!decide (x1 = (0 : Int)))) (fun _ => ne_k kI x1 (0 : Int)))))) (Vl.ev (g := eI) (a := (2 : Int)) (vl_C _)) (Vl.ev (g := eI) (a := (3 : Int)) (vl_C _))) inx0)))))))
  exact fn_ok (n := 3) (N := 9) (g := g_root_count) (ds := [(eT4 eI eI eI eI) cubic, (eT2 eI eI) root, eI prime]) h
noncomputable def f_splitting_of (cubic : (Int × Int × Int × Int)) (prime : Int) : T Str :=
  (((T.comp [cubic.1, cubic.2.1, cubic.2.2.1, cubic.2.2.2] (fun _ => Pure.pure true) (fun number : Int => ((T.mod number prime) >>= fun x => (Pure.pure (decide (x = (0 : Int))))))) >>= fun x1 => (Pure.pure (x1.all id))) >>= fun c => if c = true then (Pure.pure ("0" : Str))
  else ((f_roots_modulo_prime cubic prime) >>= fun roots =>
  (((T.comp roots (fun _ => Pure.pure true) (fun root : (Int × Int) => (f_root_count cubic root prime))) >>= fun x2 => (Pure.pure (isort x2))) >>= fun counts =>
  (if (decide (counts = [(1 : Int), (1 : Int), (1 : Int)])) = true then (Pure.pure ("1 1 1" : Str))
  else (if (decide (counts = [(1 : Int)])) = true then (Pure.pure ("1 2" : Str))
  else (if (decide (counts = [(1 : Int), (2 : Int)])) = true then (Pure.pure ("1 1^2" : Str))
  else (Pure.pure (if (decide (counts = [(3 : Int)])) = true then ("1^3" : Str) else ("3" : Str)))))))))
theorem t_splitting_of (cubic : (Int × Int × Int × Int)) (prime : Int) : Fn eSt (m_splitting_of [(eT4 eI eI eI eI) cubic, eI prime]) (f_splitting_of cubic prime) := by
  have h : Sg X0 [some (.v ((eT4 eI eI eI eI) cubic)), some (.v (eI prime)), none, none, none, none] (Pf eSt) g_splitting_of _ := (sg_if_seq (ev_tV (ev_B (g := eBo) (ca_e (ev_L (ev_compv (Γ' := (fun number : Int => [some (.v ((eT4 eI eI eI eI) cubic)), some (.v (eI prime)), some (.v (eI number)), none, none, none])) (eb := eBo) (vl_itT (ds := [cubic.1, cubic.2.1, cubic.2.2.1, cubic.2.2.2].map eI) (vl_V rfl)) (fun number => tg_n) (fun _ => ev_yes) (fun number => (ev_e2v (g := eBo) (ev_e2vv (g := eI) (vl_V rfl) (vl_V rfl) (o_mod _ _)) (vl_C _) (fun x => (o2_of (g := eBo) (v := (decide (x = (0 : Int)))) (fun _ => eq_k kI x (0 : Int)))))))) fun x1 => (ca_nil (b_of (g := eBo) (v := (x1.all id)) (v_all x1)))))) inx0 (Sg.lvseq (sf_retv (en := eSt) (v := ("0" : Str)) (vl_C _))) (sg_skip_seq (sg_seq (Γ1 := fun roots : (List (Int × Int)) => [some (.v ((eT4 eI eI eI eI) cubic)), some (.v (eI prime)), none, some (.v ((eLs (eT2 eI eI)) roots)), none, none]) (s1_set (ev_callv (vl_cons (vl_V rfl) (vl_cons (vl_V rfl) vl_nil)) (t_roots_modulo_prime cubic prime)) inx0) (fun roots => (sg_seq (Γ1 := fun counts : (List Int) => [some (.v ((eT4 eI eI eI eI) cubic)), some (.v (eI prime)), none, some (.v ((eLs (eT2 eI eI)) roots)), some (.v ((eLs eI) counts)), none]) (s1_set (ev_L (ev_nB (g := List.map eI) (ca_e (ev_L (ev_compv (Γ' := (fun root : (Int × Int) => [some (.v ((eT4 eI eI eI eI) cubic)), some (.v (eI prime)), none, some (.v ((eLs (eT2 eI eI)) roots)), none, some (.v ((eT2 eI eI) root))])) (eb := eI) (vl_itL (ds := roots.map (eT2 eI eI)) (vl_V rfl)) (fun root => tg_n) (fun _ => ev_yes) (fun root => (ev_callv (vl_cons (vl_V rfl) (vl_cons (vl_V rfl) (vl_cons (vl_V rfl) vl_nil))) (t_root_count cubic root prime))))) fun x2 => (ca_nil (n_of (g := List.map eI) (v := (isort x2)) (v_sortI x2)))))) inx0) (fun counts => (sg_ifv_seq (vl_tV (vl_e2 (vl_V rfl) (vl_L (vl_lst (ds := [eI (1 : Int), eI (1 : Int), eI (1 : Int)]) (vl_cons (vl_C _) (vl_cons (vl_C _) (vl_cons (vl_C _) vl_nil))) rfl)) (fun _ => eq_k (kLs kI) counts [(1 : Int), (1 : Int), (1 : Int)]))) (Sg.lvseq (sf_retv (en := eSt) (v := ("1 1 1" : Str)) (vl_C _))) (sg_skip_seq (sg_ifv_seq (vl_tV (vl_e2 (vl_V rfl) (vl_L (vl_lst (ds := [eI (1 : Int)]) (vl_cons (vl_C _) vl_nil) rfl)) (fun _ => eq_k (kLs kI) counts [(1 : Int)]))) (Sg.lvseq (sf_retv (en := eSt) (v := ("1 2" : Str)) (vl_C _))) (sg_skip_seq (sg_ifv_seq (vl_tV (vl_e2 (vl_V rfl) (vl_L (vl_lst (ds := [eI (1 : Int), eI (2 : Int)]) (vl_cons (vl_C _) (vl_cons (vl_C _) vl_nil)) rfl)) (fun _ => eq_k (kLs kI) counts [(1 : Int), (2 : Int)]))) (Sg.lvseq (sf_retv (en := eSt) (v := ("1 1^2" : Str)) (vl_C _))) (sg_skip_seq (sg_unlv (sf_retv (en := eSt) (v := (if (decide (counts = [(3 : Int)])) = true then ("1^3" : Str) else ("3" : Str))) (vl_eIf (g := eSt) (vl_tV (vl_e2 (vl_V rfl) (vl_L (vl_lst (ds := [eI (3 : Int)]) (vl_cons (vl_C _) vl_nil) rfl)) (fun _ => eq_k (kLs kI) counts [(3 : Int)]))) (vl_C _) (vl_C _))))))))))))))))
  exact fn_ok (n := 2) (N := 6) (g := g_splitting_of) (ds := [(eT4 eI eI eI eI) cubic, eI prime]) h
noncomputable def f_is_largest_at (cubic : (Int × Int × Int × Int)) (prime : Int) : T Bool :=
  (((T.comp [cubic.1, cubic.2.1, cubic.2.2.1, cubic.2.2.2] (fun _ => Pure.pure true) (fun number : Int => ((T.mod number prime) >>= fun x => (Pure.pure (decide (x = (0 : Int))))))) >>= fun x1 => (Pure.pure (x1.all id))) >>= fun c1 => if c1 = true then (Pure.pure false)
  else (((f_roots_modulo_prime cubic prime) >>= fun l => T.foF (fun (z : Unit) (root : (Int × Int)) => ((f_turned_cubic cubic (if (decide (root.2 = (1 : Int))) = true then (root.1, (-1 : Int), (1 : Int), (0 : Int)) else ((1 : Int), (0 : Int), (0 : Int), (1 : Int)))) >>= fun p =>
  ((((T.mod p.2.1 prime) >>= fun x2 => (Pure.pure (decide (x2 = (0 : Int))))) >>= fun b => if b = true then (((T.ar [prime, prime] (prime * prime)) >>= fun y => (T.mod p.1 y)) >>= fun x3 => (Pure.pure (decide (x3 = (0 : Int))))) else Pure.pure false) >>= fun c => if c = true then (Pure.pure (Fl.rt false))
  else (Pure.pure (Fl.nx ()))))) l ()) >>= fun r => T.next r (fun z : Unit =>
  (Pure.pure true)) (fun v : Bool => v)))
theorem t_is_largest_at (cubic : (Int × Int × Int × Int)) (prime : Int) : Fn eBo (m_is_largest_at [(eT4 eI eI eI eI) cubic, eI prime]) (f_is_largest_at cubic prime) := by
  have h : Sg X0 [some (.v ((eT4 eI eI eI eI) cubic)), some (.v (eI prime)), none, none, none, none, none, none, none] (Pf eBo) g_is_largest_at _ := (sg_if_seq (ev_tV (ev_B (g := eBo) (ca_e (ev_L (ev_compv (Γ' := (fun number : Int => [some (.v ((eT4 eI eI eI eI) cubic)), some (.v (eI prime)), some (.v (eI number)), none, none, none, none, none, none])) (eb := eBo) (vl_itT (ds := [cubic.1, cubic.2.1, cubic.2.2.1, cubic.2.2.2].map eI) (vl_V rfl)) (fun number => tg_n) (fun _ => ev_yes) (fun number => (ev_e2v (g := eBo) (ev_e2vv (g := eI) (vl_V rfl) (vl_V rfl) (o_mod _ _)) (vl_C _) (fun x => (o2_of (g := eBo) (v := (decide (x = (0 : Int)))) (fun _ => eq_k kI x (0 : Int)))))))) fun x1 => (ca_nil (b_of (g := eBo) (v := (x1.all id)) (v_all x1)))))) inx0 (Sg.lvseq (sf_retv (en := eBo) (v := false) (vl_C _))) (sg_skip_seq (sg_fl (Γ1 := fun z : Unit => [some (.v ((eT4 eI eI eI eI) cubic)), some (.v (eI prime)), none, none, none, none, none, none, none]) (ret := (fun v : Bool => v)) (s_forFE (G := (fun z : Unit => [some (.v ((eT4 eI eI eI eI) cubic)), some (.v (eI prime)), none, none, none, none, none, none, none])) (Γ1 := (fun (z : Unit) (root : (Int × Int)) => [some (.v ((eT4 eI eI eI eI) cubic)), some (.v (eI prime)), none, some (.v ((eT2 eI eI) root)), none, none, none, none, none])) (en := eBo) (ea := (eT2 eI eI)) (x := ()) (ev_itL (ev_callv (vl_cons (vl_V rfl) (vl_cons (vl_V rfl) vl_nil)) (t_roots_modulo_prime cubic prime))) inx0 (And.intro rfl (And.intro rfl trivial)) (fun z root => tg_n) (fun z root => (sg_v (Γ1 := [some (.v ((eT4 eI eI eI eI) cubic)), some (.v (eI prime)), none, some (.v ((eT2 eI eI) root)), some (.v (eI root.1)), some (.v (eI root.2)), none, none, none]) (sv_asg (vl_V rfl) (tg_t (tgs_cons tg_n (tgs_cons tg_n tgs_nil)))) (sg_seq (Γ1 := fun p : (Int × Int × Int × Int) => [some (.v ((eT4 eI eI eI eI) cubic)), some (.v (eI prime)), none, some (.v ((eT2 eI eI) root)), some (.v (eI root.1)), some (.v (eI root.2)), some (.v (eI p.1)), some (.v (eI p.2.1)), some (.v (eI p.2.2.2))]) (s1_asg (ev_callv (vl_cons (vl_V rfl) (vl_cons (vl_eIf (g := (eT4 eI eI eI eI)) (vl_tV (vl_e2 (vl_V rfl) (vl_C _) (fun _ => eq_k kI root.2 (1 : Int)))) (vl_tup (vl_cons (vl_V rfl) (vl_cons (vl_e1 (vl_C _) (fun _ => rfl)) (vl_cons (vl_C _) (vl_cons (vl_C _) vl_nil)))) rfl) (vl_tup (vl_cons (vl_C _) (vl_cons (vl_C _) (vl_cons (vl_C _) (vl_cons (vl_C _) vl_nil)))) rfl)) vl_nil)) (t_turned_cubic cubic (if (decide (root.2 = (1 : Int))) = true then (root.1, (-1 : Int), (1 : Int), (0 : Int)) else ((1 : Int), (0 : Int), (0 : Int), (1 : Int))))) (fun p => (tg_t (tgs_cons tg_n (tgs_cons tg_n (tgs_cons tg_n (tgs_cons tg_n tgs_nil)))))) inx0) (fun p => (sg_if (ev_and (ev_tV (ev_e2v (g := eBo) (ev_e2vv (g := eI) (vl_V rfl) (vl_V rfl) (o_mod _ _)) (vl_C _) (fun x2 => (o2_of (g := eBo) (v := (decide (x2 = (0 : Int)))) (fun _ => eq_k kI x2 (0 : Int)))))) (ev_tV (ev_e2v (g := eBo) (ev_ve2 (g := eI) (vl_V rfl) (ev_ar (AX.mul (AX.at (eV 1) prime) (AX.at (eV 1) prime)) 2 ⟨(vl_V rfl), (vl_V rfl)⟩ rfl rfl) (fun y => (o_mod _ _))) (vl_C _) (fun x3 => (o2_of (g := eBo) (v := (decide (x3 = (0 : Int)))) (fun _ => eq_k kI x3 (0 : Int))))))) inx0 (sg_unlv (sl_retv (en := eBo) (v := false) (vl_C _))) (sl_v (G := (fun z : Unit => [some (.v ((eT4 eI eI eI eI) cubic)), some (.v (eI prime)), none, none, none, none, none, none, none])) (x := ()) sv_skip (And.intro rfl (And.intro rfl trivial))))))))) (fun z => (sg_unlv (sf_retv (en := eBo) (v := true) (vl_C _)))) sf_rt)))
  exact fn_ok (n := 2) (N := 9) (g := g_is_largest_at) (ds := [(eT4 eI eI eI eI) cubic, eI prime]) h
noncomputable def f__law_truth (told : Bool) (due : Bool) : T Bool :=
  (if due = true then (Pure.pure (decide (told = true)))
  else (Pure.pure (decide (told = false))))
theorem t__law_truth (told : Bool) (due : Bool) : Fn eBo (m__law_truth [eBo told, eBo due]) (f__law_truth told due) := by
  have h : Sg X0 [some (.v (eBo told)), some (.v (eBo due))] (Pf eBo) g__law_truth _ := (sg_ifv_seq (vl_tV (vl_V rfl)) (Sg.lvseq (sf_retv (en := eBo) (v := (decide (told = true))) (vl_e2 (vl_V rfl) (vl_C _) (fun _ => rfl)))) (sg_skip_seq (sg_unlv (sf_retv (en := eBo) (v := (decide (told = false))) (vl_e2 (vl_V rfl) (vl_C _) (fun _ => rfl))))))
  exact fn_ok (n := 2) (N := 2) (g := g__law_truth) (ds := [eBo told, eBo due]) h
noncomputable def f__law_places_hold (cubic : (Int × Int × Int × Int)) (prime : Int) : T Bool :=
  ((((T.comp [cubic.1, cubic.2.1, cubic.2.2.1, cubic.2.2.2] (fun part : Int => ((T.mod part prime) >>= fun x => (Pure.pure (!decide (x = (0 : Int)))))) (fun part : Int => (Pure.pure part))) >>= fun x1 => (Pure.pure ((x1.length : Nat) : Int))) >>= fun x2 => (Pure.pure (decide (x2 = (0 : Int))))) >>= fun zero =>
  ((f__law_counts cubic prime) >>= fun rows =>
  (((f_roots_modulo_prime cubic prime) >>= fun x3 => (T.mp rows (fun row : ((Int × Int) × Int × Bool) => row.1)) >>= fun y => (Pure.pure (!decide (x3 = y)))) >>= fun c2 => if c2 = true then (Pure.pure false)
  else (if zero = true then (((f_splitting_of cubic prime) >>= fun x4 => (T.eqS x4 ("0" : Str))) >>= fun b => if b = true then ((f_is_largest_at cubic prime) >>= fun x5 => (Pure.pure (decide (x5 = false)))) else Pure.pure false)
  else ((T.foF (fun (z : Unit) (p : ((Int × Int) × Int × Bool)) => (((f_root_count cubic p.1 prime) >>= fun x6 => (Pure.pure (!decide (x6 = p.2.1)))) >>= fun c => if c = true then (Pure.pure (Fl.rt false))
  else (Pure.pure (Fl.nx ())))) rows ()) >>= fun r => T.next r (fun z : Unit =>
  (((f_splitting_of cubic prime) >>= fun x8 => ((T.mp rows (fun row1 : ((Int × Int) × Int × Bool) => row1.2.1)) >>= fun x7 => f__law_word x7) >>= fun y1 => (T.neS x8 y1)) >>= fun c1 => if c1 = true then (Pure.pure false)
  else ((f_is_largest_at cubic prime) >>= fun x11 => (((T.cmp rows (fun row2 : ((Int × Int) × Int × Bool) => row2.2.2) (fun row2 : ((Int × Int) × Int × Bool) => row2)) >>= fun x9 => (Pure.pure ((x9.length : Nat) : Int))) >>= fun x10 => (Pure.pure (decide (x10 = (0 : Int))))) >>= fun x12 => f__law_truth x11 x12))) (fun v : Bool => v))))))
theorem t__law_places_hold (cubic : (Int × Int × Int × Int)) (prime : Int) : Fn eBo (m__law_places_hold [(eT4 eI eI eI eI) cubic, eI prime]) (f__law_places_hold cubic prime) := by
  have h : Sg X0 [some (.v ((eT4 eI eI eI eI) cubic)), some (.v (eI prime)), none, none, none, none, none, none, none] (Pf eBo) g__law_places_hold _ := (sg_seq (Γ1 := fun zero : Bool => [some (.v ((eT4 eI eI eI eI) cubic)), some (.v (eI prime)), some (.v (eBo zero)), none, none, none, none, none, none]) (s1_set (ev_e2v (g := eBo) (ev_B (g := eI) (ca_e (ev_L (ev_compv (Γ' := (fun part : Int => [some (.v ((eT4 eI eI eI eI) cubic)), some (.v (eI prime)), none, some (.v (eI part)), none, none, none, none, none])) (eb := eI) (vl_itT (ds := [cubic.1, cubic.2.1, cubic.2.2.1, cubic.2.2.2].map eI) (vl_V rfl)) (fun part => tg_n) (fun part => (ev_tV (ev_e2v (g := eBo) (ev_e2vv (g := eI) (vl_B (vl_cons (vl_V rfl) vl_nil) (fun _ => rfl)) (vl_V rfl) (o_mod _ _)) (vl_C _) (fun x => (o2_of (g := eBo) (v := (!decide (x = (0 : Int)))) (fun _ => ne_k kI x (0 : Int))))))) (fun part => (Vl.ev (g := eI) (a := part) (vl_V rfl))))) fun x1 => (ca_nil (b_of (g := eI) (v := ((x1.length : Nat) : Int)) (v_lenL (en := eI) x1))))) (vl_C _) (fun x2 => (o2_of (g := eBo) (v := (decide (x2 = (0 : Int)))) (fun _ => eq_k kI x2 (0 : Int))))) inx0) (fun zero => (sg_seq (Γ1 := fun rows : (List ((Int × Int) × Int × Bool)) => [some (.v ((eT4 eI eI eI eI) cubic)), some (.v (eI prime)), some (.v (eBo zero)), none, some (.v ((eLs (eF3 (eT2 eI eI) eI eBo)) rows)), none, none, none, none]) (s1_set (ev_callv (vl_cons (vl_V rfl) (vl_cons (vl_V rfl) vl_nil)) (t__law_counts cubic prime)) inx0) (fun rows => (sg_if_seq (ev_tV (ev_e2 (g := eBo) (ev_callv (vl_cons (vl_V rfl) (vl_cons (vl_V rfl) vl_nil)) (t_roots_modulo_prime cubic prime)) (ev_L (ev_mp (Γ' := (fun row : ((Int × Int) × Int × Bool) => [some (.v ((eT4 eI eI eI eI) cubic)), some (.v (eI prime)), some (.v (eBo zero)), none, some (.v ((eLs (eF3 (eT2 eI eI) eI eBo)) rows)), some (.v ((eF3 (eT2 eI eI) eI eBo) row)), none, none, none])) (eb := (eT2 eI eI)) (k := (fun row : ((Int × Int) × Int × Bool) => row.1)) (vl_itL (ds := rows.map (eF3 (eT2 eI eI) eI eBo)) (vl_V rfl)) (fun row => tg_n) (fun row => (vl_e2 (vl_V rfl) (vl_C _) (fun _ => rfl))))) (fun x3 y => (o2_of (g := eBo) (v := (!decide (x3 = y))) (fun _ => ne_k (kLs (kT2 kI kI)) x3 y))))) inx0 (Sg.lvseq (sf_retv (en := eBo) (v := false) (vl_C _))) (sg_skip_seq (sg_ifv_seq (vl_tV (vl_V rfl)) (Sg.lvseq (sf_ret (ev_eAnd (ev_e2v (g := eBo) (ev_callv (vl_cons (vl_V rfl) (vl_cons (vl_V rfl) vl_nil)) (t_splitting_of cubic prime)) (vl_C _) (fun x4 => (o_eqS _ _))) (ev_e2v (g := eBo) (ev_callv (vl_cons (vl_V rfl) (vl_cons (vl_V rfl) vl_nil)) (t_is_largest_at cubic prime)) (vl_C _) (fun x5 => (o2_of (g := eBo) (v := (decide (x5 = false))) (fun _ => rfl))))) inx0)) (sg_skip_seq (sg_fl (Γ1 := fun z : Unit => [some (.v ((eT4 eI eI eI eI) cubic)), some (.v (eI prime)), some (.v (eBo zero)), none, some (.v ((eLs (eF3 (eT2 eI eI) eI eBo)) rows)), none, none, none, none]) (ret := (fun v : Bool => v)) (s_forF (G := (fun z : Unit => [some (.v ((eT4 eI eI eI eI) cubic)), some (.v (eI prime)), some (.v (eBo zero)), none, some (.v ((eLs (eF3 (eT2 eI eI) eI eBo)) rows)), none, none, none, none])) (Γ1 := (fun (z : Unit) (p : ((Int × Int) × Int × Bool)) => [some (.v ((eT4 eI eI eI eI) cubic)), some (.v (eI prime)), some (.v (eBo zero)), none, some (.v ((eLs (eF3 (eT2 eI eI) eI eBo)) rows)), none, some (.v ((eT2 eI eI) p.1)), some (.v (eI p.2.1)), some (.v (eBo p.2.2))])) (en := eBo) (ea := (eF3 (eT2 eI eI) eI eBo)) (x := ()) (vl_itL (ds := rows.map (eF3 (eT2 eI eI) eI eBo)) (vl_V rfl)) (And.intro rfl (And.intro rfl (And.intro rfl (And.intro rfl trivial)))) (fun z p => (tg_l (tgs_cons tg_n (tgs_cons tg_n (tgs_cons tg_n tgs_nil))))) (fun z p => (sg_if (ev_tV (ev_e2v (g := eBo) (ev_callv (vl_cons (vl_V rfl) (vl_cons (vl_V rfl) (vl_cons (vl_V rfl) vl_nil))) (t_root_count cubic p.1 prime)) (vl_V rfl) (fun x6 => (o2_of (g := eBo) (v := (!decide (x6 = p.2.1))) (fun _ => ne_k kI x6 p.2.1))))) inx0 (sg_unlv (sl_retv (en := eBo) (v := false) (vl_C _))) (sl_v (G := (fun z : Unit => [some (.v ((eT4 eI eI eI eI) cubic)), some (.v (eI prime)), some (.v (eBo zero)), none, some (.v ((eLs (eF3 (eT2 eI eI) eI eBo)) rows)), none, none, none, none])) (x := ()) sv_skip (And.intro rfl (And.intro rfl (And.intro rfl (And.intro rfl trivial)))))))) (fun z => (sg_if_seq (ev_tV (ev_e2 (g := eBo) (ev_callv (vl_cons (vl_V rfl) (vl_cons (vl_V rfl) vl_nil)) (t_splitting_of cubic prime)) (ev_call (g := eSt) (ca_e (ev_L (ev_mp (Γ' := (fun row1 : ((Int × Int) × Int × Bool) => [some (.v ((eT4 eI eI eI eI) cubic)), some (.v (eI prime)), some (.v (eBo zero)), none, some (.v ((eLs (eF3 (eT2 eI eI) eI eBo)) rows)), some (.v ((eF3 (eT2 eI eI) eI eBo) row1)), none, none, none])) (eb := eI) (k := (fun row1 : ((Int × Int) × Int × Bool) => row1.2.1)) (vl_itL (ds := rows.map (eF3 (eT2 eI eI) eI eBo)) (vl_V rfl)) (fun row1 => tg_n) (fun row1 => (vl_e2 (vl_V rfl) (vl_C _) (fun _ => rfl))))) fun x7 => (ca_nil (call_k (t__law_word x7))))) (fun x8 y1 => (o_neS _ _)))) inx0 (Sg.lvseq (sf_retv (en := eBo) (v := false) (vl_C _))) (sg_skip_seq (sg_unlv (sf_ret (ev_call (g := eBo) (ca_e (ev_callv (vl_cons (vl_V rfl) (vl_cons (vl_V rfl) vl_nil)) (t_is_largest_at cubic prime)) fun x11 => (ca_e (ev_e2v (g := eBo) (ev_B (g := eI) (ca_e (ev_L (ev_cmp (Γ' := (fun row2 : ((Int × Int) × Int × Bool) => [some (.v ((eT4 eI eI eI eI) cubic)), some (.v (eI prime)), some (.v (eBo zero)), none, some (.v ((eLs (eF3 (eT2 eI eI) eI eBo)) rows)), some (.v ((eF3 (eT2 eI eI) eI eBo) row2)), none, none, none])) (eb := (eF3 (eT2 eI eI) eI eBo)) (k := (fun row2 : ((Int × Int) × Int × Bool) => row2)) (vl_itL (ds := rows.map (eF3 (eT2 eI eI) eI eBo)) (vl_V rfl)) (fun row2 => tg_n) (fun row2 => (vl_tV (vl_e2 (vl_V rfl) (vl_C _) (fun _ => rfl)))) (fun row2 => (vl_V rfl)))) fun x9 => (ca_nil (b_of (g := eI) (v := ((x9.length : Nat) : Int)) (v_lenL (en := (eF3 (eT2 eI eI) eI eBo)) x9))))) (vl_C _) (fun x10 => (o2_of (g := eBo) (v := (decide (x10 = (0 : Int)))) (fun _ => eq_k kI x10 (0 : Int))))) fun x12 => (ca_nil (call_k (t__law_truth x11 x12)))))) inx0))))) sf_rt)))))))))
  exact fn_ok (n := 2) (N := 9) (g := g__law_places_hold) (ds := [(eT4 eI eI eI eI) cubic, eI prime]) h
noncomputable def f__law_refused (cubic : (Int × Int × Int × Int)) (prime : Int) : T Str :=
  (T.tr2 known ((f_roots_modulo_prime cubic prime) >>= fun p =>
  (Pure.pure ("told" : Str))) "NotPossible" (Pure.pure ("no" : Str)) "TooLarge" (Pure.pure ("large" : Str)))
theorem t__law_refused (cubic : (Int × Int × Int × Int)) (prime : Int) : Fn eSt (m__law_refused [(eT4 eI eI eI eI) cubic, eI prime]) (f__law_refused cubic prime) := by
  have h : Sg X0 [some (.v ((eT4 eI eI eI eI) cubic)), some (.v (eI prime))] (Pf eSt) g__law_refused _ := (sg_try2 (Γx := [some (.v ((eT4 eI eI eI eI) cubic)), some (.v (eI prime))]) pf_noex inx0 (sg_seq (Γ1 := fun p : (List (Int × Int)) => [some (.v ((eT4 eI eI eI eI) cubic)), some (.v (eI prime))]) (s1_expr (ev_callv (vl_cons (vl_V rfl) (vl_cons (vl_V rfl) vl_nil)) (t_roots_modulo_prime cubic prime)) (inx_sub (And.intro rfl (And.intro rfl trivial)))) (fun p => (sg_unlv (sf_retv (en := eSt) (v := ("told" : Str)) (vl_C _))))) (sg_unlv (sf_retv (en := eSt) (v := ("no" : Str)) (vl_C _))) (sg_unlv (sf_retv (en := eSt) (v := ("large" : Str)) (vl_C _))))
  exact fn_ok (n := 2) (N := 2) (g := g__law_refused) (ds := [(eT4 eI eI eI eI) cubic, eI prime]) h
noncomputable def f__law_matrix (most : Int) (size : Int) : T (Int × Int × Int × Int) :=
  (let one : (Int × Int × Int × Int) := ((1 : Int), (0 : Int), (0 : Int), (1 : Int))
  ((((draw (most + (1 : Int))) >>= fun x => (T.rng1 x)) >>= fun l => T.fo (fun (one1 : (Int × Int × Int × Int)) (turn : Int) => ((((T.ar [size] ((2 * size) + 1)) >>= fun x1 => draw x1) >>= fun x2 => (Pure.pure (x2 - size))) >>= fun count =>
  (((T.ar [one1.1, count, one1.2.1] ((one1.1 * count) + one1.2.1)) >>= fun x3 => (T.ar [one1.2.2.1, count, one1.2.2.2] ((one1.2.2.1 * count) + one1.2.2.2)) >>= fun x4 => (Pure.pure (x3, ((0 : Int) - one1.1), x4, ((0 : Int) - one1.2.2.1)))) >>= fun one2 => Pure.pure one2))) l one) >>= fun one1 : (Int × Int × Int × Int) =>
  (Pure.pure one1)))
theorem t__law_matrix (most : Int) (size : Int) : Fn (eT4 eI eI eI eI) (m__law_matrix [eST (), eI most, eI size]) (f__law_matrix most size) := by
  have h : Sg X0 [some (.v (eST ())), some (.v (eI most)), some (.v (eI size)), none, none, none, none, none, none, none] (Pf (eT4 eI eI eI eI)) g__law_matrix _ := (sg_let (Γ1 := fun one : (Int × Int × Int × Int) => [some (.v (eST ())), some (.v (eI most)), some (.v (eI size)), some (.v ((eT4 eI eI eI eI) one)), none, none, none, none, none, none]) (a := ((1 : Int), (0 : Int), (0 : Int), (1 : Int))) (sv_set (vl_tup (vl_cons (vl_C _) (vl_cons (vl_C _) (vl_cons (vl_C _) (vl_cons (vl_C _) vl_nil)))) rfl)) (fun one => (sg_seq (Γ1 := fun one1 : (Int × Int × Int × Int) => [some (.v (eST ())), some (.v (eI most)), some (.v (eI size)), some (.v ((eT4 eI eI eI eI) one1)), none, none, none, none, none, none]) (s_forE (G := (fun one1 : (Int × Int × Int × Int) => [some (.v (eST ())), some (.v (eI most)), some (.v (eI size)), some (.v ((eT4 eI eI eI eI) one1)), none, none, none, none, none, none])) (Γ1 := (fun (one1 : (Int × Int × Int × Int)) (turn : Int) => [some (.v (eST ())), some (.v (eI most)), some (.v (eI size)), some (.v ((eT4 eI eI eI eI) one1)), some (.v (eI turn)), none, none, none, none, none])) (ea := eI) (x := one) (ev_rng (g := List.map eI) (ca_e (ev_callv (vl_cons (vl_V rfl) (vl_cons (vl_e2 (vl_V rfl) (vl_C _) (fun _ => rfl)) vl_nil)) (draw_fn (most + (1 : Int)))) fun x => (ca_nil (rng1_map (α := Int) x)))) inx0 (And.intro rfl (And.intro rfl (And.intro rfl (And.intro rfl trivial)))) (fun one1 turn => tg_n) (fun one1 turn => (sg_seq (Γ1 := fun count : Int => [some (.v (eST ())), some (.v (eI most)), some (.v (eI size)), some (.v ((eT4 eI eI eI eI) one1)), some (.v (eI turn)), some (.v (eI count)), none, none, none, none]) (s1_set (ev_e2v (g := eI) (ev_call (g := eI) (ca_v (vl_V rfl) (ca_e (ev_ar (AX.add (AX.mul (AX.ct 2) (AX.at (eV 2) size)) (AX.ct 1)) 3 ⟨⟨rfl, (vl_V rfl)⟩, rfl⟩ rfl rfl) fun x1 => (ca_nil (call_k (draw_fn x1)))))) (vl_V rfl) (fun x2 => (o2_of (g := eI) (v := (x2 - size)) (fun _ => rfl)))) inx0) (fun count => (sg_v (Γ1 := [some (.v (eST ())), some (.v (eI most)), some (.v (eI size)), some (.v ((eT4 eI eI eI eI) one1)), some (.v (eI turn)), some (.v (eI count)), some (.v (eI one1.1)), some (.v (eI one1.2.1)), some (.v (eI one1.2.2.1)), some (.v (eI one1.2.2.2))]) (sv_asg (vl_V rfl) (tg_t (tgs_cons tg_n (tgs_cons tg_n (tgs_cons tg_n (tgs_cons tg_n tgs_nil)))))) (sn_e (G := (fun one1 : (Int × Int × Int × Int) => [some (.v (eST ())), some (.v (eI most)), some (.v (eI size)), some (.v ((eT4 eI eI eI eI) one1)), none, none, none, none, none, none])) (Γ1 := fun one2 : (Int × Int × Int × Int) => [some (.v (eST ())), some (.v (eI most)), some (.v (eI size)), some (.v ((eT4 eI eI eI eI) one2)), some (.v (eI turn)), some (.v (eI count)), some (.v (eI one1.1)), some (.v (eI one1.2.1)), some (.v (eI one1.2.2.1)), some (.v (eI one1.2.2.2))]) (k := fun one2 => one2) (s1_set (ev_tup (g := (eT4 eI eI eI eI)) (ca_e (ev_ar (AX.add (AX.mul (AX.at (eV 6) one1.1) (AX.at (eV 5) count)) (AX.at (eV 7) one1.2.1)) 3 ⟨⟨(vl_V rfl), (vl_V rfl)⟩, (vl_V rfl)⟩ rfl rfl) fun x3 => (ca_v (vl_e2 (vl_C _) (vl_V rfl) (fun _ => rfl)) (ca_e (ev_ar (AX.add (AX.mul (AX.at (eV 8) one1.2.2.1) (AX.at (eV 5) count)) (AX.at (eV 9) one1.2.2.2)) 3 ⟨⟨(vl_V rfl), (vl_V rfl)⟩, (vl_V rfl)⟩ rfl rfl) fun x4 => (ca_v (vl_e2 (vl_C _) (vl_V rfl) (fun _ => rfl)) (ca_nil (tup_k (g := (eT4 eI eI eI eI)) (v := (x3, ((0 : Int) - one1.1), x4, ((0 : Int) - one1.2.2.1))) rfl))))))) inx0) (fun one2 => (And.intro rfl (And.intro rfl (And.intro rfl (And.intro rfl trivial))))))))))) (fun one1 => (sg_unlv (sf_retv (en := (eT4 eI eI eI eI)) (v := one1) (vl_V rfl)))))))
  exact fn_ok (n := 3) (N := 10) (g := g__law_matrix) (ds := [eST (), eI most, eI size]) h
noncomputable def f__law_cubic_size (cubic : (Int × Int × Int × Int)) : T Int :=
  (T.ar [cubic.2.1, cubic.2.1, cubic.2.2.1, cubic.2.2.1, cubic.1, cubic.2.1, cubic.2.2.1, cubic.2.2.2, cubic.1, cubic.2.2.1, cubic.2.2.1, cubic.2.2.1, cubic.2.1, cubic.2.1, cubic.2.1, cubic.2.2.2, cubic.1, cubic.1, cubic.2.2.2, cubic.2.2.2] (((((((cubic.2.1 * cubic.2.1) * cubic.2.2.1) * cubic.2.2.1) + ((((18 * cubic.1) * cubic.2.1) * cubic.2.2.1) * cubic.2.2.2)) - ((((4 * cubic.1) * cubic.2.2.1) * cubic.2.2.1) * cubic.2.2.1)) - ((((4 * cubic.2.1) * cubic.2.1) * cubic.2.1) * cubic.2.2.2)) - ((((27 * cubic.1) * cubic.1) * cubic.2.2.2) * cubic.2.2.2)))
theorem t__law_cubic_size (cubic : (Int × Int × Int × Int)) : Fn eI (m__law_cubic_size [(eT4 eI eI eI eI) cubic]) (f__law_cubic_size cubic) := by
  have h : Sg X0 [some (.v ((eT4 eI eI eI eI) cubic)), none, none, none, none] (Pf eI) g__law_cubic_size _ := (sg_v (Γ1 := [some (.v ((eT4 eI eI eI eI) cubic)), some (.v (eI cubic.1)), some (.v (eI cubic.2.1)), some (.v (eI cubic.2.2.1)), some (.v (eI cubic.2.2.2))]) (sv_asg (vl_V rfl) (tg_t (tgs_cons tg_n (tgs_cons tg_n (tgs_cons tg_n (tgs_cons tg_n tgs_nil)))))) (sg_unlv (sf_ret (ev_ar (AX.sub (AX.sub (AX.sub (AX.add (AX.mul (AX.mul (AX.mul (AX.at (eV 2) cubic.2.1) (AX.at (eV 2) cubic.2.1)) (AX.at (eV 3) cubic.2.2.1)) (AX.at (eV 3) cubic.2.2.1)) (AX.mul (AX.mul (AX.mul (AX.mul (AX.ct 18) (AX.at (eV 1) cubic.1)) (AX.at (eV 2) cubic.2.1)) (AX.at (eV 3) cubic.2.2.1)) (AX.at (eV 4) cubic.2.2.2))) (AX.mul (AX.mul (AX.mul (AX.mul (AX.ct 4) (AX.at (eV 1) cubic.1)) (AX.at (eV 3) cubic.2.2.1)) (AX.at (eV 3) cubic.2.2.1)) (AX.at (eV 3) cubic.2.2.1))) (AX.mul (AX.mul (AX.mul (AX.mul (AX.ct 4) (AX.at (eV 2) cubic.2.1)) (AX.at (eV 2) cubic.2.1)) (AX.at (eV 2) cubic.2.1)) (AX.at (eV 4) cubic.2.2.2))) (AX.mul (AX.mul (AX.mul (AX.mul (AX.ct 27) (AX.at (eV 1) cubic.1)) (AX.at (eV 1) cubic.1)) (AX.at (eV 4) cubic.2.2.2)) (AX.at (eV 4) cubic.2.2.2))) 24 ⟨⟨⟨⟨⟨⟨⟨(vl_V rfl), (vl_V rfl)⟩, (vl_V rfl)⟩, (vl_V rfl)⟩, ⟨⟨⟨⟨rfl, (vl_V rfl)⟩, (vl_V rfl)⟩, (vl_V rfl)⟩, (vl_V rfl)⟩⟩, ⟨⟨⟨⟨rfl, (vl_V rfl)⟩, (vl_V rfl)⟩, (vl_V rfl)⟩, (vl_V rfl)⟩⟩, ⟨⟨⟨⟨rfl, (vl_V rfl)⟩, (vl_V rfl)⟩, (vl_V rfl)⟩, (vl_V rfl)⟩⟩, ⟨⟨⟨⟨rfl, (vl_V rfl)⟩, (vl_V rfl)⟩, (vl_V rfl)⟩, (vl_V rfl)⟩⟩ rfl rfl) inx0)))
  exact fn_ok (n := 1) (N := 5) (g := g__law_cubic_size) (ds := [(eT4 eI eI eI eI) cubic]) h
noncomputable def f_rest20 (cubic : (Int × Int × Int × Int)) : T Bool :=
  (((draw (8 : Int)) >>= fun y => (T.ix [(2 : Int), (3 : Int), (5 : Int), (7 : Int), (11 : Int), (13 : Int), (17 : Int), (19 : Int)] y)) >>= fun prime =>
  (((f__law_places_hold cubic prime) >>= fun b => Pure.pure (!b)) >>= fun c2 => if c2 = true then (Pure.pure false)
  else ((((T.ar [prime, prime, cubic.1] ((prime * prime) * cubic.1)) >>= fun x => (T.ar [prime, cubic.2.1] (prime * cubic.2.1)) >>= fun x1 => (Pure.pure (x, x1, cubic.2.2.1, cubic.2.2.2))) >>= fun x2 => (f__law_matrix (3 : Int) (3 : Int)) >>= fun x3 => f__law_cubic_turned x2 x3) >>= fun small =>
  ((((f__law_places_hold small prime) >>= fun b1 => Pure.pure (!b1)) >>= fun b2 => if b2 = true then Pure.pure true else ((f_is_largest_at small prime) >>= fun x4 => (Pure.pure (!decide (x4 = false))))) >>= fun c1 => if c1 = true then (Pure.pure false)
  else (((draw (prime - (1 : Int))) >>= fun y1 => (Pure.pure ((1 : Int) + y1))) >>= fun unit =>
  ((((T.ar [prime, cubic.2.1] (prime * cubic.2.1)) >>= fun x5 => (T.ar [prime, cubic.2.2.1] (prime * cubic.2.2.1)) >>= fun x6 => (T.ar [prime, unit] (prime * unit)) >>= fun x7 => (Pure.pure ((1 : Int), x5, x6, x7))) >>= fun x8 => (f__law_matrix (3 : Int) (3 : Int)) >>= fun x9 => f__law_cubic_turned x8 x9) >>= fun kind =>
  ((((f_is_largest_at kind prime) >>= fun x10 => (Pure.pure (!decide (x10 = true)))) >>= fun b4 => if b4 = true then Pure.pure true else (((f_splitting_of kind prime) >>= fun x11 => (T.neS x11 ("1^3" : Str))) >>= fun b3 => if b3 = true then Pure.pure true else ((((f__law_cubic_size kind) >>= fun x12 => (Pure.pure x12)) >>= fun x13 => (T.ar [prime, prime] (prime * prime)) >>= fun y2 => (T.mod x13 y2)) >>= fun x14 => (Pure.pure (!decide (x14 = (0 : Int))))))) >>= fun c => if c = true then (Pure.pure false)
  else (((f__law_refused cubic (4 : Int)) >>= fun x15 => (T.eqS x15 ("no" : Str))) >>= fun b7 => if b7 = true then (((f__law_refused cubic (1 : Int)) >>= fun x16 => (T.eqS x16 ("no" : Str))) >>= fun b6 => if b6 = true then (((f__law_refused cubic (401 : Int)) >>= fun x17 => (T.eqS x17 ("large" : Str))) >>= fun b5 => if b5 = true then ((f__law_refused cubic prime) >>= fun x18 => (T.eqS x18 ("told" : Str))) else Pure.pure false) else Pure.pure false) else Pure.pure false))))))))
theorem t_rest20 (cubic : (Int × Int × Int × Int)) : Sg X0 [none, some (.v (eST ())), some (.v ((eT4 eI eI eI eI) cubic)), none, none, none, none, none, none, none, none, none, none, none, none, none, none, none, none, none, none, none, none, none, none, none, none] (Pf eBo) rest20 (f_rest20 cubic) := by
  have h : Sg X0 [none, some (.v (eST ())), some (.v ((eT4 eI eI eI eI) cubic)), none, none, none, none, none, none, none, none, none, none, none, none, none, none, none, none, none, none, none, none, none, none, none, none] (Pf eBo) rest20 _ := (sg_seq (Γ1 := fun prime : Int => [none, some (.v (eST ())), some (.v ((eT4 eI eI eI eI) cubic)), none, none, none, none, none, none, none, none, none, none, none, none, none, none, none, none, none, some (.v (eI prime)), none, none, none, none, none, none]) (s1_set (ev_ve2 (g := eI) (vl_L (vl_lst (ds := [eI (2 : Int), eI (3 : Int), eI (5 : Int), eI (7 : Int), eI (11 : Int), eI (13 : Int), eI (17 : Int), eI (19 : Int)]) (vl_cons (vl_C _) (vl_cons (vl_C _) (vl_cons (vl_C _) (vl_cons (vl_C _) (vl_cons (vl_C _) (vl_cons (vl_C _) (vl_cons (vl_C _) (vl_cons (vl_C _) vl_nil)))))))) rfl)) (ev_callv (vl_cons (vl_V rfl) (vl_cons (vl_C _) vl_nil)) (draw_fn (8 : Int))) (fun y => (o_ixL (en := eI) [(2 : Int), (3 : Int), (5 : Int), (7 : Int), (11 : Int), (13 : Int), (17 : Int), (19 : Int)] y))) inx0) (fun prime => (sg_if_seq (ev_not (ev_tV (ev_callv (vl_cons (vl_V rfl) (vl_cons (vl_V rfl) vl_nil)) (t__law_places_hold cubic prime)))) inx0 (Sg.lvseq (sf_retv (en := eBo) (v := false) (vl_C _))) (sg_skip_seq (sg_v (Γ1 := [none, some (.v (eST ())), some (.v ((eT4 eI eI eI eI) cubic)), none, none, none, none, none, none, none, none, none, none, none, none, none, none, none, none, none, some (.v (eI prime)), some (.v (eI cubic.1)), some (.v (eI cubic.2.1)), some (.v (eI cubic.2.2.1)), some (.v (eI cubic.2.2.2)), none, none]) (sv_asg (vl_V rfl) (tg_t (tgs_cons tg_n (tgs_cons tg_n (tgs_cons tg_n (tgs_cons tg_n tgs_nil)))))) (sg_seq (Γ1 := fun small : (Int × Int × Int × Int) => [none, some (.v (eST ())), some (.v ((eT4 eI eI eI eI) cubic)), none, none, none, none, none, none, none, none, none, none, none, none, none, none, none, none, none, some (.v (eI prime)), some (.v (eI cubic.1)), some (.v (eI cubic.2.1)), some (.v (eI cubic.2.2.1)), some (.v (eI cubic.2.2.2)), some (.v ((eT4 eI eI eI eI) small)), none]) (s1_set (ev_call (g := (eT4 eI eI eI eI)) (ca_e (ev_tup (g := (eT4 eI eI eI eI)) (ca_e (ev_ar (AX.mul (AX.mul (AX.at (eV 20) prime) (AX.at (eV 20) prime)) (AX.at (eV 21) cubic.1)) 3 ⟨⟨(vl_V rfl), (vl_V rfl)⟩, (vl_V rfl)⟩ rfl rfl) fun x => (ca_e (ev_ar (AX.mul (AX.at (eV 20) prime) (AX.at (eV 22) cubic.2.1)) 2 ⟨(vl_V rfl), (vl_V rfl)⟩ rfl rfl) fun x1 => (ca_v (vl_V rfl) (ca_v (vl_V rfl) (ca_nil (tup_k (g := (eT4 eI eI eI eI)) (v := (x, x1, cubic.2.2.1, cubic.2.2.2)) rfl))))))) fun x2 => (ca_e (ev_callv (vl_cons (vl_V rfl) (vl_cons (vl_C _) (vl_cons (vl_C _) vl_nil))) (t__law_matrix (3 : Int) (3 : Int))) fun x3 => (ca_nil (call_k (t__law_cubic_turned x2 x3)))))) inx0) (fun small => (sg_if_seq (ev_or (ev_not (ev_tV (ev_callv (vl_cons (vl_V rfl) (vl_cons (vl_V rfl) vl_nil)) (t__law_places_hold small prime)))) (ev_tV (ev_e2v (g := eBo) (ev_callv (vl_cons (vl_V rfl) (vl_cons (vl_V rfl) vl_nil)) (t_is_largest_at small prime)) (vl_C _) (fun x4 => (o2_of (g := eBo) (v := (!decide (x4 = false))) (fun _ => rfl)))))) inx0 (Sg.lvseq (sf_retv (en := eBo) (v := false) (vl_C _))) (sg_skip_seq (sg_seq (Γ1 := fun unit : Int => [none, some (.v (eST ())), some (.v ((eT4 eI eI eI eI) cubic)), none, none, none, none, none, none, none, none, some (.v (eI unit)), none, none, none, none, none, none, none, none, some (.v (eI prime)), some (.v (eI cubic.1)), some (.v (eI cubic.2.1)), some (.v (eI cubic.2.2.1)), some (.v (eI cubic.2.2.2)), some (.v ((eT4 eI eI eI eI) small)), none]) (s1_set (ev_ve2 (g := eI) (vl_C _) (ev_callv (vl_cons (vl_V rfl) (vl_cons (vl_e2 (vl_V rfl) (vl_C _) (fun _ => rfl)) vl_nil)) (draw_fn (prime - (1 : Int)))) (fun y1 => (o2_of (g := eI) (v := ((1 : Int) + y1)) (fun _ => rfl)))) inx0) (fun unit => (sg_seq (Γ1 := fun kind : (Int × Int × Int × Int) => [none, some (.v (eST ())), some (.v ((eT4 eI eI eI eI) cubic)), none, none, none, none, none, none, none, none, some (.v (eI unit)), none, none, none, none, none, none, none, none, some (.v (eI prime)), some (.v (eI cubic.1)), some (.v (eI cubic.2.1)), some (.v (eI cubic.2.2.1)), some (.v (eI cubic.2.2.2)), some (.v ((eT4 eI eI eI eI) small)), some (.v ((eT4 eI eI eI eI) kind))]) (s1_set (ev_call (g := (eT4 eI eI eI eI)) (ca_e (ev_tup (g := (eT4 eI eI eI eI)) (ca_v (vl_C _) (ca_e (ev_ar (AX.mul (AX.at (eV 20) prime) (AX.at (eV 22) cubic.2.1)) 2 ⟨(vl_V rfl), (vl_V rfl)⟩ rfl rfl) fun x5 => (ca_e (ev_ar (AX.mul (AX.at (eV 20) prime) (AX.at (eV 23) cubic.2.2.1)) 2 ⟨(vl_V rfl), (vl_V rfl)⟩ rfl rfl) fun x6 => (ca_e (ev_ar (AX.mul (AX.at (eV 20) prime) (AX.at (eV 11) unit)) 2 ⟨(vl_V rfl), (vl_V rfl)⟩ rfl rfl) fun x7 => (ca_nil (tup_k (g := (eT4 eI eI eI eI)) (v := ((1 : Int), x5, x6, x7)) rfl))))))) fun x8 => (ca_e (ev_callv (vl_cons (vl_V rfl) (vl_cons (vl_C _) (vl_cons (vl_C _) vl_nil))) (t__law_matrix (3 : Int) (3 : Int))) fun x9 => (ca_nil (call_k (t__law_cubic_turned x8 x9)))))) inx0) (fun kind => (sg_if_seq (ev_or (ev_tV (ev_e2v (g := eBo) (ev_callv (vl_cons (vl_V rfl) (vl_cons (vl_V rfl) vl_nil)) (t_is_largest_at kind prime)) (vl_C _) (fun x10 => (o2_of (g := eBo) (v := (!decide (x10 = true))) (fun _ => rfl))))) (ev_or (ev_tV (ev_e2v (g := eBo) (ev_callv (vl_cons (vl_V rfl) (vl_cons (vl_V rfl) vl_nil)) (t_splitting_of kind prime)) (vl_C _) (fun x11 => (o_neS _ _)))) (ev_tV (ev_e2v (g := eBo) (ev_e2 (g := eI) (ev_B (g := eI) (ca_e (ev_callv (vl_cons (vl_V rfl) vl_nil) (t__law_cubic_size kind)) fun x12 => (ca_nil (b_of (g := eI) (v := x12) (fun _ => rfl))))) (ev_ar (AX.mul (AX.at (eV 20) prime) (AX.at (eV 20) prime)) 2 ⟨(vl_V rfl), (vl_V rfl)⟩ rfl rfl) (fun x13 y2 => (o_mod _ _))) (vl_C _) (fun x14 => (o2_of (g := eBo) (v := (!decide (x14 = (0 : Int)))) (fun _ => ne_k kI x14 (0 : Int)))))))) inx0 (Sg.lvseq (sf_retv (en := eBo) (v := false) (vl_C _))) (sg_skip_seq (sg_unlv (sf_ret (ev_eAnd (ev_e2v (g := eBo) (ev_callv (vl_cons (vl_V rfl) (vl_cons (vl_C _) vl_nil)) (t__law_refused cubic (4 : Int))) (vl_C _) (fun x15 => (o_eqS _ _))) (ev_eAnd (ev_e2v (g := eBo) (ev_callv (vl_cons (vl_V rfl) (vl_cons (vl_C _) vl_nil)) (t__law_refused cubic (1 : Int))) (vl_C _) (fun x16 => (o_eqS _ _))) (ev_eAnd (ev_e2v (g := eBo) (ev_callv (vl_cons (vl_V rfl) (vl_cons (vl_C _) vl_nil)) (t__law_refused cubic (401 : Int))) (vl_C _) (fun x17 => (o_eqS _ _))) (ev_e2v (g := eBo) (ev_callv (vl_cons (vl_V rfl) (vl_cons (vl_V rfl) vl_nil)) (t__law_refused cubic prime)) (vl_C _) (fun x18 => (o_eqS _ _)))))) inx0)))))))))))))))))
  exact h
end DL.TL
namespace DL.TL
open PySem PySem.Spec PyProof.Rows L2 LW
/-! factorization, is_prime -/
theorem strip_ok (p : Nat) (hp : 2 ≤ p) (hp2 : p < 1073741824) : ∀ (n : Nat) (c : Int), 1 ≤ n → ∃ (m k : Nat), T.wh (fun z1 : (Int × Int) => ((T.mod z1.1 (p : Int)) >>= fun x1 => (Pure.pure (decide (x1 = (0 : Int)))))) (fun z1 : (Int × Int) => ((T.divP z1.1 (p : Int)) >>= fun number1 =>
  (Pure.pure (number1, (z1.2 + (1 : Int)))))) ((n : Int), c) = Pure.pure ((m : Int), c + k) ∧ n = m * p ^ k ∧ ¬ p ∣ m ∧ 1 ≤ m := by
  intro n
  induction n using Nat.strongRecOn with
  | _ n ih =>
    intro c hn
    have h0 : (0 : Int) < (p : Int) := by omega
    by_cases hd : p ∣ n
    · obtain ⟨r, rfl⟩ := hd
      have hr : 1 ≤ r := by
        rcases Nat.eq_zero_or_pos r with e | e
        · subst e; omega
        · exact e
      have hlt : r < p * r := by
        have : 2 * r ≤ p * r := Nat.mul_le_mul_right _ hp
        omega
      obtain ⟨m, k, e, e2, e3, e4⟩ := ih r hlt (c + 1) hr
      refine ⟨m, k + 1, ?_, ?_, e3, e4⟩
      · refine (T.wh_t (y := ((r : Int), c + 1)) ?_ ?_).trans ?_
        · rw [T.mod_pos h0]; simp
        · rw [T.divP_ok h0 (by omega)]
          simp [Int.mul_ediv_cancel_left _ (show (p : Int) ≠ 0 by omega)]
        · rw [e]; push_cast; congr 2; omega
      · rw [e2, Nat.pow_succ]; grind
    · refine ⟨n, 0, ?_, by simp, hd, hn⟩
      refine (T.wh_f ?_).trans (by simp)
      rw [T.mod_pos h0]
      have : ¬ ((n : Int) % (p : Int) = 0) := by
        intro e
        exact hd (Nat.dvd_of_mod_eq_zero (by exact_mod_cast e))
      simp [this]
theorem fac_ok (N : Nat) (h1 : 1 ≤ N) (h2 : N ≤ 1000000000000) : ∃ L, f_factorization (N : Int) = Pure.pure (cst L) ∧ Fac N L := by
  unfold f_factorization
  rw [if_neg (by simp; omega)]
  dsimp only
  obtain ⟨z, e, ⟨n, L, p, rfl, i1, i2, i3, i4, i5, i6, i7, i8, i9⟩, q⟩ := T.wh_inv
    (c := fun z : (Int × (List (Int × Int)) × Int) => ((T.ar [z.2.2, z.2.2] (z.2.2 * z.2.2)) >>= fun x => (Pure.pure (decide (x ≤ z.1)))))
    (k := fun z : (Int × (List (Int × Int)) × Int) => ((T.wh (fun z1 : (Int × Int) => ((T.mod z1.1 z.2.2) >>= fun x1 => (Pure.pure (decide (x1 = (0 : Int)))))) (fun z1 : (Int × Int) => ((T.divP z1.1 z.2.2) >>= fun number1 =>
  (Pure.pure (number1, (z1.2 + (1 : Int)))))) (z.1, (0 : Int))) >>= fun z1 : (Int × Int) =>
  ((if (decide ((0 : Int) < z1.2)) = true then ((T.app z.2.1 (z.2.2, z1.2)) >>= fun found2 => Pure.pure found2)
  else (Pure.pure z.2.1)) >>= fun found1 : (List (Int × Int)) =>
  (Pure.pure (z1.1, found1, (z.2.2 + (if (decide (z.2.2 = (2 : Int))) = true then (1 : Int) else (2 : Int))))))))
    (fun z => ∃ (n : Nat) (L : List (Nat × Nat)) (p : Nat), z = ((n : Int), cst L, (p : Int)) ∧ pw L * n = N ∧ 1 ≤ n ∧ L.Pairwise (fun a b => a.1 < b.1) ∧ (∀ q ∈ L, Pr q.1 ∧ 1 ≤ q.2 ∧ q.1 < p) ∧ 2 ≤ p ∧ (p = 2 ∨ p % 2 = 1) ∧ (∀ d, 2 ≤ d → d < p → ¬ d ∣ n) ∧ L.length ≤ p ∧ p ≤ 1000003)
    (fun z => (1000010 - z.2.2).toNat) (fun z => decide (z.2.2 * z.2.2 ≤ z.1))
    (fun z ⟨n, L, p, hz, i1, i2, i3, i4, i5, i6, i7, i8, i9⟩ => by
      subst hz
      dsimp only
      rw [T.ar_ok (by intro z hz; simp at hz; subst hz; exact sm_of (by omega) (by omega))]
      rfl)
    (fun z ⟨n, L, p, hz, i1, i2, i3, i4, i5, i6, i7, i8, i9⟩ hq => by
      subst hz
      have hq := of_decide_eq_true hq
      dsimp only at hq ⊢
      obtain ⟨m, k, e, e2, e3, e4⟩ := strip_ok p i5 (by omega) n 0 i2
      rw [e]
      have hnN : n ≤ N := by rw [← i1]; exact Nat.le_mul_of_pos_left _ (pw_pos fun q m => (i4 q m).1)
      have hpp : p * p ≤ n := by exact_mod_cast hq
      have hpb : p ≤ 1000000 := by
        refine Classical.byContradiction fun hn => ?_
        have : 1000001 * 1000001 ≤ p * p := Nat.mul_le_mul (by omega) (by omega)
        omega
      have hdm : ∀ d, d ∣ m → d ∣ n := fun d hd => by rw [e2]; exact Nat.dvd_trans hd (Nat.dvd_mul_right _ _)
      -- the step of p
      have hst : ∃ p' : Nat, (p : Int) + (if (decide ((p : Int) = (2 : Int))) = true then (1 : Int) else (2 : Int)) = (p' : Int) ∧ p < p' ∧ p' ≤ p + 2 ∧ p' % 2 = 1 ∧ ∀ d, 2 ≤ d → d < p' → ¬ d ∣ m := by
        by_cases h2 : p = 2
        · refine ⟨3, by subst h2; rfl, by omega, by omega, by omega, fun d d1 d2 => ?_⟩
          have : d = p := by omega
          subst this; exact e3
        · refine ⟨p + 2, by rw [if_neg (by simp; omega)]; push_cast; rfl, by omega, by omega, by omega, fun d d1 d2 hd => ?_⟩
          by_cases h3 : d < p
          · exact i7 d d1 h3 (hdm d hd)
          · by_cases h4 : d = p
            · subst h4; exact e3 hd
            · have : 2 ∣ d := by omega
              exact i7 2 (by omega) (by omega) (hdm 2 (Nat.dvd_trans this hd))
      obtain ⟨p', s1, s2, s3, s4, s5⟩ := hst
      rw [T.ret_bind]
      dsimp only
      rw [s1]
      by_cases hk : k = 0
      · subst hk
        simp only [Nat.pow_zero, Nat.mul_one] at e2
        subst e2
        refine ⟨((n : Int), cst L, (p' : Int)), ?_, ⟨n, L, p', rfl, i1, i2, i3, fun q m => ⟨(i4 q m).1, (i4 q m).2.1, by have := (i4 q m).2.2; omega⟩, by omega, .inr s4, s5, by omega, by omega⟩, by dsimp only; omega⟩
        rw [if_neg (by simp)]
        rfl
      · have hpr : Pr p := by
          refine pr_of i5 fun d d1 d2 hd => i7 d d1 d2 (Nat.dvd_trans hd ?_)
          rw [e2]
          have : k = (k - 1) + 1 := by omega
          rw [this, Nat.pow_succ]
          exact Nat.dvd_trans (Nat.dvd_mul_left _ _) (Nat.dvd_mul_left _ _)
        refine ⟨((m : Int), cst (L ++ [(p, k)]), (p' : Int)), ?_, ⟨m, L ++ [(p, k)], p', rfl, ?_, e4, ?_, ?_, by omega, .inr s4, s5, by simp; omega, by omega⟩, by dsimp only; omega⟩
        · rw [if_pos (by simp; omega), T.app_ok (by rw [cst_len]; omega)]
          simp [cst_append, cst]
        · rw [pw_append, ← i1, e2]
          simp only [pw, Nat.mul_one]
          grind
        · refine List.pairwise_append.mpr ⟨i3, List.pairwise_singleton .., fun a ha b hb => ?_⟩
          rcases List.mem_singleton.mp hb with rfl
          exact (i4 a ha).2.2
        · intro q hq
          rcases List.mem_append.mp hq with hq | hq
          · exact ⟨(i4 q hq).1, (i4 q hq).2.1, by have := (i4 q hq).2.2; omega⟩
          · rcases List.mem_singleton.mp hq with rfl
            exact ⟨hpr, by show 1 ≤ k; omega, s2⟩)
    ((N : Int), [], 2) ⟨N, [], 2, rfl, by simp [pw], h1, List.Pairwise.nil, fun q m => (nomatch m), by decide, .inl rfl, fun d d1 d2 => by omega, by decide, by decide⟩
  rw [e, T.ret_bind]
  have q := of_decide_eq_false q
  dsimp only at q ⊢
  by_cases hn : n = 1
  · subst hn
    refine ⟨L, ?_, ⟨by simpa using i1, i3, fun q m => ⟨(i4 q m).1, (i4 q m).2.1⟩⟩⟩
    rw [if_neg (by simp)]
    rfl
  · have hpr : Pr n := by
      refine pr_of (by omega) fun d d1 d2 hd => ?_
      obtain ⟨r, er⟩ := hd
      have hpp : ¬ p * p ≤ n := by exact_mod_cast q
      have hdp : p ≤ d := Classical.byContradiction fun hh => i7 d d1 (by omega) ⟨r, er⟩
      have hr : 2 ≤ r := by
        refine Classical.byContradiction fun hh => ?_
        have : r = 0 ∨ r = 1 := by omega
        rcases this with e | e <;> subst e <;> omega
      have hrp : p ≤ r := Classical.byContradiction fun hh => i7 r hr (by omega) ⟨d, by rw [er]; exact Nat.mul_comm _ _⟩
      have := Nat.mul_le_mul hdp hrp
      omega
    refine ⟨L ++ [(n, 1)], ?_, ⟨?_, ?_, ?_⟩⟩
    · rw [if_pos (by simp; omega), T.app_ok (by rw [cst_len]; omega)]
      simp [cst_append, cst]
    · rw [pw_append, ← i1]; simp [pw]
    · refine List.pairwise_append.mpr ⟨i3, List.pairwise_singleton .., fun a ha b hb => ?_⟩
      rcases List.mem_singleton.mp hb with rfl
      have h4 := i4 a ha
      refine Classical.byContradiction fun hh => i7 n (by omega) (by dsimp only at hh; omega) (Nat.dvd_refl n)
    · intro q hq
      rcases List.mem_append.mp hq with hq | hq
      · exact ⟨(i4 q hq).1, (i4 q hq).2.1⟩
      · rcases List.mem_singleton.mp hq with rfl
        exact ⟨hpr, Nat.le_refl 1⟩
theorem isp_ok (N : Nat) (h2 : N ≤ 1000000000000) (b : Bool) (hb : b = true ↔ Pr N) : f_is_prime (N : Int) = Pure.pure b := by
  unfold f_is_prime
  by_cases h : 1 < N
  · rw [if_pos (by simp; omega)]
    obtain ⟨L, e, hL⟩ := fac_ok N (by omega) h2
    rw [e, T.ret_bind]
    congr 1
    rw [Bool.eq_iff_iff, hb, decide_eq_true_iff]
    constructor
    · intro q
      have : L = [(N, 1)] := cst_inj (by rw [q]; rfl)
      have hp := hL.pr (N, 1) (by rw [this]; exact List.mem_singleton.mpr rfl)
      exact hp.1
    · intro hp
      rw [Fac.uniq hL (fac_prime hp)]; rfl
  · rw [if_neg (by simp; omega)]
    congr 1
    cases b with
    | false => rfl
    | true => have := (hb.mp rfl).1; omega
end DL.TL
namespace DL.TL
open PySem PySem.Spec PyProof.Rows L2 LW
/-! values, turned forms -/
abbrev Cb := Int × Int × Int × Int
def S4 (C : Cb) : Prop := Sm C.1 ∧ Sm C.2.1 ∧ Sm C.2.2.1 ∧ Sm C.2.2.2
def cval (C : Cb) (x y : Int) : Int := C.1 * x * x * x + C.2.1 * x * x * y + C.2.2.1 * x * y * y + C.2.2.2 * y * y * y
def turn (C M : Cb) : Cb := (cval C M.1 M.2.2.1,
  3 * C.1 * M.1 * M.1 * M.2.1 + C.2.1 * (M.1 * M.1 * M.2.2.2 + 2 * M.1 * M.2.1 * M.2.2.1) + C.2.2.1 * (M.2.1 * M.2.2.1 * M.2.2.1 + 2 * M.1 * M.2.2.1 * M.2.2.2) + 3 * C.2.2.2 * M.2.2.1 * M.2.2.1 * M.2.2.2,
  3 * C.1 * M.1 * M.2.1 * M.2.1 + C.2.1 * (M.2.1 * M.2.1 * M.2.2.1 + 2 * M.1 * M.2.1 * M.2.2.2) + C.2.2.1 * (M.1 * M.2.2.2 * M.2.2.2 + 2 * M.2.1 * M.2.2.1 * M.2.2.2) + 3 * C.2.2.2 * M.2.2.1 * M.2.2.2 * M.2.2.2,
  cval C M.2.1 M.2.2.2)
theorem fval_ok {C : Cb} {x y : Int} (hC : S4 C) (hx : Sm x) (hy : Sm y) : f_cubic_value C x y = Pure.pure (cval C x y) := by
  unfold f_cubic_value
  exact T.ar_ok (by simp [hC.1, hC.2.1, hC.2.2.1, hC.2.2.2, hx, hy])
theorem flval_ok {C : Cb} {x y : Int} (hC : S4 C) (hx : Sm x) (hy : Sm y) : f__law_cubic_value C x y = Pure.pure (cval C x y) := by
  unfold f__law_cubic_value
  exact T.ar_ok (by simp [hC.1, hC.2.1, hC.2.2.1, hC.2.2.2, hx, hy])
theorem fturn_ok {C M : Cb} (hC : S4 C) (hM : S4 M) : f_turned_cubic C M = Pure.pure (turn C M) := by
  unfold f_turned_cubic
  rw [fval_ok hC hM.1 hM.2.2.1, T.ret_bind, fval_ok hC hM.2.1 hM.2.2.2, T.ret_bind, T.ar_ok (by simp [hC.1, hC.2.1, hC.2.2.1, hC.2.2.2, hM.1, hM.2.1, hM.2.2.1, hM.2.2.2]), T.ret_bind, T.ar_ok (by simp [hC.1, hC.2.1, hC.2.2.1, hC.2.2.2, hM.1, hM.2.1, hM.2.2.1, hM.2.2.2]), T.ret_bind]
  rfl
theorem flturn_ok {C M : Cb} (hC : S4 C) (hM : S4 M) : f__law_cubic_turned C M = Pure.pure (turn C M) := by
  unfold f__law_cubic_turned
  rw [T.ar_ok (by simp [hC.1, hC.2.1, hC.2.2.1, hC.2.2.2, hM.1, hM.2.1, hM.2.2.1, hM.2.2.2]), T.ret_bind, T.ar_ok (by simp [hC.1, hC.2.1, hC.2.2.1, hC.2.2.2, hM.1, hM.2.1, hM.2.2.1, hM.2.2.2]), T.ret_bind, T.ar_ok (by simp [hC.1, hC.2.1, hC.2.2.1, hC.2.2.2, hM.1, hM.2.1, hM.2.2.1, hM.2.2.2]), T.ret_bind, T.ar_ok (by simp [hC.1, hC.2.1, hC.2.2.1, hC.2.2.2, hM.1, hM.2.1, hM.2.2.1, hM.2.2.2]), T.ret_bind]
  congr 1
  unfold turn
  simp only [Prod.mk.injEq]
  refine ⟨by unfold cval; rfl, ?_, ?_, by unfold cval; rfl⟩ <;> grind
/-! the primes -/
def PRS : List Nat := [2, 3, 5, 7, 11, 13, 17, 19]
theorem prs_pr : ∀ p ∈ PRS, Pr p := by
  have h : ∀ p ∈ PRS, 2 ≤ p ∧ ∀ d, d < p → 2 ≤ d → ¬ d ∣ p := by decide
  exact fun p m => pr_of (h p m).1 fun d d1 d2 => (h p m).2 d d2 d1
theorem prs_le : ∀ p ∈ PRS, 2 ≤ p ∧ p ≤ 19 := by decide
theorem isp_prs {p : Nat} (h : p ∈ PRS) : f_is_prime (p : Int) = Pure.pure true := isp_ok p (by have := prs_le p h; omega) true (by simp [prs_pr p h])
theorem isp_4 : f_is_prime 4 = Pure.pure false := isp_ok 4 (by decide) false (by
  simp
  intro h
  rcases h.2 2 (by decide) with e | e <;> omega)
theorem isp_1 : f_is_prime 1 = Pure.pure false := isp_ok 1 (by decide) false (by
  simp
  intro h
  have := h.1
  omega)
theorem isp_401 : f_is_prime 401 = Pure.pure true := isp_ok 401 (by decide) true (by
  have h : ∀ d, d < 401 → 2 ≤ d → ¬ d ∣ 401 := by decide +kernel
  simp
  exact pr_of (by decide) fun d d1 d2 => h d d2 d1)
/-! the points modulo p -/
def allP (p : Nat) : List (Int × Int) := (rangeI 0 p).map (fun x => (x, 1)) ++ [(1, 0)]
def pts (p : Nat) : List (Int × Int) := isortP (allP p)
theorem allP_sm {p : Nat} (h : p ∈ PRS) : ∀ q ∈ allP p, smP q = true := by
  have := prs_le p h
  intro q hq
  rcases List.mem_append.mp hq with hq | hq
  · obtain ⟨x, hx, rfl⟩ := List.mem_map.mp hq
    have := mem_rangeI.mp hx
    unfold smP; simp; omega
  · rcases List.mem_singleton.mp hq with rfl
    rfl
theorem isortP_perm {l : List (Int × Int)} (h : ∀ p ∈ l, smP p = true) : (isortP l).Perm l := by
  unfold isortP
  have := (isort_perm (l.map pcode)).map pdec
  rwa [map_dec h] at this
theorem pts_mem {p : Nat} (h : p ∈ PRS) (q : Int × Int) : q ∈ pts p ↔ q ∈ allP p := (isortP_perm (allP_sm h)).mem_iff
theorem pts_of {p : Nat} (h : p ∈ PRS) {q : Int × Int} (m : q ∈ pts p) : (q.2 = 1 ∧ 0 ≤ q.1 ∧ q.1 < p) ∨ q = (1, 0) := by
  rw [pts_mem h] at m
  rcases List.mem_append.mp m with m | m
  · obtain ⟨x, hx, rfl⟩ := List.mem_map.mp m
    exact .inl ⟨rfl, mem_rangeI.mp hx⟩
  · exact .inr (List.mem_singleton.mp m)
theorem pts_sm {p : Nat} (h : p ∈ PRS) {q : Int × Int} (m : q ∈ pts p) : Sm q.1 ∧ Sm q.2 ∧ 0 ≤ q.2 ∧ q.2 ≤ 1 := by
  have hp := prs_le p h
  rcases pts_of h m with ⟨h1, h2, h3⟩ | rfl
  · exact ⟨sm_of (by omega) (by omega), sm_of (by omega) (by omega), by omega, by omega⟩
  · exact ⟨sm_lit, sm_lit, by decide, by decide⟩
theorem pts_len {p : Nat} (h : p ∈ PRS) : (pts p).length ≤ 20 := by
  have := prs_le p h
  show (isortP (allP p)).length ≤ 20
  rw [(isortP_perm (allP_sm h)).length_eq]
  simp [allP, len_rangeI]; omega
/-! roots, how often, small -/
def tw (q : Int × Int) : Cb := if q.2 = 1 then (q.1, -1, 1, 0) else (1, 0, 0, 1)
def zr (C : Cb) (p : Nat) (q : Int × Int) : Bool := decide (cval C q.1 q.2 % p = 0)
def rts (C : Cb) (p : Nat) : List (Int × Int) := (pts p).filter (zr C p)
def cntO (C : Cb) (p : Nat) (q : Int × Int) : Int := if (turn C (tw q)).2.1 % p ≠ 0 then 1 else if (turn C (tw q)).2.2.1 % p ≠ 0 then 2 else 3
def sml (C : Cb) (p : Nat) (q : Int × Int) : Bool := decide ((turn C (tw q)).2.1 % p = 0) && decide ((turn C (tw q)).1 % (p * p) = 0)
def allZ (C : Cb) (p : Nat) : Bool := decide (C.1 % p = 0) && decide (C.2.1 % p = 0) && decide (C.2.2.1 % p = 0) && decide (C.2.2.2 % p = 0)
theorem tw_sm {p : Nat} (h : p ∈ PRS) {q : Int × Int} (m : q ∈ pts p) : S4 (tw q) := by
  have := (pts_sm h m).1
  unfold tw
  split
  · exact ⟨this, sm_lit (z := -1), sm_lit (z := 1), sm_lit (z := 0)⟩
  · exact ⟨sm_lit (z := 1), sm_lit (z := 0), sm_lit (z := 0), sm_lit (z := 1)⟩
section
variable {C : Cb} {p : Nat} (hC : S4 C) (h : p ∈ PRS)
include hC h
theorem roots_ok : f_roots_modulo_prime C p = Pure.pure (rts C p) := by
  have hp := prs_le p h
  have h0 : (0 : Int) < (p : Int) := by omega
  unfold f_roots_modulo_prime
  rw [isp_prs h, T.ret_bind, T.ret_bind, if_neg (by decide), if_neg (by simp; omega), T.rng1_ok (by omega) (by omega), T.ret_bind,
    T.comp_pure (c' := fun x => zr C p (x, 1)) (e' := fun x => (x, (1 : Int))) (fun x m => by
      have := mem_rangeI.mp m
      rw [fval_ok hC (sm_of (by omega) (by omega)) sm_lit, T.ret_bind, T.mod_pos h0, T.ret_bind]; rfl) (fun x m _ => rfl) (by rw [len_rangeI]; omega),
    T.ret_bind, T.mod_pos h0, T.ret_bind, T.ret_bind]
  have e1 : ((rangeI 0 p).filter fun x => zr C p (x, 1)).map (fun x => (x, (1 : Int))) = ((rangeI 0 p).map fun x => (x, (1 : Int))).filter (zr C p) := by rw [List.filter_map]; rfl
  have el : (((rangeI 0 p).map fun x => (x, (1 : Int))).filter (zr C p)).length ≤ 20 := by
    refine Nat.le_trans (List.length_filter_le _ _) ?_
    rw [List.length_map, len_rangeI]; omega
  have e2 : cval C 1 0 = C.1 := by unfold cval; simp
  have e3 : ∀ l, l = (allP p).filter (zr C p) → T.sortP l = Pure.pure (rts C p) := by
    rintro l rfl
    rw [T.sortP_ok ?_ ?_, isortP_filter _ _ (allP_sm h)]; rfl
    · refine Nat.lt_of_le_of_lt (List.length_filter_le _ _) ?_
      simp [allP, len_rangeI]; omega
    · exact fun q m => allP_sm h q (List.mem_filter.mp m).1
  rw [e1]
  by_cases hz : C.1 % p = 0
  · rw [if_pos (by simpa using hz), T.app_ok (by omega), T.ret_bind]
    refine e3 _ ?_
    unfold allP
    rw [List.filter_append]
    congr 1
    simp [zr, e2, hz]
  · rw [if_neg (by simpa using hz), T.ret_bind]
    refine e3 _ ?_
    unfold allP
    rw [List.filter_append]
    simp [zr, e2, hz]
theorem count_ok {q : Int × Int} (m : q ∈ pts p) : f_root_count C q p = Pure.pure (cntO C p q) := by
  have hp := prs_le p h
  have h0 : (0 : Int) < (p : Int) := by omega
  unfold f_root_count
  have e : (if (decide (q.2 = (1 : Int))) = true then (q.1, (-1 : Int), (1 : Int), (0 : Int)) else ((1 : Int), (0 : Int), (0 : Int), (1 : Int))) = tw q := by
    unfold tw; simp
  rw [e, fturn_ok hC (tw_sm h m), T.ret_bind, T.mod_pos h0, T.ret_bind, T.ret_bind, T.mod_pos h0, T.ret_bind, T.ret_bind]
  unfold cntO
  by_cases h1 : (turn C (tw q)).2.1 % p = 0
  · by_cases h2 : (turn C (tw q)).2.2.1 % p = 0
    · simp [h1, h2]
    · simp [h1, h2]
  · simp [h1]
theorem allz_ok : (T.comp [C.1, C.2.1, C.2.2.1, C.2.2.2] (fun _ => Pure.pure true) (fun number : Int => ((T.mod number p) >>= fun x => (Pure.pure (decide (x = (0 : Int))))))) >>= (fun x1 => (Pure.pure (x1.all id) : T Bool)) = Pure.pure (allZ C p) := by
  have hp := prs_le p h
  have h0 : (0 : Int) < (p : Int) := by omega
  rw [T.comp_all (e' := fun x : Int => decide (x % p = 0)) (fun a _ => by rw [T.mod_pos h0, T.ret_bind]) (by simp), T.ret_bind]
  simp [allZ, Bool.and_assoc]
theorem largest_ok : f_is_largest_at C p = Pure.pure (!allZ C p && !(rts C p).any (sml C p)) := by
  have hp := prs_le p h
  have h0 : (0 : Int) < (p : Int) := by omega
  have hp2 : (0 : Int) < (p : Int) * (p : Int) := Int.mul_pos h0 h0
  have hps : Sm (p : Int) := sm_of (by omega) (by omega)
  unfold f_is_largest_at
  rw [allz_ok hC h, T.ret_bind]
  cases allZ C p with
  | true => rw [if_pos rfl]; rfl
  | false =>
    rw [if_neg (by decide), roots_ok hC h, T.ret_bind, T.foF_find (q := sml C p) (v := false) _ _ (fun q m => by
      have m' := (List.mem_filter.mp m).1
      have e : (if (decide (q.2 = (1 : Int))) = true then (q.1, (-1 : Int), (1 : Int), (0 : Int)) else ((1 : Int), (0 : Int), (0 : Int), (1 : Int))) = tw q := by
        unfold tw; simp
      rw [e, fturn_ok hC (tw_sm h m'), T.ret_bind, T.mod_pos h0, T.ret_bind, T.ret_bind]
      unfold sml
      by_cases h1 : (turn C (tw q)).2.1 % p = 0
      · rw [if_pos (by simpa using h1), T.ar_ok (by simp [hps]), T.ret_bind, T.mod_pos hp2, T.ret_bind, T.ret_bind]
        by_cases h2 : (turn C (tw q)).1 % (p * p) = 0
        · simp [h1, h2]
        · simp [h1, h2]
      · rw [if_neg (by simpa using h1), T.ret_bind]
        simp [h1]), T.ret_bind]
    cases hh : (rts C p).any (sml C p) with
    | true => rfl
    | false => rfl
theorem counts_ok : f__law_counts C p = Pure.pure ((rts C p).map fun q => (q, cntO C p q, sml C p q)) := by
  have hp := prs_le p h
  have h0 : (0 : Int) < (p : Int) := by omega
  have hp2 : (0 : Int) < (p : Int) * (p : Int) := Int.mul_pos h0 h0
  have hps : Sm (p : Int) := sm_of (by omega) (by omega)
  unfold f__law_counts
  dsimp only
  rw [T.rng1_ok (by omega) (by omega), T.ret_bind, T.comp_all (e' := fun x => (x, (1 : Int))) (fun _ _ => rfl) (by rw [len_rangeI]; omega), T.ret_bind,
    T.cat_ok (by simp [len_rangeI]; omega), T.ret_bind, show (rangeI 0 p).map (fun x => (x, (1 : Int))) ++ [(1, 0)] = allP p from rfl, T.sortP_ok (by simp [allP, len_rangeI]; omega) (allP_sm h), T.ret_bind]
  rw [show isortP (allP p) = pts p from rfl]
  have hl := pts_len h
  rw [T.fo_app (q := zr C p) (r := fun q => (q, cntO C p q, sml C p q)) (pts p) [] (by simp; omega) (fun x hx q m => by
    have hs := pts_sm h m
    rw [flval_ok hC hs.1 hs.2.1, T.ret_bind, T.ret_bind, T.mod_pos h0, T.ret_bind, T.ret_bind]
    by_cases hz : cval C q.1 q.2 % p = 0
    · rw [if_pos (by simpa using hz)]
      have ez : zr C p q = true := by unfold zr; simpa using hz
      have ei : T.ix [((1 : Int), (0 : Int), (0 : Int), (1 : Int)), (q.1, (-1 : Int), (1 : Int), (0 : Int))] q.2 = Pure.pure (tw q) := by
        have : q.2 = ((0 : Nat) : Int) ∨ q.2 = ((1 : Nat) : Int) := by omega
        rcases this with e | e
        · rw [e, T.ix_nat (a := (1, 0, 0, 1)) rfl]; unfold tw; rw [e]; rfl
        · rw [e, T.ix_nat (a := (q.1, -1, 1, 0)) rfl]; unfold tw; rw [e]; rfl
      rw [ei, T.ret_bind, flturn_ok hC (tw_sm h m), T.ret_bind, T.mod_pos h0, T.ret_bind, T.ret_bind, T.mod_pos h0, ez]
      have ec : ∀ (F : Int → T (List ((Int × Int) × Int × Bool))), ((if decide ((turn C (tw q)).2.1 % p = 0) = true then ((((((Pure.pure ((turn C (tw q)).2.2.1 % p) : T Int) >>= fun x8 => (Pure.pure (decide (x8 = (0 : Int))) : T Bool)) >>= fun x9 => (Pure.pure (if x9 = true then (1 : Int) else 0) : T Int)) >>= fun y => (Pure.pure ((2 : Int) + y) : T Int)) >>= fun count1 => Pure.pure count1))
          else (Pure.pure (1 : Int))) >>= F) = F (cntO C p q) := fun F => by
        unfold cntO
        by_cases h1 : (turn C (tw q)).2.1 % p = 0
        · rw [if_pos (by simpa using h1), T.ret_bind, T.ret_bind, T.ret_bind, T.ret_bind, T.ret_bind]
          by_cases h2 : (turn C (tw q)).2.2.1 % p = 0
          · simp [h1, h2]
          · simp [h1, h2]
        · rw [if_neg (by simpa using h1), T.ret_bind]
          simp [h1]
      rw [ec]
      have es : (if (decide ((turn C (tw q)).2.1 % p = 0)) = true then (((T.ar [(p : Int), (p : Int)] ((p : Int) * p)) >>= fun y1 => (T.mod (turn C (tw q)).1 y1)) >>= fun x11 => (Pure.pure (decide (x11 = (0 : Int))))) else Pure.pure false) = (Pure.pure (sml C p q) : T Bool) := by
        unfold sml
        by_cases h1 : (turn C (tw q)).2.1 % p = 0
        · rw [if_pos (by simpa using h1), T.ar_ok (by simp [hps]), T.ret_bind, T.mod_pos hp2, T.ret_bind]
          simp [h1]
        · rw [if_neg (by simpa using h1)]
          simp [h1]
      rw [T.ret_bind, es, T.ret_bind, T.ret_bind, T.app_ok hx, T.ret_bind]
      rfl
    · have ez : zr C p q = false := by unfold zr; simpa using hz
      rw [if_neg (by simpa using hz), ez]; rfl), T.ret_bind]
  rfl
end
end DL.TL
namespace DL.TL
open PySem PySem.Spec PyProof.Rows L2 LW
/-! how often all roots together: 0, 1 or 3, by going through forms -/
def hN (p a b c d x : Nat) : Nat := cond (Nat.beq ((((a * x + b) * x + c) * x + d) % p) 0) (cond (Nat.beq (((3 * a * x + 2 * b) * x + c) % p) 0) (cond (Nat.beq ((3 * a * x + b) % p) 0) 3 2) 1) 0
def hI (p a b c : Nat) : Nat := cond (Nat.beq (a % p) 0) (cond (Nat.beq (b % p) 0) (cond (Nat.beq (c % p) 0) 3 2) 1) 0
def sumGo (p a b c d : Nat) : Nat → Nat → Nat
  | 0, s => s
  | n + 1, s => sumGo p a b c d n (s + hN p a b c d n)
def sumN (p a b c d : Nat) : Nat := sumGo p a b c d p (hI p a b c)
def okS (n : Nat) : Bool := Nat.beq n 0 || Nat.beq n 1 || Nat.beq n 3
def allB : Nat → (Nat → Bool) → Bool
  | 0, _ => true
  | n + 1, f => f n && allB n f
theorem allB_at : ∀ {n : Nat} {f : Nat → Bool}, allB n f = true → ∀ i, i < n → f i = true
  | n + 1, f, h, i, hi => by
    unfold allB at h
    rw [Bool.and_eq_true] at h
    by_cases e : i = n
    · subst e; exact h.1
    · exact allB_at h.2 i (by omega)
def chkP (p : Nat) : Bool := allB p (fun b => allB p fun c => allB p fun d => okS (sumN p 1 b c d)) && (allB p (fun c => allB p fun d => okS (sumN p 0 1 c d)) && (allB p (fun d => okS (sumN p 0 0 1 d)) && okS (sumN p 0 0 0 1)))
theorem chk_prs : PRS.all chkP = true := by decide +kernel
theorem inv_prs : PRS.all (fun p => allB p fun r => Nat.beq r 0 || (List.range p).any fun k => Nat.beq (k * r % p) 1) = true := by decide +kernel
end DL.TL
namespace DL.TL
open PySem PySem.Spec PyProof.Rows L2 LW
theorem beq_cond {α : Type} (n : Nat) (x y : α) : cond (Nat.beq n 0) x y = if n = 0 then x else y := by
  cases n <;> rfl
def hq (C : Cb) (p : Nat) (q : Int × Int) : Int := if zr C p q = true then cntO C p q else 0
theorem emod_zero_iff {p : Nat} {z : Int} : z % (p : Int) = 0 ↔ (p : Int) ∣ z := ⟨Int.dvd_of_emod_eq_zero, Int.emod_eq_zero_of_dvd⟩
/-- z is 0 modulo p just as n is, if k z is n modulo p and k is a unit -/
theorem unit_iff {p n : Nat} {k k' z : Int} (hk : (p : Int) ∣ k * k' - 1) (h : (p : Int) ∣ k * z - n) : z % (p : Int) = 0 ↔ n % p = 0 := by
  have e : n % p = 0 ↔ (p : Int) ∣ (n : Int) := ⟨fun h => by exact_mod_cast Nat.dvd_of_mod_eq_zero h, fun h => Nat.mod_eq_zero_of_dvd (by exact_mod_cast h)⟩
  rw [emod_zero_iff, e]
  obtain ⟨u, hu⟩ := hk
  obtain ⟨w, hw⟩ := h
  constructor
  · rintro ⟨t, rfl⟩
    exact ⟨k * t - w, by grind⟩
  · rintro ⟨t, ht⟩
    refine ⟨k' * (w + t) - u * z, ?_⟩
    have e1 : k * z = p * (w + t) := by rw [ht] at hw; grind
    have e2 : k * k' = 1 + p * u := by omega
    have e3 : k' * (k * z) = (1 + p * u) * z := by rw [← e2]; grind
    rw [e1] at e3
    grind
section
variable {C : Cb} {p : Nat} {k k' : Int} {a b c d : Nat} (hk : (p : Int) ∣ k * k' - 1) (h1 : (p : Int) ∣ k * C.1 - a) (h2 : (p : Int) ∣ k * C.2.1 - b) (h3 : (p : Int) ∣ k * C.2.2.1 - c) (h4 : (p : Int) ∣ k * C.2.2.2 - d)
include hk h1 h2 h3 h4
theorem hq_x (x : Nat) : hq C p ((x : Int), 1) = hN p a b c d x := by
  obtain ⟨u1, h1⟩ := h1
  obtain ⟨u2, h2⟩ := h2
  obtain ⟨u3, h3⟩ := h3
  obtain ⟨u4, h4⟩ := h4
  have v : cval C (x : Int) 1 % (p : Int) = 0 ↔ (((a * x + b) * x + c) * x + d) % p = 0 := unit_iff hk (by
    refine ⟨u1 * x * x * x + u2 * x * x + u3 * x + u4, ?_⟩
    unfold cval
    push_cast
    grind)
  have w : (turn C ((x : Int), -1, 1, 0)).2.1 % (p : Int) = 0 ↔ ((3 * a * x + 2 * b) * x + c) % p = 0 := by
    have e : (turn C ((x : Int), -1, 1, 0)).2.1 = -(3 * C.1 * x * x + 2 * C.2.1 * x + C.2.2.1) := by unfold turn; grind
    rw [e, emod_zero_iff, Int.dvd_neg, ← emod_zero_iff]
    refine unit_iff hk ⟨3 * u1 * x * x + 2 * u2 * x + u3, ?_⟩
    push_cast
    grind
  have t : (turn C ((x : Int), -1, 1, 0)).2.2.1 % (p : Int) = 0 ↔ (3 * a * x + b) % p = 0 := by
    have e : (turn C ((x : Int), -1, 1, 0)).2.2.1 = 3 * C.1 * x + C.2.1 := by unfold turn; grind
    rw [e]
    refine unit_iff hk ⟨3 * u1 * x + u2, ?_⟩
    push_cast
    grind
  unfold hq hN zr cntO
  have et : tw ((x : Int), 1) = ((x : Int), -1, 1, 0) := rfl
  rw [et, beq_cond, beq_cond, beq_cond]
  by_cases c1 : cval C (x : Int) 1 % (p : Int) = 0
  · rw [if_pos (by simpa using c1), if_pos (v.mp c1)]
    by_cases c2 : (turn C ((x : Int), -1, 1, 0)).2.1 % (p : Int) = 0
    · rw [if_neg (by simpa using c2), if_pos (w.mp c2)]
      by_cases c3 : (turn C ((x : Int), -1, 1, 0)).2.2.1 % (p : Int) = 0
      · rw [if_neg (by simpa using c3), if_pos (t.mp c3)]; rfl
      · rw [if_pos c3, if_neg (fun z => c3 (t.mpr z))]; rfl
    · rw [if_pos c2, if_neg (fun z => c2 (w.mpr z))]; rfl
  · rw [if_neg (by simpa using c1), if_neg (fun z => c1 (v.mpr z))]; rfl
theorem hq_i : hq C p (1, 0) = hI p a b c := by
  have v : cval C 1 0 % (p : Int) = 0 ↔ a % p = 0 := by
    have e : cval C 1 0 = C.1 := by unfold cval; grind
    rw [e]; exact unit_iff hk h1
  have w : (turn C (1, 0, 0, 1)).2.1 % (p : Int) = 0 ↔ b % p = 0 := by
    have e : (turn C (1, 0, 0, 1)).2.1 = C.2.1 := by unfold turn; grind
    rw [e]; exact unit_iff hk h2
  have t : (turn C (1, 0, 0, 1)).2.2.1 % (p : Int) = 0 ↔ c % p = 0 := by
    have e : (turn C (1, 0, 0, 1)).2.2.1 = C.2.2.1 := by unfold turn; grind
    rw [e]; exact unit_iff hk h3
  unfold hq hI zr cntO
  have et : tw (1, 0) = (1, 0, 0, 1) := rfl
  rw [et, beq_cond, beq_cond, beq_cond]
  by_cases c1 : cval C 1 0 % (p : Int) = 0
  · rw [if_pos (by simpa using c1), if_pos (v.mp c1)]
    by_cases c2 : (turn C (1, 0, 0, 1)).2.1 % (p : Int) = 0
    · rw [if_neg (by simpa using c2), if_pos (w.mp c2)]
      by_cases c3 : (turn C (1, 0, 0, 1)).2.2.1 % (p : Int) = 0
      · rw [if_neg (by simpa using c3), if_pos (t.mp c3)]; rfl
      · rw [if_pos c3, if_neg (fun z => c3 (t.mpr z))]; rfl
    · rw [if_pos c2, if_neg (fun z => c2 (w.mpr z))]; rfl
  · rw [if_neg (by simpa using c1), if_neg (fun z => c1 (v.mpr z))]; rfl
end
theorem sum_filter (f : Int × Int → Int) (q : Int × Int → Bool) : ∀ l : List (Int × Int), ((l.filter q).map f).sum = (l.map fun x => if q x = true then f x else 0).sum
  | [] => rfl
  | x :: l => by
    rw [List.map_cons, List.sum_cons, ← sum_filter f q l]
    cases e : q x with
    | true => rw [List.filter_cons_of_pos e]; simp
    | false => rw [List.filter_cons_of_neg (by simp [e])]; simp
theorem sum_perm {l m : List Int} (h : l.Perm m) : l.sum = m.sum := by
  induction h with
  | nil => rfl
  | cons x _ ih => simp [ih]
  | swap x y l => simp; omega
  | trans _ _ i1 i2 => exact i1.trans i2
theorem sum_rts {C : Cb} {p : Nat} (h : p ∈ PRS) : ((rts C p).map (cntO C p)).sum = ((List.range p).map fun x : Nat => hq C p ((x : Int), 1)).sum + hq C p (1, 0) := by
  unfold rts
  rw [show pts p = isortP (allP p) from rfl, sum_filter, sum_perm ((isortP_perm (allP_sm h)).map _)]
  unfold allP rangeI
  rw [List.map_append, List.sum_append, List.map_map, List.map_map]
  simp only [List.map_cons, List.map_nil, List.sum_cons, List.sum_nil, Int.add_zero, Int.sub_zero, Int.toNat_natCast]
  congr 1
  congr 1
  refine List.map_congr_left fun x _ => ?_
  simp [hq]
theorem sumGo_eq (p a b c d : Nat) : ∀ n s : Nat, (sumGo p a b c d n s : Int) = s + ((List.range n).map fun x : Nat => (hN p a b c d x : Int)).sum
  | 0, s => by simp [sumGo]
  | n + 1, s => by
    unfold sumGo
    rw [sumGo_eq p a b c d n, List.range_succ, List.map_append, List.sum_append]
    simp only [List.map_cons, List.map_nil, List.sum_cons, List.sum_nil]
    push_cast
    omega
theorem sum_all {C : Cb} {p : Nat} (h : p ∈ PRS) {k k' : Int} {a b c d : Nat} (hk : (p : Int) ∣ k * k' - 1) (h1 : (p : Int) ∣ k * C.1 - a) (h2 : (p : Int) ∣ k * C.2.1 - b) (h3 : (p : Int) ∣ k * C.2.2.1 - c) (h4 : (p : Int) ∣ k * C.2.2.2 - d) : ((rts C p).map (cntO C p)).sum = sumN p a b c d := by
  rw [sum_rts h, hq_i hk h1 h2 h3 h4]
  unfold sumN
  rw [sumGo_eq]
  rw [List.map_congr_left (g := fun x : Nat => (hN p a b c d x : Int)) fun x _ => hq_x hk h1 h2 h3 h4 x]
  omega
/-- modulo p -/
theorem res_of {p : Nat} (h : 0 < p) (z : Int) : ∃ r : Nat, r < p ∧ (p : Int) ∣ z - r := by
  refine ⟨(z % p).toNat, ?_, ?_⟩
  · have := Int.emod_lt_of_pos z (show (0 : Int) < p by omega)
    have := Int.emod_nonneg z (show (p : Int) ≠ 0 by omega)
    omega
  · have := Int.emod_nonneg z (show (p : Int) ≠ 0 by omega)
    rw [Int.toNat_of_nonneg this]
    exact Int.dvd_self_sub_emod
theorem inv_of {p : Nat} (h : p ∈ PRS) {z : Int} (hz : ¬ z % (p : Int) = 0) : ∃ k : Int, (p : Int) ∣ k * z - 1 := by
  have hp := prs_le p h
  obtain ⟨r, hr, hd⟩ := res_of (show 0 < p by omega) z
  have h0 : r ≠ 0 := fun e => by
    subst e
    exact hz (emod_zero_iff.mpr (by simpa using hd))
  have := allB_at (List.all_eq_true.mp inv_prs p h) r hr
  rw [Bool.or_eq_true] at this
  rcases this with e | e
  · exact absurd (Nat.eq_of_beq_eq_true e) h0
  · obtain ⟨k, _, hk⟩ := List.any_eq_true.mp e
    have hk := Nat.eq_of_beq_eq_true hk
    obtain ⟨t, ht⟩ := hd
    refine ⟨(k : Int), ?_⟩
    have e1 : (p : Int) ∣ (k : Int) * r - 1 := by
      have e2 : ((k * r % p : Nat) : Int) = 1 := by exact_mod_cast hk
      push_cast at e2
      have := Int.dvd_self_sub_emod (x := (k : Int) * r) (m := (p : Int))
      rwa [e2] at this
    obtain ⟨w, hw⟩ := e1
    exact ⟨k * t + w, by grind⟩
theorem okS_of {n : Nat} (h : okS n = true) : n = 0 ∨ n = 1 ∨ n = 3 := by
  unfold okS at h
  rw [Bool.or_eq_true, Bool.or_eq_true] at h
  rcases h with (h | h) | h
  · exact .inl (Nat.eq_of_beq_eq_true h)
  · exact .inr (.inl (Nat.eq_of_beq_eq_true h))
  · exact .inr (.inr (Nat.eq_of_beq_eq_true h))
theorem sum_ok {C : Cb} {p : Nat} (h : p ∈ PRS) (hz : allZ C p = false) : ((rts C p).map (cntO C p)).sum = 0 ∨ ((rts C p).map (cntO C p)).sum = 1 ∨ ((rts C p).map (cntO C p)).sum = 3 := by
  have hp := prs_le p h
  have p0 : 0 < p := by omega
  have ck := List.all_eq_true.mp chk_prs p h
  unfold chkP at ck
  rw [Bool.and_eq_true, Bool.and_eq_true, Bool.and_eq_true] at ck
  obtain ⟨k1, k2, k3, k4⟩ := ck
  have fin : ∀ {n : Nat}, okS n = true → ((rts C p).map (cntO C p)).sum = (n : Int) → ((rts C p).map (cntO C p)).sum = 0 ∨ ((rts C p).map (cntO C p)).sum = 1 ∨ ((rts C p).map (cntO C p)).sum = 3 := by
    intro n h1 h2
    rw [h2]
    rcases okS_of h1 with e | e | e <;> subst e <;> simp
  have z0 : ∀ {z k : Int}, z % (p : Int) = 0 → (p : Int) ∣ k * z - (0 : Nat) := by
    intro z k hz
    obtain ⟨t, rfl⟩ := emod_zero_iff.mp hz
    exact ⟨k * t, by grind⟩
  by_cases c1 : C.1 % (p : Int) = 0
  · by_cases c2 : C.2.1 % (p : Int) = 0
    · by_cases c3 : C.2.2.1 % (p : Int) = 0
      · by_cases c4 : C.2.2.2 % (p : Int) = 0
        · unfold allZ at hz
          simp [c1, c2, c3, c4] at hz
        · obtain ⟨k, hk⟩ := inv_of h c4
          exact fin k4 (sum_all h (k := k) hk (z0 c1) (z0 c2) (z0 c3) hk)
      · obtain ⟨k, hk⟩ := inv_of h c3
        obtain ⟨d, hd, h4⟩ := res_of p0 (k * C.2.2.2)
        exact fin (allB_at k3 d hd) (sum_all h (k := k) hk (z0 c1) (z0 c2) hk h4)
    · obtain ⟨k, hk⟩ := inv_of h c2
      obtain ⟨c, hc, h3⟩ := res_of p0 (k * C.2.2.1)
      obtain ⟨d, hd, h4⟩ := res_of p0 (k * C.2.2.2)
      exact fin (allB_at (allB_at k2 c hc) d hd) (sum_all h (k := k) hk (z0 c1) hk h3 h4)
  · obtain ⟨k, hk⟩ := inv_of h c1
    obtain ⟨b, hb, h2⟩ := res_of p0 (k * C.2.1)
    obtain ⟨c, hc, h3⟩ := res_of p0 (k * C.2.2.1)
    obtain ⟨d, hd, h4⟩ := res_of p0 (k * C.2.2.2)
    exact fin (allB_at (allB_at (allB_at k1 b hb) c hc) d hd) (sum_all h (k := k) hk hk h2 h3 h4)
/-- the five kinds -/
def FIVE : List (List Int) := [[], [1], [1, 1, 1], [1, 2], [3]]
theorem five_of : ∀ l : List Int, (∀ x ∈ l, x = 1 ∨ x = 2 ∨ x = 3) → (l.sum = 0 ∨ l.sum = 1 ∨ l.sum = 3) → isort l ∈ FIVE
  | [], _, _ => by decide
  | [x], hx, hs => by
    rcases hx x (List.mem_cons_self ..) with e | e | e <;> subst e <;> first | decide | (simp at hs)
  | [x, y], hx, hs => by
    have h1 := hx x (List.mem_cons_self ..)
    have h2 := hx y (by simp)
    simp at hs
    rcases h1 with e | e | e <;> rcases h2 with e2 | e2 | e2 <;> subst e <;> subst e2 <;> first | decide | (exfalso; omega)
  | [x, y, z], hx, hs => by
    have h1 := hx x (List.mem_cons_self ..)
    have h2 := hx y (by simp)
    have h3 := hx z (by simp)
    simp at hs
    have : x = 1 ∧ y = 1 ∧ z = 1 := by omega
    obtain ⟨rfl, rfl, rfl⟩ := this
    decide
  | x :: y :: z :: w :: l, hx, hs => by
    have h1 := hx x (List.mem_cons_self ..)
    have h2 := hx y (by simp)
    have h3 := hx z (by simp)
    have h4 := hx w (by simp)
    have h5 : ∀ l : List Int, (∀ x ∈ l, x = 1 ∨ x = 2 ∨ x = 3) → 0 ≤ l.sum := by
      intro l
      induction l with
      | nil => intro _; decide
      | cons a l ih =>
        intro h
        have := ih fun b m => h b (List.mem_cons_of_mem _ m)
        have := h a (List.mem_cons_self ..)
        rw [List.sum_cons]; omega
    have := h5 l fun b m => hx b (by simp [m])
    simp only [List.sum_cons] at hs
    omega
theorem cnt_123 (C : Cb) (p : Nat) (q : Int × Int) : cntO C p q = 1 ∨ cntO C p q = 2 ∨ cntO C p q = 3 := by
  unfold cntO
  split
  · exact .inl rfl
  · split
    · exact .inr (.inl rfl)
    · exact .inr (.inr rfl)
theorem five_ok {C : Cb} {p : Nat} (h : p ∈ PRS) (hz : allZ C p = false) : isort ((rts C p).map (cntO C p)) ∈ FIVE :=
  five_of _ (fun x m => by
    obtain ⟨q, _, rfl⟩ := List.mem_map.mp m
    exact cnt_123 C p q) (sum_ok h hz)
/-! the words -/
def wordO (l : List Int) : Str := if l = [1, 1, 1] then "1 1 1" else if l = [1] then "1 2" else if l = [1, 2] then "1 1^2" else if l = [3] then "1^3" else "3"
theorem wordO_ok (l : List Int) : PyData.strOk (wordO l) = true := by
  unfold wordO
  repeat' split
  all_goals (first | rfl | decide +kernel)
theorem lword_ok (l : List Int) (h : isort l ∈ FIVE) : f__law_word l = Pure.pure (wordO (isort l)) := by
  unfold f__law_word wordO
  generalize isort l = k at h
  simp only [FIVE, List.mem_cons, List.not_mem_nil, or_false] at h
  rcases h with e | e | e | e | e <;> subst e <;> rfl
def splitO (C : Cb) (p : Nat) : Str := if allZ C p = true then "0" else wordO (isort ((rts C p).map (cntO C p)))
section
variable {C : Cb} {p : Nat} (hC : S4 C) (h : p ∈ PRS)
include hC h
theorem rts_len : (rts C p).length ≤ 20 := Nat.le_trans (List.length_filter_le _ _) (pts_len h)
theorem split_ok : f_splitting_of C p = Pure.pure (splitO C p) := by
  have hl := rts_len hC h
  unfold f_splitting_of splitO
  rw [allz_ok hC h, T.ret_bind]
  cases allZ C p with
  | true => rfl
  | false =>
    rw [if_neg (by decide), if_neg (by decide), roots_ok hC h, T.ret_bind, T.comp_all (l := rts C p) (e' := cntO C p) (fun q m => count_ok hC h (List.mem_filter.mp m).1) (by omega), T.ret_bind, T.ret_bind]
    generalize isort ((rts C p).map (cntO C p)) = k
    unfold wordO
    by_cases h1 : k = [1, 1, 1]
    · simp [h1]
    by_cases h2 : k = [1]
    · simp [h2]
    by_cases h3 : k = [1, 2]
    · simp [h3]
    by_cases h4 : k = [3]
    · simp [h4]
    simp [h1, h2, h3, h4]
theorem places_ok : f__law_places_hold C p = Pure.pure true := by
  have hp := prs_le p h
  have h0 : (0 : Int) < (p : Int) := by omega
  have hl := rts_len hC h
  have e0 : (T.comp [C.1, C.2.1, C.2.2.1, C.2.2.2] (fun part : Int => ((T.mod part p) >>= fun x => (Pure.pure (!decide (x = (0 : Int)))))) (fun part : Int => (Pure.pure part))) = Pure.pure ([C.1, C.2.1, C.2.2.1, C.2.2.2].filter fun x : Int => !decide (x % p = 0)) := by
    rw [T.comp_pure (c' := fun x : Int => !decide (x % p = 0)) (e' := fun x => x) (fun a _ => by rw [T.mod_pos h0, T.ret_bind]) (fun _ _ _ => rfl) (by simp)]
    simp
  have ez : (decide (((([C.1, C.2.1, C.2.2.1, C.2.2.2].filter fun x : Int => !decide (x % p = 0)).length : Nat) : Int) = 0)) = allZ C p := by
    unfold allZ
    by_cases a1 : C.1 % (p : Int) = 0 <;> by_cases a2 : C.2.1 % (p : Int) = 0 <;> by_cases a3 : C.2.2.1 % (p : Int) = 0 <;> by_cases a4 : C.2.2.2 % (p : Int) = 0 <;> simp [a1, a2, a3, a4] <;> omega
  unfold f__law_places_hold
  rw [e0, T.ret_bind, T.ret_bind, ez, T.ret_bind, counts_ok hC h, T.ret_bind, roots_ok hC h, T.ret_bind, T.mp_ok (by simp; omega), T.ret_bind, T.ret_bind]
  rw [if_neg (by simp [Function.comp_def])]
  rw [split_ok hC h, largest_ok hC h]
  unfold splitO
  cases hz : allZ C p with
  | true =>
    rw [if_pos rfl, T.ret_bind, if_pos rfl, T.eqS_ok (by decide +kernel) (by decide +kernel), T.ret_bind]
    rfl
  | false =>
    have hf := five_ok h hz
    rw [if_neg (by decide), if_neg (by decide), T.foF_none _ _ (fun r m => by
      obtain ⟨q, mq, rfl⟩ := List.mem_map.mp m
      rw [count_ok hC h (List.mem_filter.mp mq).1, T.ret_bind, T.ret_bind]
      simp), T.ret_bind]
    rw [T.next_nx, T.ret_bind, T.mp_ok (by simp; omega), T.ret_bind]
    have em : List.map (fun row1 : ((Int × Int) × Int × Bool) => row1.2.1) (List.map (fun q => (q, cntO C p q, sml C p q)) (rts C p)) = (rts C p).map (cntO C p) := by simp [Function.comp_def]
    rw [em, lword_ok _ hf, T.ret_bind, T.neS_ok (wordO_ok _) (wordO_ok _), T.ret_bind, if_neg (by simp), T.ret_bind, T.cmp_ok (by simp; omega), T.ret_bind, T.ret_bind, T.ret_bind]
    have en : decide ((((((List.map (fun q => (q, cntO C p q, sml C p q)) (rts C p)).filter fun row2 : ((Int × Int) × Int × Bool) => row2.2.2).map fun row2 => row2).length : Nat) : Int) = 0) = !(rts C p).any (sml C p) := by
      rw [List.filter_map, List.length_map, List.length_map]
      generalize rts C p = l
      induction l with
      | nil => rfl
      | cons a l ih =>
        cases e : sml C p a with
        | true => simp [e]; omega
        | false =>
          rw [List.filter_cons_of_neg (by simp [e])]
          rw [List.any_cons, e, Bool.false_or]
          exact ih
    rw [en]
    unfold f__law_truth
    cases (rts C p).any (sml C p) <;> rfl
end
end DL.TL
namespace DL.TL
open PySem PySem.Spec PyProof.Rows L2 LW
/-! turned and turned again -/
def mm (M N : Cb) : Cb := (M.1 * N.1 + M.2.1 * N.2.2.1, M.1 * N.2.1 + M.2.1 * N.2.2.2, M.2.2.1 * N.1 + M.2.2.2 * N.2.2.1, M.2.2.1 * N.2.1 + M.2.2.2 * N.2.2.2)
def dtm (M : Cb) : Int := M.1 * M.2.2.2 - M.2.1 * M.2.2.1
theorem cval_turn (F M : Cb) (x y : Int) : cval (turn F M) x y = cval F (M.1 * x + M.2.1 * y) (M.2.2.1 * x + M.2.2.2 * y) := by
  unfold cval turn cval
  grind
theorem turn_turn (F M N : Cb) : turn (turn F M) N = turn F (mm M N) := by
  have e1 := cval_turn F M N.1 N.2.2.1
  have e2 := cval_turn F M N.2.1 N.2.2.2
  unfold turn at e1 e2 ⊢
  simp only [Prod.mk.injEq]
  refine ⟨e1, ?_, ?_, e2⟩
  · unfold mm cval; grind
  · unfold mm cval; grind
theorem dtm_mm (M N : Cb) : dtm (mm M N) = dtm M * dtm N := by
  unfold dtm mm; grind
theorem dtm_tw (q : Int × Int) : dtm (tw q) = 1 := by
  unfold tw dtm
  split <;> simp
theorem tw_pt {p : Nat} (h : p ∈ PRS) {q : Int × Int} (m : q ∈ pts p) : (tw q).1 = q.1 ∧ (tw q).2.2.1 = q.2 := by
  rcases pts_of h m with ⟨h1, _, _⟩ | rfl
  · unfold tw; rw [if_pos h1]; exact ⟨rfl, h1.symm⟩
  · exact ⟨rfl, rfl⟩
theorem val_tw {p : Nat} (h : p ∈ PRS) {q : Int × Int} (m : q ∈ pts p) (C : Cb) : (turn C (tw q)).1 = cval C q.1 q.2 := by
  obtain ⟨e1, e2⟩ := tw_pt h m
  show cval C (tw q).1 (tw q).2.2.1 = _
  rw [e1, e2]
/-- a linear form has a zero among the points -/
theorem lin_root {p : Nat} (h : p ∈ PRS) (u v : Int) : ∃ q ∈ pts p, (p : Int) ∣ u * q.1 + v * q.2 := by
  have hp := prs_le p h
  by_cases hu : u % (p : Int) = 0
  · refine ⟨(1, 0), (pts_mem h _).mpr (List.mem_append_right _ (List.mem_singleton.mpr rfl)), ?_⟩
    have := emod_zero_iff.mp hu
    simpa using this
  · obtain ⟨k, t, ht⟩ := inv_of h hu
    obtain ⟨x, hx, w, hw⟩ := res_of (show 0 < p by omega) (-(k * v))
    refine ⟨((x : Int), 1), (pts_mem h _).mpr (List.mem_append_left _ (List.mem_map.mpr ⟨x, mem_rangeI.mpr ⟨by omega, by omega⟩, rfl⟩)), ⟨-(u * w) - t * v, ?_⟩⟩
    have e1 : (x : Int) = -(k * v) - p * w := by omega
    have e2 : k * u = 1 + p * t := by omega
    rw [e1]
    grind
section
variable {p : Nat} (h : p ∈ PRS)
include h
theorem pr_dvd_mul {a b : Int} (hd : (p : Int) ∣ a * b) : (p : Int) ∣ a ∨ (p : Int) ∣ b := by
  rw [Int.ofNat_dvd_left, Int.natAbs_mul] at hd
  rcases (prs_pr p h).dvd_mul hd with e | e
  · exact .inl (Int.ofNat_dvd_left.mpr e)
  · exact .inr (Int.ofNat_dvd_left.mpr e)
theorem pr_cube {a : Int} (hd : (p : Int) ∣ a * a * a) : (p : Int) ∣ a := by
  rcases pr_dvd_mul h hd with e | e
  · rcases pr_dvd_mul h e with e | e <;> exact e
  · exact e
theorem pr_not_one : ¬ (p : Int) ∣ 1 := by
  have hp := prs_le p h
  intro hd
  have := Int.le_of_dvd (by decide) hd
  omega
/-- planted within a larger ring -/
theorem small_not {a b c d : Int} {M : Cb} : (rts (turn ((p : Int) * p * a, (p : Int) * b, c, d) M) p).any (sml (turn ((p : Int) * p * a, (p : Int) * b, c, d) M) p) = true := by
  obtain ⟨q, mq, t, ht⟩ := lin_root h M.2.2.1 M.2.2.2
  obtain ⟨e1, e2⟩ := tw_pt h mq
  have eY : (mm M (tw q)).2.2.1 = p * t := by
    show M.2.2.1 * (tw q).1 + M.2.2.2 * (tw q).2.2.1 = _
    rw [e1, e2, ht]
  have k1 : sml (turn ((p : Int) * p * a, (p : Int) * b, c, d) M) p q = true := by
    unfold sml
    rw [turn_turn]
    generalize mm M (tw q) = N at eY
    obtain ⟨X, Z, Y, W⟩ := N
    dsimp only at eY
    subst eY
    rw [Bool.and_eq_true, decide_eq_true_iff, decide_eq_true_iff]
    constructor
    · refine emod_zero_iff.mpr ⟨3 * p * a * X * X * Z + b * (X * X * W + 2 * X * Z * (p * t)) + c * (Z * t * (p * t) + 2 * X * t * W) + 3 * d * t * (p * t) * W, ?_⟩
      unfold turn
      grind
    · refine Int.emod_eq_zero_of_dvd ⟨a * X * X * X + b * X * X * t + c * X * t * t + d * t * t * (p * t), ?_⟩
      unfold turn cval
      grind
  refine List.any_eq_true.mpr ⟨q, List.mem_filter.mpr ⟨mq, ?_⟩, k1⟩
  unfold sml at k1
  rw [Bool.and_eq_true, decide_eq_true_iff, decide_eq_true_iff] at k1
  have := Int.dvd_of_emod_eq_zero k1.2
  rw [val_tw h mq] at this
  unfold zr
  exact decide_eq_true (emod_zero_iff.mpr (Int.dvd_trans (Int.dvd_mul_right _ _) this))
/-- of Eisenstein's kind -/
theorem eis_nz {b c u : Int} {M : Cb} (hM : dtm M = 1) : allZ (turn (1, (p : Int) * b, (p : Int) * c, (p : Int) * u) M) p = false := by
  cases e : allZ (turn (1, (p : Int) * b, (p : Int) * c, (p : Int) * u) M) p with
  | false => rfl
  | true =>
    exfalso
    have ev := cval_turn (1, (p : Int) * b, (p : Int) * c, (p : Int) * u) M M.2.2.2 (-M.2.2.1)
    generalize turn (1, (p : Int) * b, (p : Int) * c, (p : Int) * u) M = C at e ev
    unfold allZ at e
    rw [Bool.and_eq_true, Bool.and_eq_true, Bool.and_eq_true, decide_eq_true_iff, decide_eq_true_iff, decide_eq_true_iff, decide_eq_true_iff] at e
    obtain ⟨⟨⟨h1, h2⟩, h3⟩, h4⟩ := e
    obtain ⟨t1, h1⟩ := emod_zero_iff.mp h1
    obtain ⟨t2, h2⟩ := emod_zero_iff.mp h2
    obtain ⟨t3, h3⟩ := emod_zero_iff.mp h3
    obtain ⟨t4, h4⟩ := emod_zero_iff.mp h4
    have e1 : M.1 * M.2.2.2 + M.2.1 * -M.2.2.1 = 1 := by unfold dtm at hM; grind
    have e2 : M.2.2.1 * M.2.2.2 + M.2.2.2 * -M.2.2.1 = 0 := by grind
    rw [e1, e2] at ev
    have e3 : cval (1, (p : Int) * b, (p : Int) * c, (p : Int) * u) 1 0 = 1 := by unfold cval; simp
    rw [e3] at ev
    refine pr_not_one h ⟨t1 * M.2.2.2 * M.2.2.2 * M.2.2.2 + t2 * M.2.2.2 * M.2.2.2 * -M.2.2.1 + t3 * M.2.2.2 * -M.2.2.1 * -M.2.2.1 + t4 * -M.2.2.1 * -M.2.2.1 * -M.2.2.1, ?_⟩
    rw [← ev]
    unfold cval
    rw [h1, h2, h3, h4]
    grind
theorem eis_sml {b c u : Int} {M : Cb} (hM : dtm M = 1) (hu : ¬ (p : Int) ∣ u) : (rts (turn (1, (p : Int) * b, (p : Int) * c, (p : Int) * u) M) p).any (sml (turn (1, (p : Int) * b, (p : Int) * c, (p : Int) * u) M) p) = false := by
  refine List.any_eq_false.mpr fun q mq hs => ?_
  have mq' := (List.mem_filter.mp mq).1
  unfold sml at hs
  rw [Bool.and_eq_true, decide_eq_true_iff, decide_eq_true_iff, turn_turn] at hs
  have hd := dtm_mm M (tw q)
  rw [hM, dtm_tw] at hd
  have hv := Int.dvd_of_emod_eq_zero hs.2
  generalize mm M (tw q) = N at hd hv
  obtain ⟨X, Z, Y, W⟩ := N
  obtain ⟨t, ht⟩ := hv
  have ht : X * X * X + p * b * X * X * Y + p * c * X * Y * Y + p * u * Y * Y * Y = p * p * t := by
    rw [← ht]; unfold turn cval; grind
  have hX : (p : Int) ∣ X := pr_cube h ⟨p * t - (b * X * X * Y + c * X * Y * Y + u * Y * Y * Y), by grind⟩
  obtain ⟨x, rfl⟩ := hX
  have hp := prs_le p h
  have hp0 : (p : Int) ≠ 0 := by omega
  have h2 : u * Y * Y * Y = p * (t - (p * x * x * x + p * b * x * x * Y + c * x * Y * Y)) := by
    refine Int.eq_of_mul_eq_mul_left hp0 ?_
    grind
  have hY : (p : Int) ∣ Y := by
    have h3 : (p : Int) ∣ u * (Y * Y * Y) := ⟨t - (p * x * x * x + p * b * x * x * Y + c * x * Y * Y), by rw [← h2]; grind⟩
    rcases pr_dvd_mul h h3 with e | e
    · exact absurd e hu
    · exact pr_cube h e
  obtain ⟨y, rfl⟩ := hY
  refine pr_not_one h ⟨x * W - Z * y, ?_⟩
  have hd : p * x * W - Z * (p * y) = 1 := by unfold dtm at hd; simpa using hd
  rw [← hd]; grind
theorem eis_split {b c u : Int} {M : Cb} (hM : dtm M = 1) : splitO (turn (1, (p : Int) * b, (p : Int) * c, (p : Int) * u) M) p = "1^3" := by
  have hz := eis_nz h (b := b) (c := c) (u := u) hM
  have h5 := five_ok h hz
  have h3 : (3 : Int) ∈ (rts (turn (1, (p : Int) * b, (p : Int) * c, (p : Int) * u) M) p).map (cntO (turn (1, (p : Int) * b, (p : Int) * c, (p : Int) * u) M) p) := by
    obtain ⟨q, mq, t, ht⟩ := lin_root h M.1 M.2.1
    obtain ⟨e1, e2⟩ := tw_pt h mq
    have eX : (mm M (tw q)).1 = p * t := by
      show M.1 * (tw q).1 + M.2.1 * (tw q).2.2.1 = _
      rw [e1, e2, ht]
    have ez : zr (turn (1, (p : Int) * b, (p : Int) * c, (p : Int) * u) M) p q = true := by
      unfold zr
      rw [← val_tw h mq, turn_turn]
      generalize mm M (tw q) = N at eX
      obtain ⟨X, Z, Y, W⟩ := N
      dsimp only at eX
      subst eX
      refine decide_eq_true (emod_zero_iff.mpr ⟨t * (p * t) * (p * t) + b * (p * t) * (p * t) * Y + c * (p * t) * Y * Y + u * Y * Y * Y, ?_⟩)
      unfold turn cval
      grind
    refine List.mem_map.mpr ⟨q, List.mem_filter.mpr ⟨mq, ez⟩, ?_⟩
    unfold cntO
    rw [turn_turn]
    generalize mm M (tw q) = N at eX
    obtain ⟨X, Z, Y, W⟩ := N
    dsimp only at eX
    subst eX
    rw [if_neg, if_neg]
    · intro hn
      refine hn (emod_zero_iff.mpr ⟨3 * t * Z * Z + b * (Z * Z * Y + 2 * (p * t) * Z * W) + c * ((p * t) * W * W + 2 * Z * Y * W) + 3 * u * Y * W * W, ?_⟩)
      unfold turn
      grind
    · intro hn
      refine hn (emod_zero_iff.mpr ⟨3 * t * (p * t) * Z + b * ((p * t) * (p * t) * W + 2 * (p * t) * Z * Y) + c * (Z * Y * Y + 2 * (p * t) * Y * W) + 3 * u * Y * Y * W, ?_⟩)
      unfold turn
      grind
  have h3' := (isort_perm _).mem_iff.mpr h3
  unfold splitO
  rw [hz, if_neg (by decide)]
  generalize isort _ = k at h5 h3'
  simp only [FIVE, List.mem_cons, List.not_mem_nil, or_false] at h5
  rcases h5 with e | e | e | e | e <;> subst e <;> first | (simp at h3'; done) | rfl
end
/-! the discriminant -/
def csz (C : Cb) : Int := C.2.1 * C.2.1 * C.2.2.1 * C.2.2.1 + 18 * C.1 * C.2.1 * C.2.2.1 * C.2.2.2 - 4 * C.1 * C.2.2.1 * C.2.2.1 * C.2.2.1 - 4 * C.2.1 * C.2.1 * C.2.1 * C.2.2.2 - 27 * C.1 * C.1 * C.2.2.2 * C.2.2.2
theorem fsize_ok {C : Cb} (hC : S4 C) : f__law_cubic_size C = Pure.pure (csz C) := by
  unfold f__law_cubic_size
  exact T.ar_ok (by simp [hC.1, hC.2.1, hC.2.2.1, hC.2.2.2])
def hsA (C : Cb) : Int := C.2.1 * C.2.1 - 3 * C.1 * C.2.2.1
def hsB (C : Cb) : Int := C.2.1 * C.2.2.1 - 9 * C.1 * C.2.2.2
def hsC (C : Cb) : Int := C.2.2.1 * C.2.2.1 - 3 * C.2.1 * C.2.2.2
theorem hs_disc (C : Cb) : hsB C * hsB C - 4 * hsA C * hsC C = -3 * csz C := by
  unfold hsA hsB hsC csz; grind
theorem hsA_turn (C M : Cb) : hsA (turn C M) = dtm M * dtm M * (hsA C * M.1 * M.1 + hsB C * M.1 * M.2.2.1 + hsC C * M.2.2.1 * M.2.2.1) := by
  unfold hsA hsB hsC turn cval dtm; grind
theorem hsC_turn (C M : Cb) : hsC (turn C M) = dtm M * dtm M * (hsA C * M.2.1 * M.2.1 + hsB C * M.2.1 * M.2.2.2 + hsC C * M.2.2.2 * M.2.2.2) := by
  unfold hsA hsB hsC turn cval dtm; grind
theorem hsB_turn (C M : Cb) : hsB (turn C M) = dtm M * dtm M * (2 * hsA C * M.1 * M.2.1 + hsB C * (M.1 * M.2.2.2 + M.2.1 * M.2.2.1) + 2 * hsC C * M.2.2.1 * M.2.2.2) := by
  unfold hsA hsB hsC turn cval dtm; grind
theorem csz_turn (C M : Cb) (hM : dtm M = 1) : csz (turn C M) = csz C := by
  have h1 := hs_disc (turn C M)
  have h2 := hs_disc C
  rw [hsA_turn, hsB_turn, hsC_turn, hM] at h1
  have e : M.1 * M.2.2.2 - M.2.1 * M.2.2.1 = 1 := hM
  generalize hsA C = A at *
  generalize hsB C = B at *
  generalize hsC C = D at *
  have h3 : (2 * A * M.1 * M.2.1 + B * (M.1 * M.2.2.2 + M.2.1 * M.2.2.1) + 2 * D * M.2.2.1 * M.2.2.2) * (2 * A * M.1 * M.2.1 + B * (M.1 * M.2.2.2 + M.2.1 * M.2.2.1) + 2 * D * M.2.2.1 * M.2.2.2) - 4 * (A * M.1 * M.1 + B * M.1 * M.2.2.1 + D * M.2.2.1 * M.2.2.1) * (A * M.2.1 * M.2.1 + B * M.2.1 * M.2.2.2 + D * M.2.2.2 * M.2.2.2) = (B * B - 4 * A * D) * ((M.1 * M.2.2.2 - M.2.1 * M.2.2.1) * (M.1 * M.2.2.2 - M.2.1 * M.2.2.1)) := by grind
  rw [e, h2] at h3
  simp only [Int.one_mul, Int.mul_one] at h1 h3
  omega
end DL.TL
namespace DL.TL
open PySem PySem.Spec PyProof.Rows L2 LW
/-! matrices drawn -/
theorem wp_mtx {s : S} (g : Good s) {Q : Cb → S → Prop} (hq : ∀ M s', Good s' → dtm M = 1 → (∀ z ∈ [M.1, M.2.1, M.2.2.1, M.2.2.2], -1000 < z ∧ z < 1000) → Q M s') : wp (f__law_matrix 3 3) s Q := by
  unfold f__law_matrix
  dsimp only
  refine wp_bind (wp_bind (wp_bind (wp_draw g (by decide) (by decide) fun r s1 r0 r1 g1 => ?_)))
  refine wp_val (T.rng1_ok (by omega) (by omega)) ?_
  have hb : ∀ i : Nat, i ≤ 3 → (4 : Int) ^ i ≤ 64 := fun i hi => by
    match i, hi with
    | 0, _ => decide
    | 1, _ => decide
    | 2, _ => decide
    | 3, _ => decide
  have hl : (rangeI 0 r).length ≤ 3 := by rw [len_rangeI]; omega
  refine wp_fo (fun i (M : Cb) s => i ≤ (rangeI 0 r).length ∧ Good s ∧ dtm M = 1 ∧ ∀ z ∈ [M.1, M.2.1, M.2.2.1, M.2.2.2], -(4 ^ i) ≤ z ∧ z ≤ 4 ^ i) _ 0 _ _ _ (fun i a M s hi ⟨i1, i2, i3, i4⟩ => ?_) ⟨by omega, g1, by decide, by simp⟩ ?_
  · have hlt : i < (rangeI 0 r).length := (List.getElem?_eq_some_iff.mp hi).1
    have pw : (4 : Int) ^ (0 + i + 1) = 4 * 4 ^ i := by rw [Nat.zero_add, Int.pow_succ, Int.mul_comm]
    have hbi := hb i (by omega)
    rw [Nat.zero_add] at i4
    rw [pw]
    generalize (4 : Int) ^ i = B at *
    refine wp_bind (wp_bind (wp_bind ?_))
    rw [T.ar_ok (by simp; exact sm_lit)]
    refine wp_draw i2 (by decide) (by decide) fun c s2 c0 c1 g2 => ?_
    refine wp_pure ?_
    obtain ⟨m1, m2, m3, m4⟩ : (-B ≤ M.1 ∧ M.1 ≤ B) ∧ (-B ≤ M.2.1 ∧ M.2.1 ≤ B) ∧ (-B ≤ M.2.2.1 ∧ M.2.2.1 ≤ B) ∧ (-B ≤ M.2.2.2 ∧ M.2.2.2 ≤ B) := by
      refine ⟨i4 _ ?_, i4 _ ?_, i4 _ ?_, i4 _ ?_⟩ <;> simp
    obtain ⟨w, hw⟩ : ∃ w, w = c - 3 := ⟨_, rfl⟩
    have hwb : -3 ≤ w ∧ w ≤ 3 := by omega
    rw [← hw]
    have bnd : ∀ x : Int, -B ≤ x → x ≤ B → -(3 * B) ≤ x * w ∧ x * w ≤ 3 * B := fun x h1 h2 => by
      have : w = -3 ∨ w = -2 ∨ w = -1 ∨ w = 0 ∨ w = 1 ∨ w = 2 ∨ w = 3 := by omega
      rcases this with h | h | h | h | h | h | h <;> subst h <;> omega
    have bp := bnd M.1 m1.1 m1.2
    have br := bnd M.2.2.1 m3.1 m3.2
    have sm : ∀ z : Int, -1000 < z → z < 1000 → Sm z := fun z h1 h2 => sm_of (by omega) (by omega)
    rw [T.ar_ok (by simp; exact ⟨sm _ (by omega) (by omega), sm _ (by omega) (by omega), sm _ (by omega) (by omega)⟩), T.ret_bind,
      T.ar_ok (by simp; exact ⟨sm _ (by omega) (by omega), sm _ (by omega) (by omega), sm _ (by omega) (by omega)⟩), T.ret_bind, T.ret_bind]
    refine wp_pure ⟨by omega, g2, ?_, ?_⟩
    · rw [← i3]; unfold dtm; grind
    · intro z hz
      simp at hz
      rcases hz with e | e | e | e <;> subst e <;> omega
  · rintro M s' ⟨i1, i2, i3, i4⟩
    refine wp_pure (hq M s' i2 i3 fun z hz => ?_)
    have := i4 z hz
    have := hb (0 + (rangeI 0 r).length) (by omega)
    generalize (4 : Int) ^ (0 + (rangeI 0 r).length) = B at *
    omega
/-! the sizes of turned forms -/
theorem turn_bz {n : Nat} {C M : Cub} (hC : B4 n C) (hM : B4 n M) : B4 (28 * (n + 1)) (turn C M) := by
  obtain ⟨a, b, c, d⟩ := C
  obtain ⟨p, q, r, s⟩ := M
  obtain ⟨ha, hb, hc, hd⟩ := hC
  obtain ⟨hp, hq, hr, hs⟩ := hM
  have lit : ∀ k : Int, k.natAbs < 4 → Bz n k ∨ n < 2 := fun k hk => by
    by_cases z : n < 2
    · exact .inr z
    · refine .inl ?_
      have : (2 : Nat) ^ 2 ≤ 2 ^ n := Nat.pow_le_pow_right (by decide) (by omega)
      unfold Bz; omega
  have cvb : ∀ {x y : Int}, Bz n x → Bz n y → Bz (28 * (n + 1)) (cval (a, b, c, d) x y) := fun {x y} hx hy =>
    Bz.mono (bz_tree (.add (.add (.add (.mul (.mul (.mul (lf a) (lf x)) (lf x)) (lf x)) (.mul (.mul (.mul (lf b) (lf x)) (lf x)) (lf y))) (.mul (.mul (.mul (lf c) (lf x)) (lf y)) (lf y))) (.mul (.mul (.mul (lf d) (lf y)) (lf y)) (lf y))) ⟨⟨⟨⟨⟨⟨ha, hx⟩, hx⟩, hx⟩, ⟨⟨hb, hx⟩, hx⟩, hy⟩, ⟨⟨hc, hx⟩, hy⟩, hy⟩, ⟨⟨hd, hy⟩, hy⟩, hy⟩) (Nat.mul_le_mul_right _ (lv_le (m := 16) rfl))
  have w2 : ∀ {x : Int}, Bz n x → Bz (n + 2) (2 * x) := fun {x} h => by
    have := Bz.mul (n := 2) (i := 2) (by unfold Bz; decide) h
    exact this.mono (by omega)
  have w3 : ∀ {x : Int}, Bz n x → Bz (n + 2) (3 * x) := fun {x} h => by
    have := Bz.mul (n := 2) (i := 3) (by unfold Bz; decide) h
    exact this.mono (by omega)
  refine ⟨cvb hp hr, ?_, ?_, cvb hq hs⟩
  · have := (((((((w3 ha).mul hp).mul hp).mul hq).add (hb.mul (((hp.mul hp).mul hs).add (((w2 hp).mul hq).mul hr)))).add (hc.mul (((hq.mul hr).mul hr).add (((w2 hp).mul hr).mul hs)))).add ((((w3 hd).mul hr).mul hr).mul hs))
    exact this.mono (by omega)
  · have := (((((((w3 ha).mul hp).mul hq).mul hq).add (hb.mul (((hq.mul hq).mul hr).add (((w2 hp).mul hq).mul hs)))).add (hc.mul (((hp.mul hs).mul hs).add (((w2 hq).mul hr).mul hs)))).add ((((w3 hd).mul hr).mul hs).mul hs))
    exact this.mono (by omega)
theorem s4_b4 {n : Nat} {C : Cub} (h : B4 n C) (hn : n ≤ 20000 := by decide) : S4 C := ⟨sm_bz h.1 hn, sm_bz h.2.1 hn, sm_bz h.2.2.1 hn, sm_bz h.2.2.2 hn⟩
theorem refused_no {C : Cb} {z : Int} (h : f_is_prime z = Pure.pure false) : f__law_refused C z = Pure.pure "no" := by
  have e : f_roots_modulo_prime C z = T.ex "NotPossible" := by
    unfold f_roots_modulo_prime
    rw [h]; rfl
  unfold f__law_refused
  rw [e, T.ex_bind]
  exact T.tr2_ex1 (by decide) rfl
theorem refused_large {C : Cb} : f__law_refused C 401 = Pure.pure "large" := by
  have e : f_roots_modulo_prime C 401 = T.ex "TooLarge" := by
    unfold f_roots_modulo_prime
    rw [isp_401]; rfl
  unfold f__law_refused
  rw [e, T.ex_bind]
  exact T.tr2_ex2 (by decide) (by decide) rfl
theorem refused_told {C : Cb} {p : Nat} (hC : S4 C) (h : p ∈ PRS) : f__law_refused C p = Pure.pure "told" := by
  unfold f__law_refused
  rw [roots_ok hC h]; rfl
theorem wp_rest {C : Cub} (hC : B4 25 C) {s : S} (g : Good s) : wp (f_rest20 C) s fun b _ => b = true := by
  have hC4 : S4 C := s4_b4 hC
  unfold f_rest20
  refine wp_bind (wp_bind (wp_draw g (by decide) (by decide) fun r s1 r0 r1 g1 => ?_))
  obtain ⟨p, hp, ep⟩ : ∃ p : Nat, p ∈ PRS ∧ T.ix [(2 : Int), (3 : Int), (5 : Int), (7 : Int), (11 : Int), (13 : Int), (17 : Int), (19 : Int)] r = Pure.pure (p : Int) := by
    have : r = ((0 : Nat) : Int) ∨ r = ((1 : Nat) : Int) ∨ r = ((2 : Nat) : Int) ∨ r = ((3 : Nat) : Int) ∨ r = ((4 : Nat) : Int) ∨ r = ((5 : Nat) : Int) ∨ r = ((6 : Nat) : Int) ∨ r = ((7 : Nat) : Int) := by omega
    rcases this with e | e | e | e | e | e | e | e <;> rw [e]
    · exact ⟨2, by decide, T.ix_nat rfl⟩
    · exact ⟨3, by decide, T.ix_nat rfl⟩
    · exact ⟨5, by decide, T.ix_nat rfl⟩
    · exact ⟨7, by decide, T.ix_nat rfl⟩
    · exact ⟨11, by decide, T.ix_nat rfl⟩
    · exact ⟨13, by decide, T.ix_nat rfl⟩
    · exact ⟨17, by decide, T.ix_nat rfl⟩
    · exact ⟨19, by decide, T.ix_nat rfl⟩
  refine wp_val ep ?_
  have hpl := prs_le p hp
  have p0 : (0 : Int) < (p : Int) := by omega
  have pp0 : (0 : Int) < (p : Int) * (p : Int) := Int.mul_pos p0 p0
  have bp : Bz 5 (p : Int) := Bz.of (by omega) (by omega)
  have hps : Sm (p : Int) := sm_bz bp
  rw [places_ok hC4 hp, T.ret_bind, T.ret_bind, if_neg (by decide)]
  refine wp_bind ?_
  rw [T.ar_ok (by simp [hps, hC4.1]), T.ret_bind, T.ar_ok (by simp [hps, hC4.2.1]), T.ret_bind, T.ret_bind]
  refine wp_bind (wp_mtx g1 fun M s2 g2 hM hMb => ?_)
  have hMb' : B4 40 M := by
    have q : ∀ z ∈ [M.1, M.2.1, M.2.2.1, M.2.2.2], Bz 40 z := fun z hz => Bz.mono (n := 10) (Bz.of (by have := hMb z hz; omega) (by have := hMb z hz; omega)) (by decide)
    exact ⟨q _ (by simp), q _ (by simp), q _ (by simp), q _ (by simp)⟩
  have hM4 : S4 M := s4_b4 hMb'
  have hF : B4 40 ((p : Int) * p * C.1, (p : Int) * C.2.1, C.2.2.1, C.2.2.2) := ⟨((bp.mul bp).mul hC.1).mono (by decide), (bp.mul hC.2.1).mono (by decide), hC.2.2.1.mono (by decide), hC.2.2.2.mono (by decide)⟩
  refine wp_val (flturn_ok (s4_b4 hF) hM4) ?_
  have hS4 := s4_b4 (turn_bz hF hMb')
  have hsm := small_not hp (a := C.1) (b := C.2.1) (c := C.2.2.1) (d := C.2.2.2) (M := M)
  generalize turn ((p : Int) * p * C.1, (p : Int) * C.2.1, C.2.2.1, C.2.2.2) M = SM at hS4 hsm
  rw [places_ok hS4 hp, largest_ok hS4 hp, hsm, T.ret_bind, T.ret_bind, if_neg (by decide), T.ret_bind, T.ret_bind, if_neg (by simp)]
  refine wp_bind (wp_bind (wp_draw g2 (by omega) (by omega) fun u s3 u0 u1 g3 => wp_pure ?_))
  have bu : Bz 5 (1 + u) := Bz.of (by omega) (by omega)
  have hnu : ¬ (p : Int) ∣ (1 + u) := fun hd => by
    have := Int.le_of_dvd (by omega) hd
    omega
  refine wp_bind ?_
  rw [T.ret_bind, T.ar_ok (L := [(p : Int), C.2.2.1]) (by simp [hps, hC4.2.2.1]), T.ret_bind, T.ar_ok (L := [(p : Int), 1 + u]) (by simp [hps]; exact sm_bz bu), T.ret_bind, T.ret_bind]
  refine wp_bind (wp_mtx g3 fun M s4 g4 hM hMb => ?_)
  have hMb' : B4 40 M := by
    have q : ∀ z ∈ [M.1, M.2.1, M.2.2.1, M.2.2.2], Bz 40 z := fun z hz => Bz.mono (n := 10) (Bz.of (by have := hMb z hz; omega) (by have := hMb z hz; omega)) (by decide)
    exact ⟨q _ (by simp), q _ (by simp), q _ (by simp), q _ (by simp)⟩
  have hM4 : S4 M := s4_b4 hMb'
  have hF : B4 40 (1, (p : Int) * C.2.1, (p : Int) * C.2.2.1, (p : Int) * (1 + u)) := ⟨Bz.mono (n := 1) (i := 1) (by unfold Bz; decide) (by decide), (bp.mul hC.2.1).mono (by decide), (bp.mul hC.2.2.1).mono (by decide), (bp.mul bu).mono (by decide)⟩
  refine wp_val (flturn_ok (s4_b4 hF) hM4) ?_
  have hS4 := s4_b4 (turn_bz hF hMb')
  have h1 := eis_nz hp (b := C.2.1) (c := C.2.2.1) (u := 1 + u) hM
  have h2 := eis_sml hp (b := C.2.1) (c := C.2.2.1) (u := 1 + u) hM hnu
  have h3 := eis_split hp (b := C.2.1) (c := C.2.2.1) (u := 1 + u) hM
  have h4 := csz_turn (1, (p : Int) * C.2.1, (p : Int) * C.2.2.1, (p : Int) * (1 + u)) M hM
  generalize turn (1, (p : Int) * C.2.1, (p : Int) * C.2.2.1, (p : Int) * (1 + u)) M = KI at hS4 h1 h2 h3 h4
  have h5 : csz KI % ((p : Int) * p) = 0 := by
    rw [h4]
    refine Int.emod_eq_zero_of_dvd ⟨C.2.1 * C.2.1 * (p * C.2.2.1) * (p * C.2.2.1) + 18 * C.2.1 * C.2.2.1 * (p * (1 + u)) - 4 * p * C.2.2.1 * C.2.2.1 * C.2.2.1 - 4 * C.2.1 * C.2.1 * (p * C.2.1) * (p * (1 + u)) - 27 * (1 + u) * (1 + u), ?_⟩
    unfold csz
    grind
  rw [largest_ok hS4 hp, h1, h2, split_ok hS4 hp, h3, fsize_ok hS4, T.ret_bind, T.ret_bind, if_neg (by decide), T.ret_bind, T.neS_ok (by decide +kernel) (by decide +kernel), T.ret_bind, if_neg (by decide), T.ret_bind, T.ret_bind, T.ar_ok (L := [(p : Int), (p : Int)]) (by simp [hps]), T.ret_bind, T.mod_pos pp0, h5, T.ret_bind, T.ret_bind, if_neg (by decide)]
  have q1 : T.eqS "no" "no" = Pure.pure true := T.eqS_ok (by decide +kernel) (by decide +kernel)
  have q2 : T.eqS "large" "large" = Pure.pure true := T.eqS_ok (by decide +kernel) (by decide +kernel)
  have q3 : T.eqS "told" "told" = Pure.pure true := T.eqS_ok (by decide +kernel) (by decide +kernel)
  simp only [refused_no isp_4, refused_no isp_1, refused_large, refused_told hC4 hp, T.ret_bind, q1, q2, q3, if_true]
  exact wp_pure rfl
end DL.TL
namespace LW
open PySem PySem.Spec PyProof.Rows L2 DL
theorem law_holds (ns : List Int) (h : ns.length ≤ 63) : ∃ st', g_law ((List.replicate 27 none).set 1 (some (.v STT))) ⟨ns, 0, 0, 0, false⟩ = .ok (.rt (.bool true)) st' := by
  obtain ⟨C, u, v, w, s5, g5, hC, e⟩ := first_half (good0 ns)
  obtain ⟨b, st', e2, eb⟩ := DL.TL.wp_iff.mp (DL.TL.wp_rest hC g5)
  subst eb
  refine ⟨st', ?_⟩
  rw [g_law_eq]
  refine Eq.trans e ?_
  have := DL.TL.t_rest20 C [none, some (.v (STT)), some (.v (cT C)), some (.v (tT u)), some (.v (tT v)), some (.v (tT w)), some (.v (tT (prod C u v))), some (.v (tT (add3 u v))), some (.v (.int 2)), some (.v (.list [tT u1, tT u2, tT u3])), some (.v (matD C u)), none, some (.v (.int (tr C u))), some (.v (.int (sd C u))), some (.v (.int (nm C u))), some (.v (tT (prod C u u))), some (.v (tT (prod C (prod C u u) u))), some (.v (.int (cs C.1 C.2.1 C.2.2.1 C.2.2.2))), some (.v (tabD C)), some (.v (.int 2)), none, none, none, none, none, none, none] s5 (DL.TL.Sub.mt (And.intro rfl (And.intro rfl trivial)))
  rw [e2] at this
  exact this
end LW

namespace LW
open PySem PySem.Spec PyProof.Rows L2 DL
section
variable {P : Program} {w : World} {K : PySem.W.Frag} {mg : Str → Option Value} {base : Heap}
theorem sc_factorization : FnScope ["number", "found", "prime", "count"] ["number"] (defScope s_factorization) := ⟨rfl, rfl, rfl, by decide +kernel, rfl, by decide +kernel, by decide +kernel⟩
theorem ok_factorization {f : Addr} {fd : FuncData} {tk_MOST : Tok} (k_MOST : mg "MOST" = some (.int 1000000000000 tk_MOST))
    (z_tuple : mg "tuple" = none)
    {CTooLarge : Addr} (x_TooLarge : ErrC K mg "TooLarge" CTooLarge)
    (F : Fun K "factorization" "factorization" s_factorization f fd) (hm : mg "factorization" = some (.ref f)) (hb : Binds K fd ["number"] []) : Cal P w K mg base 1 "factorization" ["number"] m_factorization := by
  refine cal_ok F hm hb sc_factorization fun cdv A outer s H E hr => ?_
  exact ⟨_, (dss_cons (ds_if (dt_cmp c_gt (de_v 0) (de_glI k_MOST) (nomark _)) (dss_one (ds_raise x_TooLarge (takes_of rfl rfl rfl rfl))) dss_nil)
  (dss_cons (ds_new (i := 1) sc_factorization.nd (dn_lst da_nil))
  (dss_cons (ds_set (i := 2) sc_factorization.nd de_int)
  (dss_cons (ds_while (passes_of rfl) (dt_cmp c_le (de_mul (de_v 2) (de_v 2)) (de_v 0) (nomark _)) (dss_cons (ds_set (i := 3) sc_factorization.nd de_int)
  (dss_cons (ds_while (passes_of rfl) (dt_cmp (c_eq hr) (de_mod (de_v 0) (de_v 2)) de_int (nomark _)) (dss_cons (ds_aug (i := 0) sc_factorization.nd i_div (de_v 2))
  (dss_one (ds_aug (i := 3) sc_factorization.nd i_add de_int))))
  (dss_cons (ds_if (dt_cmp c_gt (de_v 3) de_int (nomark _)) (dss_one (ds_app 1 (de_tup (da_cons (de_v 2) (da_cons (de_v 3) da_nil))))) dss_nil)
  (dss_one (ds_aug (i := 2) sc_factorization.nd i_add (de_if (dt_cmp (c_eq hr) (de_v 2) de_int (nomark _)) de_int de_int)))))))
  (dss_cons (ds_if (dt_cmp c_gt (de_v 0) de_int (nomark _)) (dss_one (ds_app 1 (de_tup (da_cons (de_v 0) (da_cons de_int da_nil))))) dss_nil)
  (dss_one (ds_ret (de_T b_tuple z_tuple (by decide +kernel) (dap_cons (dp_pk 1) dap_nil)))))))))⟩
theorem sc_is_prime : FnScope ["number"] ["number"] (defScope s_is_prime) := ⟨rfl, rfl, rfl, by decide +kernel, rfl, by decide +kernel, by decide +kernel⟩
theorem ok_is_prime {f : Addr} {fd : FuncData} (c_factorization : Cal P w K mg base 1 "factorization" ["number"] m_factorization)
    (F : Fun K "is_prime" "is_prime" s_is_prime f fd) (hm : mg "is_prime" = some (.ref f)) (hb : Binds K fd ["number"] []) : Cal P w K mg base 2 "is_prime" ["number"] m_is_prime := by
  refine cal_ok F hm hb sc_is_prime fun cdv A outer s H E hr => ?_
  exact ⟨_, (dss_one (ds_ret (de_and (de_cmp c_gt (de_v 0) de_int (nomark _)) (de_one (de_cmp (c_eq hr) (de_call (c_factorization.mono (by decide)) hr (takes_of rfl rfl rfl rfl) (da_cons (de_v 0) da_nil)) (de_tup (da_cons (de_tup (da_cons (de_v 0) (da_cons de_int da_nil))) da_nil)) (nomark _))))))⟩
theorem sc_cubic_value : FnScope ["cubic", "x", "y", "a", "b", "c", "d"] ["cubic", "x", "y"] (defScope s_cubic_value) := ⟨rfl, rfl, rfl, by decide +kernel, rfl, by decide +kernel, by decide +kernel⟩
theorem ok_cubic_value {f : Addr} {fd : FuncData} 
    (F : Fun K "cubic_value" "cubic_value" s_cubic_value f fd) (hm : mg "cubic_value" = some (.ref f)) (hb : Binds K fd ["cubic", "x", "y"] []) : Cal P w K mg base 1 "cubic_value" ["cubic", "x", "y"] m_cubic_value := by
  refine cal_ok F hm hb sc_cubic_value fun cdv A outer s H E hr => ?_
  exact ⟨_, (dss_cons (ds_asg (de_v 0) (dg_tup (dgs_cons (dg_name (i := 3) sc_cubic_value.nd) (dgs_cons (dg_name (i := 4) sc_cubic_value.nd) (dgs_cons (dg_name (i := 5) sc_cubic_value.nd) (dgs_cons (dg_name (i := 6) sc_cubic_value.nd) dgs_nil))))))
  (dss_one (ds_ret (de_add (de_add (de_add (de_mul (de_mul (de_mul (de_v 3) (de_v 1)) (de_v 1)) (de_v 1)) (de_mul (de_mul (de_mul (de_v 4) (de_v 1)) (de_v 1)) (de_v 2))) (de_mul (de_mul (de_mul (de_v 5) (de_v 1)) (de_v 2)) (de_v 2))) (de_mul (de_mul (de_mul (de_v 6) (de_v 2)) (de_v 2)) (de_v 2))))))⟩
theorem sc_turned_cubic : FnScope ["cubic", "twist", "a", "b", "c", "d", "p", "q", "r", "s", "first", "last", "second", "third"] ["cubic", "twist"] (defScope s_turned_cubic) := ⟨rfl, rfl, rfl, by decide +kernel, rfl, by decide +kernel, by decide +kernel⟩
theorem ok_turned_cubic {f : Addr} {fd : FuncData} (c_cubic_value : Cal P w K mg base 1 "cubic_value" ["cubic", "x", "y"] m_cubic_value)
    (F : Fun K "turned_cubic" "turned_cubic" s_turned_cubic f fd) (hm : mg "turned_cubic" = some (.ref f)) (hb : Binds K fd ["cubic", "twist"] []) : Cal P w K mg base 2 "turned_cubic" ["cubic", "twist"] m_turned_cubic := by
  refine cal_ok F hm hb sc_turned_cubic fun cdv A outer s H E hr => ?_
  exact ⟨_, (dss_cons (ds_asg (de_v 0) (dg_tup (dgs_cons (dg_name (i := 2) sc_turned_cubic.nd) (dgs_cons (dg_name (i := 3) sc_turned_cubic.nd) (dgs_cons (dg_name (i := 4) sc_turned_cubic.nd) (dgs_cons (dg_name (i := 5) sc_turned_cubic.nd) dgs_nil))))))
  (dss_cons (ds_asg (de_v 1) (dg_tup (dgs_cons (dg_name (i := 6) sc_turned_cubic.nd) (dgs_cons (dg_name (i := 7) sc_turned_cubic.nd) (dgs_cons (dg_name (i := 8) sc_turned_cubic.nd) (dgs_cons (dg_name (i := 9) sc_turned_cubic.nd) dgs_nil))))))
  (dss_cons (ds_set (i := 10) sc_turned_cubic.nd (de_call (c_cubic_value.mono (by decide)) hr (takes_of rfl rfl rfl rfl) (da_cons (de_v 0) (da_cons (de_v 6) (da_cons (de_v 8) da_nil)))))
  (dss_cons (ds_set (i := 11) sc_turned_cubic.nd (de_call (c_cubic_value.mono (by decide)) hr (takes_of rfl rfl rfl rfl) (da_cons (de_v 0) (da_cons (de_v 7) (da_cons (de_v 9) da_nil)))))
  (dss_cons (ds_set (i := 12) sc_turned_cubic.nd (de_add (de_add (de_add (de_mul (de_mul (de_mul (de_mul de_int (de_v 2)) (de_v 6)) (de_v 6)) (de_v 7)) (de_mul (de_v 3) (de_add (de_mul (de_mul (de_v 6) (de_v 6)) (de_v 9)) (de_mul (de_mul (de_mul de_int (de_v 6)) (de_v 7)) (de_v 8))))) (de_mul (de_v 4) (de_add (de_mul (de_mul (de_v 7) (de_v 8)) (de_v 8)) (de_mul (de_mul (de_mul de_int (de_v 6)) (de_v 8)) (de_v 9))))) (de_mul (de_mul (de_mul (de_mul de_int (de_v 5)) (de_v 8)) (de_v 8)) (de_v 9))))
  (dss_cons (ds_set (i := 13) sc_turned_cubic.nd (de_add (de_add (de_add (de_mul (de_mul (de_mul (de_mul de_int (de_v 2)) (de_v 6)) (de_v 7)) (de_v 7)) (de_mul (de_v 3) (de_add (de_mul (de_mul (de_v 7) (de_v 7)) (de_v 8)) (de_mul (de_mul (de_mul de_int (de_v 6)) (de_v 7)) (de_v 9))))) (de_mul (de_v 4) (de_add (de_mul (de_mul (de_v 6) (de_v 9)) (de_v 9)) (de_mul (de_mul (de_mul de_int (de_v 7)) (de_v 8)) (de_v 9))))) (de_mul (de_mul (de_mul (de_mul de_int (de_v 5)) (de_v 8)) (de_v 9)) (de_v 9))))
  (dss_one (ds_ret (de_tup (da_cons (de_v 10) (da_cons (de_v 12) (da_cons (de_v 13) (da_cons (de_v 11) da_nil)))))))))))))⟩
theorem sc_cubic_product : FnScope ["cubic", "one", "other", "a", "b", "c", "d", "p", "q", "r", "x", "y", "z", "squares", "mixed", "lasts"] ["cubic", "one", "other"] (defScope s_cubic_product) := ⟨rfl, rfl, rfl, by decide +kernel, rfl, by decide +kernel, by decide +kernel⟩
theorem ok_cubic_product {f : Addr} {fd : FuncData} 
    (F : Fun K "cubic_product" "cubic_product" s_cubic_product f fd) (hm : mg "cubic_product" = some (.ref f)) (hb : Binds K fd ["cubic", "one", "other"] []) : Cal P w K mg base 1 "cubic_product" ["cubic", "one", "other"] m_cubic_product := by
  refine cal_ok F hm hb sc_cubic_product fun cdv A outer s H E hr => ?_
  exact ⟨_, (dss_cons (ds_asg (de_v 0) (dg_tup (dgs_cons (dg_name (i := 3) sc_cubic_product.nd) (dgs_cons (dg_name (i := 4) sc_cubic_product.nd) (dgs_cons (dg_name (i := 5) sc_cubic_product.nd) (dgs_cons (dg_name (i := 6) sc_cubic_product.nd) dgs_nil))))))
  (dss_cons (ds_asg (de_v 1) (dg_tup (dgs_cons (dg_name (i := 7) sc_cubic_product.nd) (dgs_cons (dg_name (i := 8) sc_cubic_product.nd) (dgs_cons (dg_name (i := 9) sc_cubic_product.nd) dgs_nil)))))
  (dss_cons (ds_asg (de_v 2) (dg_tup (dgs_cons (dg_name (i := 10) sc_cubic_product.nd) (dgs_cons (dg_name (i := 11) sc_cubic_product.nd) (dgs_cons (dg_name (i := 12) sc_cubic_product.nd) dgs_nil)))))
  (dss_cons (ds_par3 (i := 13) (j := 14) (l := 15) sc_cubic_product.nd (da_cons (de_mul (de_v 8) (de_v 11)) (da_cons (de_add (de_mul (de_v 8) (de_v 12)) (de_mul (de_v 9) (de_v 11))) (da_cons (de_mul (de_v 9) (de_v 12)) da_nil))) (by decide) (by decide) (by decide))
  (dss_one (ds_ret (de_tup (da_cons (de_sub (de_sub (de_sub (de_mul (de_v 7) (de_v 10)) (de_mul (de_mul (de_v 3) (de_v 5)) (de_v 13))) (de_mul (de_mul (de_v 3) (de_v 6)) (de_v 14))) (de_mul (de_mul (de_v 4) (de_v 6)) (de_v 15))) (da_cons (de_sub (de_sub (de_add (de_mul (de_v 7) (de_v 11)) (de_mul (de_v 8) (de_v 10))) (de_mul (de_v 4) (de_v 13))) (de_mul (de_v 6) (de_v 15))) (da_cons (de_add (de_add (de_add (de_mul (de_v 7) (de_v 12)) (de_mul (de_v 9) (de_v 10))) (de_mul (de_v 3) (de_v 13))) (de_mul (de_v 5) (de_v 15))) da_nil))))))))))⟩
theorem sc_cubic_sum : FnScope ["one", "other"] ["one", "other"] (defScope s_cubic_sum) := ⟨rfl, rfl, rfl, by decide +kernel, rfl, by decide +kernel, by decide +kernel⟩
theorem ok_cubic_sum {f : Addr} {fd : FuncData} 
    (F : Fun K "cubic_sum" "cubic_sum" s_cubic_sum f fd) (hm : mg "cubic_sum" = some (.ref f)) (hb : Binds K fd ["one", "other"] []) : Cal P w K mg base 1 "cubic_sum" ["one", "other"] m_cubic_sum := by
  refine cal_ok F hm hb sc_cubic_sum fun cdv A outer s H E hr => ?_
  exact ⟨_, (dss_one (ds_ret (de_tup (da_cons (de_add (de_ixP (dp_of (de_v 0)) (dp_of de_int) (fun _ _ => rfl)) (de_ixP (dp_of (de_v 1)) (dp_of de_int) (fun _ _ => rfl))) (da_cons (de_add (de_ixP (dp_of (de_v 0)) (dp_of de_int) (fun _ _ => rfl)) (de_ixP (dp_of (de_v 1)) (dp_of de_int) (fun _ _ => rfl))) (da_cons (de_add (de_ixP (dp_of (de_v 0)) (dp_of de_int) (fun _ _ => rfl)) (de_ixP (dp_of (de_v 1)) (dp_of de_int) (fun _ _ => rfl))) da_nil))))))⟩
theorem sc_cubic_matrix : FnScope ["cubic", "one", "unit"] ["cubic", "one"] (defScope s_cubic_matrix) := ⟨rfl, rfl, rfl, by decide +kernel, rfl, by decide +kernel, by decide +kernel⟩
theorem ok_cubic_matrix {f : Addr} {fd : FuncData} (c_cubic_product : Cal P w K mg base 1 "cubic_product" ["cubic", "one", "other"] m_cubic_product)
    (z_tuple : mg "tuple" = none)
    (F : Fun K "cubic_matrix" "cubic_matrix" s_cubic_matrix f fd) (hm : mg "cubic_matrix" = some (.ref f)) (hb : Binds K fd ["cubic", "one"] []) : Cal P w K mg base 2 "cubic_matrix" ["cubic", "one"] m_cubic_matrix := by
  refine cal_ok F hm hb sc_cubic_matrix fun cdv A outer s H E hr => ?_
  exact ⟨_, (dss_one (ds_ret (de_T b_tuple z_tuple (by decide +kernel) (dap_cons (dp_of (de_n (dn_comp sc_cubic_matrix.nd (blkOk_by (own := [("unit", 2)]) (N := ["cubic", "one", "unit"]) (sc := defScope s_cubic_matrix) (by decide +kernel)) (di_any (de_tup (da_cons (de_tup (da_cons de_int (da_cons de_int (da_cons de_int da_nil)))) (da_cons (de_tup (da_cons de_int (da_cons de_int (da_cons de_int da_nil)))) (da_cons (de_tup (da_cons de_int (da_cons de_int (da_cons de_int da_nil)))) da_nil))))) (fun _ _ _ _ _ => (dg_name (i := 2) sc_cubic_matrix.nd)) (fun _ _ _ _ _ => dts_nil) (fun _ _ _ _ _ => (de_call (c_cubic_product.mono (by decide)) hr takes0 (da_cons (de_v 0) (da_cons (de_v 1) (da_cons (de_v 2) da_nil))))) (by decide) s))) dap_nil))))⟩
theorem sc_cubic_trace : FnScope ["cubic", "one", "rows"] ["cubic", "one"] (defScope s_cubic_trace) := ⟨rfl, rfl, rfl, by decide +kernel, rfl, by decide +kernel, by decide +kernel⟩
theorem ok_cubic_trace {f : Addr} {fd : FuncData} (c_cubic_matrix : Cal P w K mg base 2 "cubic_matrix" ["cubic", "one"] m_cubic_matrix)
    (F : Fun K "cubic_trace" "cubic_trace" s_cubic_trace f fd) (hm : mg "cubic_trace" = some (.ref f)) (hb : Binds K fd ["cubic", "one"] []) : Cal P w K mg base 3 "cubic_trace" ["cubic", "one"] m_cubic_trace := by
  refine cal_ok F hm hb sc_cubic_trace fun cdv A outer s H E hr => ?_
  exact ⟨_, (dss_cons (ds_set (i := 2) sc_cubic_trace.nd (de_call (c_cubic_matrix.mono (by decide)) hr (takes_of rfl rfl rfl rfl) (da_cons (de_v 0) (da_cons (de_v 1) da_nil))))
  (dss_one (ds_ret (de_add (de_add (de_ixP (dp_of (de_ixP (dp_of (de_v 2)) (dp_of de_int) (fun _ _ => rfl))) (dp_of de_int) (fun _ _ => rfl)) (de_ixP (dp_of (de_ixP (dp_of (de_v 2)) (dp_of de_int) (fun _ _ => rfl))) (dp_of de_int) (fun _ _ => rfl))) (de_ixP (dp_of (de_ixP (dp_of (de_v 2)) (dp_of de_int) (fun _ _ => rfl))) (dp_of de_int) (fun _ _ => rfl))))))⟩
theorem sc_cubic_norm : FnScope ["cubic", "one", "a", "b", "c", "d", "e", "f", "g", "h", "i"] ["cubic", "one"] (defScope s_cubic_norm) := ⟨rfl, rfl, rfl, by decide +kernel, rfl, by decide +kernel, by decide +kernel⟩
theorem ok_cubic_norm {f : Addr} {fd : FuncData} (c_cubic_matrix : Cal P w K mg base 2 "cubic_matrix" ["cubic", "one"] m_cubic_matrix)
    (F : Fun K "cubic_norm" "cubic_norm" s_cubic_norm f fd) (hm : mg "cubic_norm" = some (.ref f)) (hb : Binds K fd ["cubic", "one"] []) : Cal P w K mg base 3 "cubic_norm" ["cubic", "one"] m_cubic_norm := by
  refine cal_ok F hm hb sc_cubic_norm fun cdv A outer s H E hr => ?_
  exact ⟨_, (dss_cons (ds_asg (de_call (c_cubic_matrix.mono (by decide)) hr (takes_of rfl rfl rfl rfl) (da_cons (de_v 0) (da_cons (de_v 1) da_nil))) (dg_tup (dgs_cons (dg_tup (dgs_cons (dg_name (i := 2) sc_cubic_norm.nd) (dgs_cons (dg_name (i := 3) sc_cubic_norm.nd) (dgs_cons (dg_name (i := 4) sc_cubic_norm.nd) dgs_nil)))) (dgs_cons (dg_tup (dgs_cons (dg_name (i := 5) sc_cubic_norm.nd) (dgs_cons (dg_name (i := 6) sc_cubic_norm.nd) (dgs_cons (dg_name (i := 7) sc_cubic_norm.nd) dgs_nil)))) (dgs_cons (dg_tup (dgs_cons (dg_name (i := 8) sc_cubic_norm.nd) (dgs_cons (dg_name (i := 9) sc_cubic_norm.nd) (dgs_cons (dg_name (i := 10) sc_cubic_norm.nd) dgs_nil)))) dgs_nil)))))
  (dss_one (ds_ret (de_add (de_sub (de_mul (de_v 2) (de_sub (de_mul (de_v 6) (de_v 10)) (de_mul (de_v 7) (de_v 9)))) (de_mul (de_v 3) (de_sub (de_mul (de_v 5) (de_v 10)) (de_mul (de_v 7) (de_v 8))))) (de_mul (de_v 4) (de_sub (de_mul (de_v 5) (de_v 9)) (de_mul (de_v 6) (de_v 8))))))))⟩
theorem sc_cubic_second : FnScope ["cubic", "one", "a", "b", "c", "d", "e", "f", "g", "h", "i"] ["cubic", "one"] (defScope s_cubic_second) := ⟨rfl, rfl, rfl, by decide +kernel, rfl, by decide +kernel, by decide +kernel⟩
theorem ok_cubic_second {f : Addr} {fd : FuncData} (c_cubic_matrix : Cal P w K mg base 2 "cubic_matrix" ["cubic", "one"] m_cubic_matrix)
    (F : Fun K "cubic_second" "cubic_second" s_cubic_second f fd) (hm : mg "cubic_second" = some (.ref f)) (hb : Binds K fd ["cubic", "one"] []) : Cal P w K mg base 3 "cubic_second" ["cubic", "one"] m_cubic_second := by
  refine cal_ok F hm hb sc_cubic_second fun cdv A outer s H E hr => ?_
  exact ⟨_, (dss_cons (ds_asg (de_call (c_cubic_matrix.mono (by decide)) hr (takes_of rfl rfl rfl rfl) (da_cons (de_v 0) (da_cons (de_v 1) da_nil))) (dg_tup (dgs_cons (dg_tup (dgs_cons (dg_name (i := 2) sc_cubic_second.nd) (dgs_cons (dg_name (i := 3) sc_cubic_second.nd) (dgs_cons (dg_name (i := 4) sc_cubic_second.nd) dgs_nil)))) (dgs_cons (dg_tup (dgs_cons (dg_name (i := 5) sc_cubic_second.nd) (dgs_cons (dg_name (i := 6) sc_cubic_second.nd) (dgs_cons (dg_name (i := 7) sc_cubic_second.nd) dgs_nil)))) (dgs_cons (dg_tup (dgs_cons (dg_name (i := 8) sc_cubic_second.nd) (dgs_cons (dg_name (i := 9) sc_cubic_second.nd) (dgs_cons (dg_name (i := 10) sc_cubic_second.nd) dgs_nil)))) dgs_nil)))))
  (dss_one (ds_ret (de_sub (de_add (de_sub (de_add (de_sub (de_mul (de_v 2) (de_v 6)) (de_mul (de_v 3) (de_v 5))) (de_mul (de_v 2) (de_v 10))) (de_mul (de_v 4) (de_v 8))) (de_mul (de_v 6) (de_v 10))) (de_mul (de_v 7) (de_v 9))))))⟩
theorem sc_fits_equation : FnScope ["cubic", "one", "square", "cube", "trace", "second", "norm", "found", "at"] ["cubic", "one"] (defScope s_fits_equation) := ⟨rfl, rfl, rfl, by decide +kernel, rfl, by decide +kernel, by decide +kernel⟩
theorem ok_fits_equation {f : Addr} {fd : FuncData} (c_cubic_product : Cal P w K mg base 1 "cubic_product" ["cubic", "one", "other"] m_cubic_product)
    (c_cubic_trace : Cal P w K mg base 3 "cubic_trace" ["cubic", "one"] m_cubic_trace)
    (c_cubic_norm : Cal P w K mg base 3 "cubic_norm" ["cubic", "one"] m_cubic_norm)
    (c_cubic_second : Cal P w K mg base 3 "cubic_second" ["cubic", "one"] m_cubic_second)
    (z_range : mg "range" = none)
    (z_tuple : mg "tuple" = none)
    (F : Fun K "fits_equation" "fits_equation" s_fits_equation f fd) (hm : mg "fits_equation" = some (.ref f)) (hb : Binds K fd ["cubic", "one"] []) : Cal P w K mg base 4 "fits_equation" ["cubic", "one"] m_fits_equation := by
  refine cal_ok F hm hb sc_fits_equation fun cdv A outer s H E hr => ?_
  exact ⟨_, (dss_cons (ds_set (i := 2) sc_fits_equation.nd (de_call (c_cubic_product.mono (by decide)) hr (takes_of rfl rfl rfl rfl) (da_cons (de_v 0) (da_cons (de_v 1) (da_cons (de_v 1) da_nil)))))
  (dss_cons (ds_set (i := 3) sc_fits_equation.nd (de_call (c_cubic_product.mono (by decide)) hr (takes_of rfl rfl rfl rfl) (da_cons (de_v 0) (da_cons (de_v 2) (da_cons (de_v 1) da_nil)))))
  (dss_cons (ds_asg (de_tup (da_cons (de_call (c_cubic_trace.mono (by decide)) hr (takes_of rfl rfl rfl rfl) (da_cons (de_v 0) (da_cons (de_v 1) da_nil))) (da_cons (de_call (c_cubic_second.mono (by decide)) hr (takes_of rfl rfl rfl rfl) (da_cons (de_v 0) (da_cons (de_v 1) da_nil))) (da_cons (de_call (c_cubic_norm.mono (by decide)) hr (takes_of rfl rfl rfl rfl) (da_cons (de_v 0) (da_cons (de_v 1) da_nil))) da_nil)))) (dg_tup (dgs_cons (dg_name (i := 4) sc_fits_equation.nd) (dgs_cons (dg_name (i := 5) sc_fits_equation.nd) (dgs_cons (dg_name (i := 6) sc_fits_equation.nd) dgs_nil)))))
  (dss_cons (ds_set (i := 7) sc_fits_equation.nd (de_T b_tuple z_tuple (by decide +kernel) (dap_cons (dp_of (de_n (dn_comp sc_fits_equation.nd (blkOk_by (own := [("at", 8)]) (N := ["cubic", "one", "square", "cube", "trace", "second", "norm", "found", "at"]) (sc := defScope s_fits_equation) (by decide +kernel)) (di_rng1 z_range (da_cons de_int da_nil)) (fun _ _ _ _ _ => (dg_name (i := 8) sc_fits_equation.nd)) (fun _ _ _ _ _ => dts_nil) (fun _ _ _ _ _ => (de_add (de_sub (de_ixP (dp_of (de_v 3)) (dp_of (de_v 8)) (fun _ _ => rfl)) (de_mul (de_v 4) (de_ixP (dp_of (de_v 2)) (dp_of (de_v 8)) (fun _ _ => rfl)))) (de_mul (de_v 5) (de_ixP (dp_of (de_v 1)) (dp_of (de_v 8)) (fun _ _ => rfl))))) (by decide) s))) dap_nil)))
  (dss_one (ds_ret (de_cmp (c_eq hr) (de_v 7) (de_tup (da_cons (de_v 6) (da_cons de_int (da_cons de_int da_nil)))) (nomark _))))))))⟩
theorem sc_trace_table : FnScope ["cubic", "units", "other", "one"] ["cubic"] (defScope s_trace_table) := ⟨rfl, rfl, rfl, by decide +kernel, rfl, by decide +kernel, by decide +kernel⟩
theorem ok_trace_table {f : Addr} {fd : FuncData} (c_cubic_product : Cal P w K mg base 1 "cubic_product" ["cubic", "one", "other"] m_cubic_product)
    (c_cubic_trace : Cal P w K mg base 3 "cubic_trace" ["cubic", "one"] m_cubic_trace)
    (z_tuple : mg "tuple" = none)
    (F : Fun K "trace_table" "trace_table" s_trace_table f fd) (hm : mg "trace_table" = some (.ref f)) (hb : Binds K fd ["cubic"] []) : Cal P w K mg base 4 "trace_table" ["cubic"] m_trace_table := by
  refine cal_ok F hm hb sc_trace_table fun cdv A outer s H E hr => ?_
  exact ⟨_, (dss_cons (ds_set (i := 1) sc_trace_table.nd (de_tup (da_cons (de_tup (da_cons de_int (da_cons de_int (da_cons de_int da_nil)))) (da_cons (de_tup (da_cons de_int (da_cons de_int (da_cons de_int da_nil)))) (da_cons (de_tup (da_cons de_int (da_cons de_int (da_cons de_int da_nil)))) da_nil)))))
  (dss_one (ds_ret (de_T b_tuple z_tuple (by decide +kernel) (dap_cons (dp_of (de_n (dn_comp sc_trace_table.nd (blkOk_by (own := [("one", 3)]) (N := ["cubic", "units", "other", "one"]) (sc := defScope s_trace_table) (by decide +kernel)) (di_any (de_v 1)) (fun _ _ _ _ _ => (dg_name (i := 3) sc_trace_table.nd)) (fun _ _ _ _ _ => dts_nil) (fun _ _ _ _ _ => (de_T b_tuple z_tuple (by decide +kernel) (dap_cons (dp_of (de_n (dn_comp sc_trace_table.nd (blkOk_by (own := [("other", 2)]) (by rfl)) (di_any (de_v 1)) (fun _ _ _ _ _ => (dg_name (i := 2) sc_trace_table.nd)) (fun _ _ _ _ _ => dts_nil) (fun _ _ _ _ _ => (de_call (c_cubic_trace.mono (by decide)) hr takes0 (da_cons (de_v 0) (da_cons (de_call (c_cubic_product.mono (by decide)) hr takes0 (da_cons (de_v 0) (da_cons (de_v 3) (da_cons (de_v 2) da_nil)))) da_nil)))) (by decide) s))) dap_nil))) (by decide) s))) dap_nil)))))⟩
theorem sc_trace_discriminant : FnScope ["cubic", "a", "b", "c", "d", "e", "f", "g", "h", "i"] ["cubic"] (defScope s_trace_discriminant) := ⟨rfl, rfl, rfl, by decide +kernel, rfl, by decide +kernel, by decide +kernel⟩
theorem ok_trace_discriminant {f : Addr} {fd : FuncData} (c_trace_table : Cal P w K mg base 4 "trace_table" ["cubic"] m_trace_table)
    (F : Fun K "trace_discriminant" "trace_discriminant" s_trace_discriminant f fd) (hm : mg "trace_discriminant" = some (.ref f)) (hb : Binds K fd ["cubic"] []) : Cal P w K mg base 5 "trace_discriminant" ["cubic"] m_trace_discriminant := by
  refine cal_ok F hm hb sc_trace_discriminant fun cdv A outer s H E hr => ?_
  exact ⟨_, (dss_cons (ds_asg (de_call (c_trace_table.mono (by decide)) hr (takes_of rfl rfl rfl rfl) (da_cons (de_v 0) da_nil)) (dg_tup (dgs_cons (dg_tup (dgs_cons (dg_name (i := 1) sc_trace_discriminant.nd) (dgs_cons (dg_name (i := 2) sc_trace_discriminant.nd) (dgs_cons (dg_name (i := 3) sc_trace_discriminant.nd) dgs_nil)))) (dgs_cons (dg_tup (dgs_cons (dg_name (i := 4) sc_trace_discriminant.nd) (dgs_cons (dg_name (i := 5) sc_trace_discriminant.nd) (dgs_cons (dg_name (i := 6) sc_trace_discriminant.nd) dgs_nil)))) (dgs_cons (dg_tup (dgs_cons (dg_name (i := 7) sc_trace_discriminant.nd) (dgs_cons (dg_name (i := 8) sc_trace_discriminant.nd) (dgs_cons (dg_name (i := 9) sc_trace_discriminant.nd) dgs_nil)))) dgs_nil)))))
  (dss_one (ds_ret (de_add (de_sub (de_mul (de_v 1) (de_sub (de_mul (de_v 5) (de_v 9)) (de_mul (de_v 6) (de_v 8)))) (de_mul (de_v 2) (de_sub (de_mul (de_v 4) (de_v 9)) (de_mul (de_v 6) (de_v 7))))) (de_mul (de_v 3) (de_sub (de_mul (de_v 4) (de_v 8)) (de_mul (de_v 5) (de_v 7))))))))⟩
theorem sc_index_of : FnScope ["cubic", "one", "square"] ["cubic", "one"] (defScope s_index_of) := ⟨rfl, rfl, rfl, by decide +kernel, rfl, by decide +kernel, by decide +kernel⟩
theorem ok_index_of {f : Addr} {fd : FuncData} (c_cubic_product : Cal P w K mg base 1 "cubic_product" ["cubic", "one", "other"] m_cubic_product)
    (F : Fun K "index_of" "index_of" s_index_of f fd) (hm : mg "index_of" = some (.ref f)) (hb : Binds K fd ["cubic", "one"] []) : Cal P w K mg base 2 "index_of" ["cubic", "one"] m_index_of := by
  refine cal_ok F hm hb sc_index_of fun cdv A outer s H E hr => ?_
  exact ⟨_, (dss_cons (ds_set (i := 2) sc_index_of.nd (de_call (c_cubic_product.mono (by decide)) hr (takes_of rfl rfl rfl rfl) (da_cons (de_v 0) (da_cons (de_v 1) (da_cons (de_v 1) da_nil)))))
  (dss_one (ds_ret (de_sub (de_mul (de_ixP (dp_of (de_v 1)) (dp_of de_int) (fun _ _ => rfl)) (de_ixP (dp_of (de_v 2)) (dp_of de_int) (fun _ _ => rfl))) (de_mul (de_ixP (dp_of (de_v 1)) (dp_of de_int) (fun _ _ => rfl)) (de_ixP (dp_of (de_v 2)) (dp_of de_int) (fun _ _ => rfl)))))))⟩
theorem sc_roots_modulo_prime : FnScope ["cubic", "prime", "found", "x"] ["cubic", "prime"] (defScope s_roots_modulo_prime) := ⟨rfl, rfl, rfl, by decide +kernel, rfl, by decide +kernel, by decide +kernel⟩
theorem ok_roots_modulo_prime {f : Addr} {fd : FuncData} (c_is_prime : Cal P w K mg base 2 "is_prime" ["number"] m_is_prime)
    (c_cubic_value : Cal P w K mg base 1 "cubic_value" ["cubic", "x", "y"] m_cubic_value)
    {tk_MOST_PRIME : Tok} (k_MOST_PRIME : mg "MOST_PRIME" = some (.int 400 tk_MOST_PRIME))
    (z_range : mg "range" = none)
    (z_sorted : mg "sorted" = none)
    {CTooLarge : Addr} (x_TooLarge : ErrC K mg "TooLarge" CTooLarge)
    {CNotPossible : Addr} (x_NotPossible : ErrC K mg "NotPossible" CNotPossible)
    (F : Fun K "roots_modulo_prime" "roots_modulo_prime" s_roots_modulo_prime f fd) (hm : mg "roots_modulo_prime" = some (.ref f)) (hb : Binds K fd ["cubic", "prime"] []) : Cal P w K mg base 3 "roots_modulo_prime" ["cubic", "prime"] m_roots_modulo_prime := by
  refine cal_ok F hm hb sc_roots_modulo_prime fun cdv A outer s H E hr => ?_
  exact ⟨_, (dss_cons (ds_if (dt_not (dt_val (de_call (c_is_prime.mono (by decide)) hr (takes_of rfl rfl rfl rfl) (da_cons (de_v 1) da_nil)))) (dss_one (ds_raise x_NotPossible (takes_of rfl rfl rfl rfl))) dss_nil)
  (dss_cons (ds_if (dt_cmp c_gt (de_v 1) (de_glI k_MOST_PRIME) (nomark _)) (dss_one (ds_raise x_TooLarge (takes_of rfl rfl rfl rfl))) dss_nil)
  (dss_cons (ds_newC (i := 2) sc_roots_modulo_prime.nd (blkOk_by (own := [("x", 3)]) (N := ["cubic", "prime", "found", "x"]) (sc := defScope s_roots_modulo_prime) (by decide +kernel)) (di_rng1 z_range (da_cons (de_v 1) da_nil)) (fun _ _ _ _ _ => (dg_name (i := 3) sc_roots_modulo_prime.nd)) (fun _ _ _ _ _ => (dts_one (dt_cmp (c_eq hr) (de_mod (de_call (c_cubic_value.mono (by decide)) hr takes0 (da_cons (de_v 0) (da_cons (de_v 3) (da_cons de_int da_nil)))) (de_v 1)) de_int (nomark _)))) (fun _ _ _ _ _ => (de_tup (da_cons (de_v 3) (da_cons de_int da_nil)))) (by decide) s)
  (dss_cons (ds_if (dt_cmp (c_eq hr) (de_mod (de_ixP (dp_of (de_v 0)) (dp_of de_int) (fun _ _ => rfl)) (de_v 1)) de_int (nomark _)) (dss_one (ds_app 2 (de_tup (da_cons de_int (da_cons de_int da_nil))))) dss_nil)
  (dss_one (ds_ret (de_n (dn_B n_sortP z_sorted (by decide +kernel) (dap_cons (dp_pk 2) dap_nil)))))))))⟩
theorem sc_root_count : FnScope ["cubic", "root", "prime", "x", "y", "a", "b", "c", "d"] ["cubic", "root", "prime"] (defScope s_root_count) := ⟨rfl, rfl, rfl, by decide +kernel, rfl, by decide +kernel, by decide +kernel⟩
theorem ok_root_count {f : Addr} {fd : FuncData} (c_turned_cubic : Cal P w K mg base 2 "turned_cubic" ["cubic", "twist"] m_turned_cubic)
    (F : Fun K "root_count" "root_count" s_root_count f fd) (hm : mg "root_count" = some (.ref f)) (hb : Binds K fd ["cubic", "root", "prime"] []) : Cal P w K mg base 3 "root_count" ["cubic", "root", "prime"] m_root_count := by
  refine cal_ok F hm hb sc_root_count fun cdv A outer s H E hr => ?_
  exact ⟨_, (dss_cons (ds_asg (de_v 1) (dg_tup (dgs_cons (dg_name (i := 3) sc_root_count.nd) (dgs_cons (dg_name (i := 4) sc_root_count.nd) dgs_nil))))
  (dss_cons (ds_asg (de_call (c_turned_cubic.mono (by decide)) hr (takes_of rfl rfl rfl rfl) (da_cons (de_v 0) (da_cons (de_if (dt_cmp (c_eq hr) (de_v 4) de_int (nomark _)) (de_tup (da_cons (de_v 3) (da_cons (de_neg de_int) (da_cons de_int (da_cons de_int da_nil))))) (de_tup (da_cons de_int (da_cons de_int (da_cons de_int (da_cons de_int da_nil)))))) da_nil))) (dg_tup (dgs_cons (dg_name (i := 5) sc_root_count.nd) (dgs_cons (dg_name (i := 6) sc_root_count.nd) (dgs_cons (dg_name (i := 7) sc_root_count.nd) (dgs_cons (dg_name (i := 8) sc_root_count.nd) dgs_nil))))))
  (dss_cons (ds_if (dt_cmp (c_ne hr) (de_mod (de_v 6) (de_v 2)) de_int (nomark _)) (dss_one (ds_ret de_int)) dss_nil)
  (dss_one (ds_ret (de_if (dt_cmp (c_ne hr) (de_mod (de_v 7) (de_v 2)) de_int (nomark _)) de_int de_int))))))⟩
theorem sc_splitting_of : FnScope ["cubic", "prime", "number", "roots", "counts", "root"] ["cubic", "prime"] (defScope s_splitting_of) := ⟨rfl, rfl, rfl, by decide +kernel, rfl, by decide +kernel, by decide +kernel⟩
theorem ok_splitting_of {f : Addr} {fd : FuncData} (c_roots_modulo_prime : Cal P w K mg base 3 "roots_modulo_prime" ["cubic", "prime"] m_roots_modulo_prime)
    (c_root_count : Cal P w K mg base 3 "root_count" ["cubic", "root", "prime"] m_root_count)
    (z_all : mg "all" = none)
    (z_sorted : mg "sorted" = none)
    (F : Fun K "splitting_of" "splitting_of" s_splitting_of f fd) (hm : mg "splitting_of" = some (.ref f)) (hb : Binds K fd ["cubic", "prime"] []) : Cal P w K mg base 4 "splitting_of" ["cubic", "prime"] m_splitting_of := by
  refine cal_ok F hm hb sc_splitting_of fun cdv A outer s H E hr => ?_
  exact ⟨_, (dss_cons (ds_if (dt_val (de_B (b_all) z_all (by decide +kernel) (dap_cons (dp_of (de_n (dn_comp sc_splitting_of.nd (blkOk_by (own := [("number", 2)]) (N := ["cubic", "prime", "number", "roots", "counts", "root"]) (sc := defScope s_splitting_of) (by decide +kernel)) (di_any (de_v 0)) (fun _ _ _ _ _ => (dg_name (i := 2) sc_splitting_of.nd)) (fun _ _ _ _ _ => dts_nil) (fun _ _ _ _ _ => (de_cmp (c_eq hr) (de_mod (de_v 2) (de_v 1)) de_int (nomark _))) (by decide) s))) dap_nil))) (dss_one (ds_ret de_str)) dss_nil)
  (dss_cons (ds_set (i := 3) sc_splitting_of.nd (de_call (c_roots_modulo_prime.mono (by decide)) hr (takes_of rfl rfl rfl rfl) (da_cons (de_v 0) (da_cons (de_v 1) da_nil))))
  (dss_cons (ds_set (i := 4) sc_splitting_of.nd (de_n (dn_B n_sortI z_sorted (by decide +kernel) (dap_cons (dp_of (de_n (dn_comp sc_splitting_of.nd (blkOk_by (own := [("root", 5)]) (N := ["cubic", "prime", "number", "roots", "counts", "root"]) (sc := defScope s_splitting_of) (by decide +kernel)) (di_any (de_v 3)) (fun _ _ _ _ _ => (dg_name (i := 5) sc_splitting_of.nd)) (fun _ _ _ _ _ => dts_nil) (fun _ _ _ _ _ => (de_call (c_root_count.mono (by decide)) hr takes0 (da_cons (de_v 0) (da_cons (de_v 5) (da_cons (de_v 1) da_nil))))) (by decide) s))) dap_nil))))
  (dss_cons (ds_if (dt_cmp (c_eq hr) (de_v 4) (de_n (dn_lst (da_cons de_int (da_cons de_int (da_cons de_int da_nil))))) (nomark _)) (dss_one (ds_ret de_str)) dss_nil)
  (dss_cons (ds_if (dt_cmp (c_eq hr) (de_v 4) (de_n (dn_lst (da_cons de_int da_nil))) (nomark _)) (dss_one (ds_ret de_str)) dss_nil)
  (dss_cons (ds_if (dt_cmp (c_eq hr) (de_v 4) (de_n (dn_lst (da_cons de_int (da_cons de_int da_nil)))) (nomark _)) (dss_one (ds_ret de_str)) dss_nil)
  (dss_one (ds_ret (de_if (dt_cmp (c_eq hr) (de_v 4) (de_n (dn_lst (da_cons de_int da_nil))) (nomark _)) de_str de_str)))))))))⟩
theorem sc_is_largest_at : FnScope ["cubic", "prime", "number", "root", "x", "y", "a", "b", "_"] ["cubic", "prime"] (defScope s_is_largest_at) := ⟨rfl, rfl, rfl, by decide +kernel, rfl, by decide +kernel, by decide +kernel⟩
theorem ok_is_largest_at {f : Addr} {fd : FuncData} (c_turned_cubic : Cal P w K mg base 2 "turned_cubic" ["cubic", "twist"] m_turned_cubic)
    (c_roots_modulo_prime : Cal P w K mg base 3 "roots_modulo_prime" ["cubic", "prime"] m_roots_modulo_prime)
    (z_all : mg "all" = none)
    (F : Fun K "is_largest_at" "is_largest_at" s_is_largest_at f fd) (hm : mg "is_largest_at" = some (.ref f)) (hb : Binds K fd ["cubic", "prime"] []) : Cal P w K mg base 4 "is_largest_at" ["cubic", "prime"] m_is_largest_at := by
  refine cal_ok F hm hb sc_is_largest_at fun cdv A outer s H E hr => ?_
  exact ⟨_, (dss_cons (ds_if (dt_val (de_B (b_all) z_all (by decide +kernel) (dap_cons (dp_of (de_n (dn_comp sc_is_largest_at.nd (blkOk_by (own := [("number", 2)]) (N := ["cubic", "prime", "number", "root", "x", "y", "a", "b", "_"]) (sc := defScope s_is_largest_at) (by decide +kernel)) (di_any (de_v 0)) (fun _ _ _ _ _ => (dg_name (i := 2) sc_is_largest_at.nd)) (fun _ _ _ _ _ => dts_nil) (fun _ _ _ _ _ => (de_cmp (c_eq hr) (de_mod (de_v 2) (de_v 1)) de_int (nomark _))) (by decide) s))) dap_nil))) (dss_one (ds_ret de_bl)) dss_nil)
  (dss_cons (ds_for (passes_of rfl) (di_any (de_call (c_roots_modulo_prime.mono (by decide)) hr (takes_of rfl rfl rfl rfl) (da_cons (de_v 0) (da_cons (de_v 1) da_nil)))) (dg_name (i := 3) sc_is_largest_at.nd) (dss_cons (ds_asg (de_v 3) (dg_tup (dgs_cons (dg_name (i := 4) sc_is_largest_at.nd) (dgs_cons (dg_name (i := 5) sc_is_largest_at.nd) dgs_nil))))
  (dss_cons (ds_asg (de_call (c_turned_cubic.mono (by decide)) hr (takes_of rfl rfl rfl rfl) (da_cons (de_v 0) (da_cons (de_if (dt_cmp (c_eq hr) (de_v 5) de_int (nomark _)) (de_tup (da_cons (de_v 4) (da_cons (de_neg de_int) (da_cons de_int (da_cons de_int da_nil))))) (de_tup (da_cons de_int (da_cons de_int (da_cons de_int (da_cons de_int da_nil)))))) da_nil))) (dg_tup (dgs_cons (dg_name (i := 6) sc_is_largest_at.nd) (dgs_cons (dg_name (i := 7) sc_is_largest_at.nd) (dgs_cons (dg_name (i := 8) sc_is_largest_at.nd) (dgs_cons (dg_name (i := 8) sc_is_largest_at.nd) dgs_nil))))))
  (dss_one (ds_if (DW.dt (dw_and (dt_cmp (c_eq hr) (de_mod (de_v 7) (de_v 1)) de_int (nomark _)) (dw_and1 (dt_cmp (c_eq hr) (de_mod (de_v 6) (de_mul (de_v 1) (de_v 1))) de_int (nomark _))))) (dss_one (ds_ret de_bl)) dss_nil)))))
  (dss_one (ds_ret de_bl))))⟩
theorem sc__law_state : FnScope ["script"] ["script"] (defScope s__law_state) := ⟨rfl, rfl, rfl, by decide +kernel, rfl, by decide +kernel, by decide +kernel⟩
theorem ok__law_state {f : Addr} {fd : FuncData} (F : Fun K "_law_state" "_law_state" s__law_state f fd) (ml : mg "list" = none) : FnOk P w K mg base (L2.CX P w) 1 f fd ["script"] (spState K) := by
  refine F.okX sc__law_state (fun vs H Q E h => by obtain ⟨a, ns, rfl, _⟩ := h; rfl) (fun cdv A outer s H vs Q E hr h => ⟨_, pss_one (ps_ret (pe_lst (pa_cons (pe_callTy call_list_of (by rfl) ml (by decide +kernel) (pa_cons (pv 0) pa_nil)) (pa_cons pe_int (pa_cons pe_int (pa_cons pe_int (pa_cons pe_bl (pa_cons pe_int pa_nil)))))))), state_red h rfl⟩)
theorem sc__law_draw : FnScope ["state", "limit", "cell", "digit", "mixed"] ["state", "limit"] (defScope s__law_draw) := ⟨rfl, rfl, rfl, by decide +kernel, rfl, by decide +kernel, by decide +kernel⟩
theorem ok__law_draw {f : Addr} {fd : FuncData} (z_int : mg "int" = none)
    (z_len : mg "len" = none)
    (F : Fun K "_law_draw" "_law_draw" s__law_draw f fd) (hm : mg "_law_draw" = some (.ref f)) (hb : Binds K fd ["state", "limit"] []) : Cal P w K mg base 1 "_law_draw" ["state", "limit"] m__law_draw := by
  refine cal_ok F hm hb sc__law_draw fun cdv A outer s H E hr => ?_
  exact ⟨_, (dss_cons (ds_if (dt_cmp (c_eq hr) (de_ixP (dp_of (de_v 0)) (dp_of de_int) (fun _ _ => rfl)) de_int (nomark _)) (dss_cons (ds_if (dt_cmp c_ge (de_ixP (dp_of (de_v 0)) (dp_of de_int) (fun _ _ => rfl)) (de_B b_len z_len (by decide +kernel) (dap_cons (dp_of (de_ixP (dp_of (de_v 0)) (dp_of de_int) (fun _ _ => rfl))) dap_nil)) (nomark _)) (dss_one (ds_ret de_int)) dss_nil)
  (dss_cons (ds_set (i := 2) sc__law_draw.nd (de_ixP (dp_of (de_ixP (dp_of (de_v 0)) (dp_of de_int) (fun _ _ => rfl))) (dp_of (de_ixP (dp_of (de_v 0)) (dp_of de_int) (fun _ _ => rfl))) (fun _ _ => rfl)))
  (dss_cons (ds_if (dt_cmp c_lt (de_v 2) de_int (nomark _)) (dss_one (ds_set (i := 2) sc__law_draw.nd (de_sub (de_neg de_int) (de_v 2)))) dss_nil)
  (dss_cons (ds_st 0 (de_add (de_ixP (dp_of (de_v 0)) (dp_of de_int) (fun _ _ => rfl)) de_int))
  (dss_cons (ds_st 0 (de_v 2))
  (dss_cons (ds_st 0 (de_cmp c_ge (de_v 2) (de_pow de_int de_int) (nomark _)))
  (dss_cons (ds_st 0 de_int)
  (dss_one (ds_if (dt_val (de_ixP (dp_of (de_v 0)) (dp_of de_int) (fun _ _ => rfl))) (dss_one (ds_st 0 de_int)) dss_nil))))))))) dss_nil)
  (dss_cons (ds_st 0 (de_sub (de_ixP (dp_of (de_v 0)) (dp_of de_int) (fun _ _ => rfl)) de_int))
  (dss_cons (ds_if (dt_val (de_ixP (dp_of (de_v 0)) (dp_of de_int) (fun _ _ => rfl))) (dss_cons (ds_set (i := 3) sc__law_draw.nd (de_mod (de_T b_int z_int (by decide +kernel) (dap_cons (dp_of (de_ixP (dp_of (de_v 0)) (dp_of de_int) (fun _ _ => rfl))) dap_nil)) (de_v 1)))
  (dss_cons (ds_st 0 (de_div (de_ixP (dp_of (de_v 0)) (dp_of de_int) (fun _ _ => rfl)) (de_v 1)))
  (dss_cons (ds_if (dt_cmp (c_eq hr) (de_ixP (dp_of (de_v 0)) (dp_of de_int) (fun _ _ => rfl)) de_int (nomark _)) (dss_one (ds_st 0 de_int)) dss_nil)
  (dss_one (ds_ret (de_v 3)))))) dss_nil)
  (dss_cons (ds_set (i := 4) sc__law_draw.nd (de_mod (de_T b_int z_int (by decide +kernel) (dap_cons (dp_of (de_add (de_add (de_mul (de_ixP (dp_of (de_v 0)) (dp_of de_int) (fun _ _ => rfl)) de_int) (de_mul (de_ixP (dp_of (de_v 0)) (dp_of de_int) (fun _ _ => rfl)) de_int)) de_int)) dap_nil)) de_int))
  (dss_cons (ds_set (i := 4) sc__law_draw.nd (de_mod (de_T b_int z_int (by decide +kernel) (dap_cons (dp_of (de_add (de_add (de_mul (de_v 4) (de_v 4)) (de_mul (de_ixP (dp_of (de_v 0)) (dp_of de_int) (fun _ _ => rfl)) de_int)) (de_ixP (dp_of (de_v 0)) (dp_of de_int) (fun _ _ => rfl)))) dap_nil)) de_int))
  (dss_one (ds_ret (de_mod (de_T b_int z_int (by decide +kernel) (dap_cons (dp_of (de_v 4)) dap_nil)) (de_v 1)))))))))⟩
theorem sc__law_truth : FnScope ["told", "due"] ["told", "due"] (defScope s__law_truth) := ⟨rfl, rfl, rfl, by decide +kernel, rfl, by decide +kernel, by decide +kernel⟩
theorem ok__law_truth {f : Addr} {fd : FuncData} 
    (F : Fun K "_law_truth" "_law_truth" s__law_truth f fd) (hm : mg "_law_truth" = some (.ref f)) (hb : Binds K fd ["told", "due"] []) : Cal P w K mg base 1 "_law_truth" ["told", "due"] m__law_truth := by
  refine cal_ok F hm hb sc__law_truth fun cdv A outer s H E hr => ?_
  exact ⟨_, (dss_cons (ds_if (dt_val (de_v 1)) (dss_one (ds_ret (de_cmp c_is (de_v 0) de_bl (nomark _)))) dss_nil)
  (dss_one (ds_ret (de_cmp c_is (de_v 0) de_bl (nomark _)))))⟩
theorem sc__law_matrix : FnScope ["state", "most", "size", "one", "turn", "count", "p", "q", "r", "s"] ["state", "most", "size"] (defScope s__law_matrix) := ⟨rfl, rfl, rfl, by decide +kernel, rfl, by decide +kernel, by decide +kernel⟩
theorem ok__law_matrix {f : Addr} {fd : FuncData} (c__law_draw : Cal P w K mg base 1 "_law_draw" ["state", "limit"] m__law_draw)
    (z_range : mg "range" = none)
    (F : Fun K "_law_matrix" "_law_matrix" s__law_matrix f fd) (hm : mg "_law_matrix" = some (.ref f)) (hb : Binds K fd ["state", "most", "size"] []) : Cal P w K mg base 2 "_law_matrix" ["state", "most", "size"] m__law_matrix := by
  refine cal_ok F hm hb sc__law_matrix fun cdv A outer s H E hr => ?_
  exact ⟨_, (dss_cons (ds_set (i := 3) sc__law_matrix.nd (de_tup (da_cons de_int (da_cons de_int (da_cons de_int (da_cons de_int da_nil))))))
  (dss_cons (ds_for (passes_of rfl) (di_rng1 z_range (da_cons (de_call (c__law_draw.mono (by decide)) hr (takes_of rfl rfl rfl rfl) (da_cons (de_v 0) (da_cons (de_add (de_v 1) de_int) da_nil))) da_nil)) (dg_name (i := 4) sc__law_matrix.nd) (dss_cons (ds_set (i := 5) sc__law_matrix.nd (de_sub (de_call (c__law_draw.mono (by decide)) hr (takes_of rfl rfl rfl rfl) (da_cons (de_v 0) (da_cons (de_add (de_mul de_int (de_v 2)) de_int) da_nil))) (de_v 2)))
  (dss_cons (ds_asg (de_v 3) (dg_tup (dgs_cons (dg_name (i := 6) sc__law_matrix.nd) (dgs_cons (dg_name (i := 7) sc__law_matrix.nd) (dgs_cons (dg_name (i := 8) sc__law_matrix.nd) (dgs_cons (dg_name (i := 9) sc__law_matrix.nd) dgs_nil))))))
  (dss_one (ds_set (i := 3) sc__law_matrix.nd (de_tup (da_cons (de_add (de_mul (de_v 6) (de_v 5)) (de_v 7)) (da_cons (de_sub de_int (de_v 6)) (da_cons (de_add (de_mul (de_v 8) (de_v 5)) (de_v 9)) (da_cons (de_sub de_int (de_v 8)) da_nil))))))))))
  (dss_one (ds_ret (de_v 3)))))⟩
theorem sc__law_cubic_turned : FnScope ["cubic", "one", "a", "b", "c", "d", "p", "q", "r", "s", "first", "second", "third", "last"] ["cubic", "one"] (defScope s__law_cubic_turned) := ⟨rfl, rfl, rfl, by decide +kernel, rfl, by decide +kernel, by decide +kernel⟩
theorem ok__law_cubic_turned {f : Addr} {fd : FuncData} 
    (F : Fun K "_law_cubic_turned" "_law_cubic_turned" s__law_cubic_turned f fd) (hm : mg "_law_cubic_turned" = some (.ref f)) (hb : Binds K fd ["cubic", "one"] []) : Cal P w K mg base 1 "_law_cubic_turned" ["cubic", "one"] m__law_cubic_turned := by
  refine cal_ok F hm hb sc__law_cubic_turned fun cdv A outer s H E hr => ?_
  exact ⟨_, (dss_cons (ds_asg (de_v 0) (dg_tup (dgs_cons (dg_name (i := 2) sc__law_cubic_turned.nd) (dgs_cons (dg_name (i := 3) sc__law_cubic_turned.nd) (dgs_cons (dg_name (i := 4) sc__law_cubic_turned.nd) (dgs_cons (dg_name (i := 5) sc__law_cubic_turned.nd) dgs_nil))))))
  (dss_cons (ds_asg (de_v 1) (dg_tup (dgs_cons (dg_name (i := 6) sc__law_cubic_turned.nd) (dgs_cons (dg_name (i := 7) sc__law_cubic_turned.nd) (dgs_cons (dg_name (i := 8) sc__law_cubic_turned.nd) (dgs_cons (dg_name (i := 9) sc__law_cubic_turned.nd) dgs_nil))))))
  (dss_cons (ds_set (i := 10) sc__law_cubic_turned.nd (de_add (de_add (de_add (de_mul (de_mul (de_mul (de_v 2) (de_v 6)) (de_v 6)) (de_v 6)) (de_mul (de_mul (de_mul (de_v 3) (de_v 6)) (de_v 6)) (de_v 8))) (de_mul (de_mul (de_mul (de_v 4) (de_v 6)) (de_v 8)) (de_v 8))) (de_mul (de_mul (de_mul (de_v 5) (de_v 8)) (de_v 8)) (de_v 8))))
  (dss_cons (ds_set (i := 11) sc__law_cubic_turned.nd (de_add (de_add (de_add (de_mul (de_mul (de_mul (de_mul de_int (de_v 2)) (de_v 6)) (de_v 6)) (de_v 7)) (de_mul (de_v 3) (de_add (de_mul (de_mul (de_v 6) (de_v 6)) (de_v 9)) (de_mul (de_mul (de_mul de_int (de_v 6)) (de_v 7)) (de_v 8))))) (de_mul (de_v 4) (de_add (de_mul (de_mul (de_v 8) (de_v 8)) (de_v 7)) (de_mul (de_mul (de_mul de_int (de_v 6)) (de_v 8)) (de_v 9))))) (de_mul (de_mul (de_mul (de_mul de_int (de_v 5)) (de_v 8)) (de_v 8)) (de_v 9))))
  (dss_cons (ds_set (i := 12) sc__law_cubic_turned.nd (de_add (de_add (de_add (de_mul (de_mul (de_mul (de_mul de_int (de_v 2)) (de_v 6)) (de_v 7)) (de_v 7)) (de_mul (de_v 3) (de_add (de_mul (de_mul (de_v 7) (de_v 7)) (de_v 8)) (de_mul (de_mul (de_mul de_int (de_v 6)) (de_v 7)) (de_v 9))))) (de_mul (de_v 4) (de_add (de_mul (de_mul (de_v 9) (de_v 9)) (de_v 6)) (de_mul (de_mul (de_mul de_int (de_v 7)) (de_v 8)) (de_v 9))))) (de_mul (de_mul (de_mul (de_mul de_int (de_v 5)) (de_v 8)) (de_v 9)) (de_v 9))))
  (dss_cons (ds_set (i := 13) sc__law_cubic_turned.nd (de_add (de_add (de_add (de_mul (de_mul (de_mul (de_v 2) (de_v 7)) (de_v 7)) (de_v 7)) (de_mul (de_mul (de_mul (de_v 3) (de_v 7)) (de_v 7)) (de_v 9))) (de_mul (de_mul (de_mul (de_v 4) (de_v 7)) (de_v 9)) (de_v 9))) (de_mul (de_mul (de_mul (de_v 5) (de_v 9)) (de_v 9)) (de_v 9))))
  (dss_one (ds_ret (de_tup (da_cons (de_v 10) (da_cons (de_v 11) (da_cons (de_v 12) (da_cons (de_v 13) da_nil)))))))))))))⟩
theorem sc__law_cubic_size : FnScope ["cubic", "a", "b", "c", "d"] ["cubic"] (defScope s__law_cubic_size) := ⟨rfl, rfl, rfl, by decide +kernel, rfl, by decide +kernel, by decide +kernel⟩
theorem ok__law_cubic_size {f : Addr} {fd : FuncData} 
    (F : Fun K "_law_cubic_size" "_law_cubic_size" s__law_cubic_size f fd) (hm : mg "_law_cubic_size" = some (.ref f)) (hb : Binds K fd ["cubic"] []) : Cal P w K mg base 1 "_law_cubic_size" ["cubic"] m__law_cubic_size := by
  refine cal_ok F hm hb sc__law_cubic_size fun cdv A outer s H E hr => ?_
  exact ⟨_, (dss_cons (ds_asg (de_v 0) (dg_tup (dgs_cons (dg_name (i := 1) sc__law_cubic_size.nd) (dgs_cons (dg_name (i := 2) sc__law_cubic_size.nd) (dgs_cons (dg_name (i := 3) sc__law_cubic_size.nd) (dgs_cons (dg_name (i := 4) sc__law_cubic_size.nd) dgs_nil))))))
  (dss_one (ds_ret (de_sub (de_sub (de_sub (de_add (de_mul (de_mul (de_mul (de_v 2) (de_v 2)) (de_v 3)) (de_v 3)) (de_mul (de_mul (de_mul (de_mul de_int (de_v 1)) (de_v 2)) (de_v 3)) (de_v 4))) (de_mul (de_mul (de_mul (de_mul de_int (de_v 1)) (de_v 3)) (de_v 3)) (de_v 3))) (de_mul (de_mul (de_mul (de_mul de_int (de_v 2)) (de_v 2)) (de_v 2)) (de_v 4))) (de_mul (de_mul (de_mul (de_mul de_int (de_v 1)) (de_v 1)) (de_v 4)) (de_v 4))))))⟩
theorem sc__law_cubic_value : FnScope ["cubic", "x", "y", "a", "b", "c", "d"] ["cubic", "x", "y"] (defScope s__law_cubic_value) := ⟨rfl, rfl, rfl, by decide +kernel, rfl, by decide +kernel, by decide +kernel⟩
theorem ok__law_cubic_value {f : Addr} {fd : FuncData} 
    (F : Fun K "_law_cubic_value" "_law_cubic_value" s__law_cubic_value f fd) (hm : mg "_law_cubic_value" = some (.ref f)) (hb : Binds K fd ["cubic", "x", "y"] []) : Cal P w K mg base 1 "_law_cubic_value" ["cubic", "x", "y"] m__law_cubic_value := by
  refine cal_ok F hm hb sc__law_cubic_value fun cdv A outer s H E hr => ?_
  exact ⟨_, (dss_cons (ds_asg (de_v 0) (dg_tup (dgs_cons (dg_name (i := 3) sc__law_cubic_value.nd) (dgs_cons (dg_name (i := 4) sc__law_cubic_value.nd) (dgs_cons (dg_name (i := 5) sc__law_cubic_value.nd) (dgs_cons (dg_name (i := 6) sc__law_cubic_value.nd) dgs_nil))))))
  (dss_one (ds_ret (de_add (de_add (de_add (de_mul (de_mul (de_mul (de_v 3) (de_v 1)) (de_v 1)) (de_v 1)) (de_mul (de_mul (de_mul (de_v 4) (de_v 1)) (de_v 1)) (de_v 2))) (de_mul (de_mul (de_mul (de_v 5) (de_v 1)) (de_v 2)) (de_v 2))) (de_mul (de_mul (de_mul (de_v 6) (de_v 2)) (de_v 2)) (de_v 2))))))⟩
theorem sc__law_cubic : FnScope ["state", "most", "k"] ["state", "most"] (defScope s__law_cubic) := ⟨rfl, rfl, rfl, by decide +kernel, rfl, by decide +kernel, by decide +kernel⟩
theorem ok__law_cubic {f : Addr} {fd : FuncData} (c__law_draw : Cal P w K mg base 1 "_law_draw" ["state", "limit"] m__law_draw)
    (z_range : mg "range" = none)
    (z_tuple : mg "tuple" = none)
    (F : Fun K "_law_cubic" "_law_cubic" s__law_cubic f fd) (hm : mg "_law_cubic" = some (.ref f)) (hb : Binds K fd ["state", "most"] []) : Cal P w K mg base 2 "_law_cubic" ["state", "most"] m__law_cubic := by
  refine cal_ok F hm hb sc__law_cubic fun cdv A outer s H E hr => ?_
  exact ⟨_, (dss_one (ds_ret (de_T b_tuple z_tuple (by decide +kernel) (dap_cons (dp_of (de_n (dn_comp sc__law_cubic.nd (blkOk_by (own := [("k", 2)]) (N := ["state", "most", "k"]) (sc := defScope s__law_cubic) (by decide +kernel)) (di_rng1 z_range (da_cons de_int da_nil)) (fun _ _ _ _ _ => (dg_name (i := 2) sc__law_cubic.nd)) (fun _ _ _ _ _ => dts_nil) (fun _ _ _ _ _ => (de_sub (de_call (c__law_draw.mono (by decide)) hr takes0 (da_cons (de_v 0) (da_cons (de_add (de_mul de_int (de_v 1)) de_int) da_nil))) (de_v 1))) (by decide) s))) dap_nil))))⟩
theorem sc__law_product : FnScope ["cubic", "one", "other", "a", "b", "c", "d", "p", "q", "r", "x", "y", "z", "uu", "uv", "vv", "found", "many", "row", "k"] ["cubic", "one", "other"] (defScope s__law_product) := ⟨rfl, rfl, rfl, by decide +kernel, rfl, by decide +kernel, by decide +kernel⟩
theorem ok__law_product {f : Addr} {fd : FuncData} (z_range : mg "range" = none)
    (z_tuple : mg "tuple" = none)
    (F : Fun K "_law_product" "_law_product" s__law_product f fd) (hm : mg "_law_product" = some (.ref f)) (hb : Binds K fd ["cubic", "one", "other"] []) : Cal P w K mg base 1 "_law_product" ["cubic", "one", "other"] m__law_product := by
  refine cal_ok F hm hb sc__law_product fun cdv A outer s H E hr => ?_
  exact ⟨_, (dss_cons (ds_asg (de_v 0) (dg_tup (dgs_cons (dg_name (i := 3) sc__law_product.nd) (dgs_cons (dg_name (i := 4) sc__law_product.nd) (dgs_cons (dg_name (i := 5) sc__law_product.nd) (dgs_cons (dg_name (i := 6) sc__law_product.nd) dgs_nil))))))
  (dss_cons (ds_asg (de_v 1) (dg_tup (dgs_cons (dg_name (i := 7) sc__law_product.nd) (dgs_cons (dg_name (i := 8) sc__law_product.nd) (dgs_cons (dg_name (i := 9) sc__law_product.nd) dgs_nil)))))
  (dss_cons (ds_asg (de_v 2) (dg_tup (dgs_cons (dg_name (i := 10) sc__law_product.nd) (dgs_cons (dg_name (i := 11) sc__law_product.nd) (dgs_cons (dg_name (i := 12) sc__law_product.nd) dgs_nil)))))
  (dss_cons (ds_set (i := 13) sc__law_product.nd (de_tup (da_cons (de_sub de_int (de_mul (de_v 3) (de_v 5))) (da_cons (de_sub de_int (de_v 4)) (da_cons (de_v 3) da_nil)))))
  (dss_cons (ds_set (i := 14) sc__law_product.nd (de_tup (da_cons (de_sub de_int (de_mul (de_v 3) (de_v 6))) (da_cons de_int (da_cons de_int da_nil)))))
  (dss_cons (ds_set (i := 15) sc__law_product.nd (de_tup (da_cons (de_sub de_int (de_mul (de_v 4) (de_v 6))) (da_cons (de_sub de_int (de_v 6)) (da_cons (de_v 5) da_nil)))))
  (dss_cons (ds_set (i := 16) sc__law_product.nd (de_n (dn_lst (da_cons (de_mul (de_v 7) (de_v 10)) (da_cons (de_add (de_mul (de_v 7) (de_v 11)) (de_mul (de_v 8) (de_v 10))) (da_cons (de_add (de_mul (de_v 7) (de_v 12)) (de_mul (de_v 9) (de_v 10))) da_nil))))))
  (dss_cons (ds_for (passes_of rfl) (di_any (de_n (dn_lst (da_cons (de_tup (da_cons (de_mul (de_v 8) (de_v 11)) (da_cons (de_v 13) da_nil))) (da_cons (de_tup (da_cons (de_add (de_mul (de_v 8) (de_v 12)) (de_mul (de_v 9) (de_v 11))) (da_cons (de_v 14) da_nil))) (da_cons (de_tup (da_cons (de_mul (de_v 9) (de_v 12)) (da_cons (de_v 15) da_nil))) da_nil)))))) (dg_tup (dgs_cons (dg_name (i := 17) sc__law_product.nd) (dgs_cons (dg_name (i := 18) sc__law_product.nd) dgs_nil))) (dss_one (ds_set (i := 16) sc__law_product.nd (de_n (dn_comp sc__law_product.nd (blkOk_by (own := [("k", 19)]) (N := ["cubic", "one", "other", "a", "b", "c", "d", "p", "q", "r", "x", "y", "z", "uu", "uv", "vv", "found", "many", "row", "k"]) (sc := defScope s__law_product) (by decide +kernel)) (di_rng1 z_range (da_cons de_int da_nil)) (fun _ _ _ _ _ => (dg_name (i := 19) sc__law_product.nd)) (fun _ _ _ _ _ => dts_nil) (fun _ _ _ _ _ => (de_add (de_ixP (dp_of (de_v 16)) (dp_of (de_v 19)) (fun _ _ => rfl)) (de_mul (de_v 17) (de_ixP (dp_of (de_v 18)) (dp_of (de_v 19)) (fun _ _ => rfl))))) (by decide) s)))))
  (dss_one (ds_ret (de_T b_tuple z_tuple (by decide +kernel) (dap_cons (dp_of (de_v 16)) dap_nil))))))))))))⟩
theorem sc__law_element : FnScope ["state", "k"] ["state"] (defScope s__law_element) := ⟨rfl, rfl, rfl, by decide +kernel, rfl, by decide +kernel, by decide +kernel⟩
theorem ok__law_element {f : Addr} {fd : FuncData} (c__law_draw : Cal P w K mg base 1 "_law_draw" ["state", "limit"] m__law_draw)
    (z_range : mg "range" = none)
    (z_tuple : mg "tuple" = none)
    (F : Fun K "_law_element" "_law_element" s__law_element f fd) (hm : mg "_law_element" = some (.ref f)) (hb : Binds K fd ["state"] []) : Cal P w K mg base 2 "_law_element" ["state"] m__law_element := by
  refine cal_ok F hm hb sc__law_element fun cdv A outer s H E hr => ?_
  exact ⟨_, (dss_one (ds_ret (de_T b_tuple z_tuple (by decide +kernel) (dap_cons (dp_of (de_n (dn_comp sc__law_element.nd (blkOk_by (own := [("k", 1)]) (N := ["state", "k"]) (sc := defScope s__law_element) (by decide +kernel)) (di_rng1 z_range (da_cons de_int da_nil)) (fun _ _ _ _ _ => (dg_name (i := 1) sc__law_element.nd)) (fun _ _ _ _ _ => dts_nil) (fun _ _ _ _ _ => (de_sub (de_call (c__law_draw.mono (by decide)) hr takes0 (da_cons (de_v 0) (da_cons de_int da_nil))) de_int)) (by decide) s))) dap_nil))))⟩
theorem sc__law_determinant : FnScope ["rows", "a", "b", "c", "d", "e", "f", "g", "h", "i"] ["rows"] (defScope s__law_determinant) := ⟨rfl, rfl, rfl, by decide +kernel, rfl, by decide +kernel, by decide +kernel⟩
theorem ok__law_determinant {f : Addr} {fd : FuncData} 
    (F : Fun K "_law_determinant" "_law_determinant" s__law_determinant f fd) (hm : mg "_law_determinant" = some (.ref f)) (hb : Binds K fd ["rows"] []) : Cal P w K mg base 1 "_law_determinant" ["rows"] m__law_determinant := by
  refine cal_ok F hm hb sc__law_determinant fun cdv A outer s H E hr => ?_
  exact ⟨_, (dss_cons (ds_asg (de_v 0) (dg_tup (dgs_cons (dg_tup (dgs_cons (dg_name (i := 1) sc__law_determinant.nd) (dgs_cons (dg_name (i := 2) sc__law_determinant.nd) (dgs_cons (dg_name (i := 3) sc__law_determinant.nd) dgs_nil)))) (dgs_cons (dg_tup (dgs_cons (dg_name (i := 4) sc__law_determinant.nd) (dgs_cons (dg_name (i := 5) sc__law_determinant.nd) (dgs_cons (dg_name (i := 6) sc__law_determinant.nd) dgs_nil)))) (dgs_cons (dg_tup (dgs_cons (dg_name (i := 7) sc__law_determinant.nd) (dgs_cons (dg_name (i := 8) sc__law_determinant.nd) (dgs_cons (dg_name (i := 9) sc__law_determinant.nd) dgs_nil)))) dgs_nil)))))
  (dss_one (ds_ret (de_add (de_sub (de_mul (de_v 1) (de_sub (de_mul (de_v 5) (de_v 9)) (de_mul (de_v 6) (de_v 8)))) (de_mul (de_v 2) (de_sub (de_mul (de_v 4) (de_v 9)) (de_mul (de_v 6) (de_v 7))))) (de_mul (de_v 3) (de_sub (de_mul (de_v 4) (de_v 8)) (de_mul (de_v 5) (de_v 7))))))))⟩
theorem sc__law_counts : FnScope ["cubic", "prime", "found", "x", "y", "a", "b", "c", "d", "count"] ["cubic", "prime"] (defScope s__law_counts) := ⟨rfl, rfl, rfl, by decide +kernel, rfl, by decide +kernel, by decide +kernel⟩
theorem ok__law_counts {f : Addr} {fd : FuncData} (c__law_cubic_turned : Cal P w K mg base 1 "_law_cubic_turned" ["cubic", "one"] m__law_cubic_turned)
    (c__law_cubic_value : Cal P w K mg base 1 "_law_cubic_value" ["cubic", "x", "y"] m__law_cubic_value)
    (z_int : mg "int" = none)
    (z_range : mg "range" = none)
    (z_sorted : mg "sorted" = none)
    (F : Fun K "_law_counts" "_law_counts" s__law_counts f fd) (hm : mg "_law_counts" = some (.ref f)) (hb : Binds K fd ["cubic", "prime"] []) : Cal P w K mg base 2 "_law_counts" ["cubic", "prime"] m__law_counts := by
  refine cal_ok F hm hb sc__law_counts fun cdv A outer s H E hr => ?_
  exact ⟨_, (dss_cons (ds_new (i := 2) sc__law_counts.nd (dn_lst da_nil))
  (dss_cons (ds_for (passes_of rfl) (di_any (de_n (dn_B n_sortP z_sorted (by decide +kernel) (dap_cons (dp_of (de_add (de_n (dn_comp sc__law_counts.nd (blkOk_by (own := [("x", 3)]) (N := ["cubic", "prime", "found", "x", "y", "a", "b", "c", "d", "count"]) (sc := defScope s__law_counts) (by decide +kernel)) (di_rng1 z_range (da_cons (de_v 1) da_nil)) (fun _ _ _ _ _ => (dg_name (i := 3) sc__law_counts.nd)) (fun _ _ _ _ _ => dts_nil) (fun _ _ _ _ _ => (de_tup (da_cons (de_v 3) (da_cons de_int da_nil)))) (by decide) s)) (de_n (dn_lst (da_cons (de_tup (da_cons de_int (da_cons de_int da_nil))) da_nil))))) dap_nil)))) (dg_tup (dgs_cons (dg_name (i := 3) sc__law_counts.nd) (dgs_cons (dg_name (i := 4) sc__law_counts.nd) dgs_nil))) (dss_one (ds_if (dt_cmp (c_eq hr) (de_mod (de_T b_int z_int (by decide +kernel) (dap_cons (dp_of (de_call (c__law_cubic_value.mono (by decide)) hr (takes_of rfl rfl rfl rfl) (da_cons (de_v 0) (da_cons (de_v 3) (da_cons (de_v 4) da_nil))))) dap_nil)) (de_v 1)) de_int (nomark _)) (dss_cons (ds_asg (de_call (c__law_cubic_turned.mono (by decide)) hr (takes_of rfl rfl rfl rfl) (da_cons (de_v 0) (da_cons (de_ixP (dp_of (de_n (dn_lst (da_cons (de_tup (da_cons de_int (da_cons de_int (da_cons de_int (da_cons de_int da_nil))))) (da_cons (de_tup (da_cons (de_v 3) (da_cons (de_neg de_int) (da_cons de_int (da_cons de_int da_nil))))) da_nil))))) (dp_of (de_v 4)) (fun _ _ => rfl)) da_nil))) (dg_tup (dgs_cons (dg_name (i := 5) sc__law_counts.nd) (dgs_cons (dg_name (i := 6) sc__law_counts.nd) (dgs_cons (dg_name (i := 7) sc__law_counts.nd) (dgs_cons (dg_name (i := 8) sc__law_counts.nd) dgs_nil))))))
  (dss_cons (ds_set (i := 9) sc__law_counts.nd de_int)
  (dss_cons (ds_if (dt_cmp (c_eq hr) (de_mod (de_T b_int z_int (by decide +kernel) (dap_cons (dp_of (de_v 6)) dap_nil)) (de_v 1)) de_int (nomark _)) (dss_one (ds_set (i := 9) sc__law_counts.nd (de_add de_int (de_T b_int z_int (by decide +kernel) (dap_cons (dp_of (de_cmp (c_eq hr) (de_mod (de_T b_int z_int (by decide +kernel) (dap_cons (dp_of (de_v 7)) dap_nil)) (de_v 1)) de_int (nomark _))) dap_nil))))) dss_nil)
  (dss_one (ds_app 2 (de_n (dn_lst (da_cons (de_tup (da_cons (de_v 3) (da_cons (de_v 4) da_nil))) (da_cons (de_v 9) (da_cons (de_and (de_cmp (c_eq hr) (de_mod (de_T b_int z_int (by decide +kernel) (dap_cons (dp_of (de_v 6)) dap_nil)) (de_v 1)) de_int (nomark _)) (de_one (de_cmp (c_eq hr) (de_mod (de_T b_int z_int (by decide +kernel) (dap_cons (dp_of (de_v 5)) dap_nil)) (de_mul (de_v 1) (de_v 1))) de_int (nomark _)))) da_nil)))))))))) dss_nil)))
  (dss_frz 2 (dss_one (ds_ret (de_v 2))))))⟩
theorem sc__law_word : FnScope ["counts", "words", "count"] ["counts"] (defScope s__law_word) := ⟨rfl, rfl, rfl, by decide +kernel, rfl, by decide +kernel, by decide +kernel⟩
theorem ok__law_word {f : Addr} {fd : FuncData} (z_sorted : mg "sorted" = none)
    (z_str : mg "str" = none)
    (F : Fun K "_law_word" "_law_word" s__law_word f fd) (hm : mg "_law_word" = some (.ref f)) (hb : Binds K fd ["counts"] []) : Cal P w K mg base 1 "_law_word" ["counts"] m__law_word := by
  refine cal_ok F hm hb sc__law_word fun cdv A outer s H E hr => ?_
  exact ⟨_, (dss_words hr (i := 1) (kvs := [("1-1-1", "1 1 1"), ("1", "1 2"), ("", "3"), ("1-2", "1 1^2"), ("3", "1^3")]) sc__law_word.nd (pps_cons pe_str pe_str (pps_cons pe_str pe_str (pps_cons pe_str pe_str (pps_cons pe_str pe_str (pps_cons pe_str pe_str pps_nil))))) (de_join de_str (de_n (dn_comp sc__law_word.nd (blkOk_by (own := [("count", 2)]) (N := ["counts", "words", "count"]) (sc := defScope s__law_word) (by decide +kernel)) (di_any (de_n (dn_B n_sortI z_sorted (by decide +kernel) (dap_cons (dp_of (de_v 0)) dap_nil)))) (fun _ _ _ _ _ => (dg_name (i := 2) sc__law_word.nd)) (fun _ _ _ _ _ => dts_nil) (fun _ _ _ _ _ => (de_T b_str z_str (by decide +kernel) (dap_cons (dp_of (de_v 2)) dap_nil))) (by decide) s))))⟩
theorem sc__law_refused : FnScope ["cubic", "prime"] ["cubic", "prime"] (defScope s__law_refused) := ⟨rfl, rfl, rfl, by decide +kernel, rfl, by decide +kernel, by decide +kernel⟩
theorem ok__law_refused {f : Addr} {fd : FuncData} (c_roots_modulo_prime : Cal P w K mg base 3 "roots_modulo_prime" ["cubic", "prime"] m_roots_modulo_prime)
    {CTooLarge : Addr} (x_TooLarge : ErrC K mg "TooLarge" CTooLarge)
    {CNotPossible : Addr} (x_NotPossible : ErrC K mg "NotPossible" CNotPossible)
    (xx : ErrT K mg known)
    (F : Fun K "_law_refused" "_law_refused" s__law_refused f fd) (hm : mg "_law_refused" = some (.ref f)) (hb : Binds K fd ["cubic", "prime"] []) : Cal P w K mg base 4 "_law_refused" ["cubic", "prime"] m__law_refused := by
  refine cal_ok F hm hb sc__law_refused fun cdv A outer s H E hr => ?_
  exact ⟨_, (dss_one (ds_try (takes_of rfl rfl rfl rfl) (fun W pn xe tk hp => (dss_cons (ds_expr (de_call (c_roots_modulo_prime.mono (by decide)) hr tk (da_cons (de_v 0) (da_cons (de_v 1) da_nil))))
  (dss_one (ds_ret de_str)))) (HdD.cons (by rfl) (by decide) x_NotPossible.gC (exc_of xx x_NotPossible.gC (by decide)) (fun _ _ _ => (dss_one (ds_ret de_str))) (HdD.cons (by rfl) (by decide) x_TooLarge.gC (exc_of xx x_TooLarge.gC (by decide)) (fun _ _ _ => (dss_one (ds_ret de_str))) HdD.nil))))⟩
theorem sc__law_places_hold : FnScope ["cubic", "prime", "zero", "part", "rows", "row", "root", "count", "small"] ["cubic", "prime"] (defScope s__law_places_hold) := ⟨rfl, rfl, rfl, by decide +kernel, rfl, by decide +kernel, by decide +kernel⟩
theorem ok__law_places_hold {f : Addr} {fd : FuncData} (c_roots_modulo_prime : Cal P w K mg base 3 "roots_modulo_prime" ["cubic", "prime"] m_roots_modulo_prime)
    (c_root_count : Cal P w K mg base 3 "root_count" ["cubic", "root", "prime"] m_root_count)
    (c_splitting_of : Cal P w K mg base 4 "splitting_of" ["cubic", "prime"] m_splitting_of)
    (c_is_largest_at : Cal P w K mg base 4 "is_largest_at" ["cubic", "prime"] m_is_largest_at)
    (c__law_truth : Cal P w K mg base 1 "_law_truth" ["told", "due"] m__law_truth)
    (c__law_counts : Cal P w K mg base 2 "_law_counts" ["cubic", "prime"] m__law_counts)
    (c__law_word : Cal P w K mg base 1 "_law_word" ["counts"] m__law_word)
    (z_int : mg "int" = none)
    (z_len : mg "len" = none)
    (F : Fun K "_law_places_hold" "_law_places_hold" s__law_places_hold f fd) (hm : mg "_law_places_hold" = some (.ref f)) (hb : Binds K fd ["cubic", "prime"] []) : Cal P w K mg base 5 "_law_places_hold" ["cubic", "prime"] m__law_places_hold := by
  refine cal_ok F hm hb sc__law_places_hold fun cdv A outer s H E hr => ?_
  exact ⟨_, (dss_cons (ds_set (i := 2) sc__law_places_hold.nd (de_cmp (c_eq hr) (de_B b_len z_len (by decide +kernel) (dap_cons (dp_of (de_n (dn_comp sc__law_places_hold.nd (blkOk_by (own := [("part", 3)]) (N := ["cubic", "prime", "zero", "part", "rows", "row", "root", "count", "small"]) (sc := defScope s__law_places_hold) (by decide +kernel)) (di_any (de_v 0)) (fun _ _ _ _ _ => (dg_name (i := 3) sc__law_places_hold.nd)) (fun _ _ _ _ _ => (dts_one (dt_cmp (c_ne hr) (de_mod (de_T b_int z_int (by decide +kernel) (dap_cons (dp_of (de_v 3)) dap_nil)) (de_v 1)) de_int (nomark _)))) (fun _ _ _ _ _ => (de_v 3)) (by decide) s))) dap_nil)) de_int (nomark _)))
  (dss_cons (ds_set (i := 4) sc__law_places_hold.nd (de_call (c__law_counts.mono (by decide)) hr (takes_of rfl rfl rfl rfl) (da_cons (de_v 0) (da_cons (de_v 1) da_nil))))
  (dss_cons (ds_if (dt_cmp (c_ne hr) (de_call (c_roots_modulo_prime.mono (by decide)) hr (takes_of rfl rfl rfl rfl) (da_cons (de_v 0) (da_cons (de_v 1) da_nil))) (de_n (dn_comp sc__law_places_hold.nd (blkOk_by (own := [("row", 5)]) (N := ["cubic", "prime", "zero", "part", "rows", "row", "root", "count", "small"]) (sc := defScope s__law_places_hold) (by decide +kernel)) (di_any (de_v 4)) (fun _ _ _ _ _ => (dg_name (i := 5) sc__law_places_hold.nd)) (fun _ _ _ _ _ => dts_nil) (fun _ _ _ _ _ => (de_ixP (dp_of (de_v 5)) (dp_of de_int) (fun _ _ => rfl))) (by decide) s)) (nomark _)) (dss_one (ds_ret de_bl)) dss_nil)
  (dss_cons (ds_if (dt_val (de_v 2)) (dss_one (ds_ret (de_and (de_cmp (c_eq hr) (de_call (c_splitting_of.mono (by decide)) hr (takes_of rfl rfl rfl rfl) (da_cons (de_v 0) (da_cons (de_v 1) da_nil))) de_str (nomark _)) (de_one (de_cmp c_is (de_call (c_is_largest_at.mono (by decide)) hr (takes_of rfl rfl rfl rfl) (da_cons (de_v 0) (da_cons (de_v 1) da_nil))) de_bl (nomark _)))))) dss_nil)
  (dss_cons (ds_for (passes_of rfl) (di_any (de_v 4)) (dg_tup (dgs_cons (dg_name (i := 6) sc__law_places_hold.nd) (dgs_cons (dg_name (i := 7) sc__law_places_hold.nd) (dgs_cons (dg_name (i := 8) sc__law_places_hold.nd) dgs_nil)))) (dss_one (ds_if (dt_cmp (c_ne hr) (de_call (c_root_count.mono (by decide)) hr (takes_of rfl rfl rfl rfl) (da_cons (de_v 0) (da_cons (de_v 6) (da_cons (de_v 1) da_nil)))) (de_v 7) (nomark _)) (dss_one (ds_ret de_bl)) dss_nil)))
  (dss_cons (ds_if (dt_cmp (c_ne hr) (de_call (c_splitting_of.mono (by decide)) hr (takes_of rfl rfl rfl rfl) (da_cons (de_v 0) (da_cons (de_v 1) da_nil))) (de_call (c__law_word.mono (by decide)) hr (takes_of rfl rfl rfl rfl) (da_cons (de_n (dn_comp sc__law_places_hold.nd (blkOk_by (own := [("row", 5)]) (N := ["cubic", "prime", "zero", "part", "rows", "row", "root", "count", "small"]) (sc := defScope s__law_places_hold) (by decide +kernel)) (di_any (de_v 4)) (fun _ _ _ _ _ => (dg_name (i := 5) sc__law_places_hold.nd)) (fun _ _ _ _ _ => dts_nil) (fun _ _ _ _ _ => (de_ixP (dp_of (de_v 5)) (dp_of de_int) (fun _ _ => rfl))) (by decide) s)) da_nil)) (nomark _)) (dss_one (ds_ret de_bl)) dss_nil)
  (dss_one (ds_ret (de_call (c__law_truth.mono (by decide)) hr (takes_of rfl rfl rfl rfl) (da_cons (de_call (c_is_largest_at.mono (by decide)) hr (takes_of rfl rfl rfl rfl) (da_cons (de_v 0) (da_cons (de_v 1) da_nil))) (da_cons (de_cmp (c_eq hr) (de_B b_len z_len (by decide +kernel) (dap_cons (dp_of (de_n (dn_comp sc__law_places_hold.nd (blkOk_by (own := [("row", 5)]) (N := ["cubic", "prime", "zero", "part", "rows", "row", "root", "count", "small"]) (sc := defScope s__law_places_hold) (by decide +kernel)) (di_any (de_v 4)) (fun _ _ _ _ _ => (dg_name (i := 5) sc__law_places_hold.nd)) (fun _ _ _ _ _ => (dts_one (dt_val (de_ixP (dp_of (de_v 5)) (dp_of de_int) (fun _ _ => rfl))))) (fun _ _ _ _ _ => (de_v 5)) (by decide) s))) dap_nil)) de_int (nomark _)) da_nil)))))))))))⟩
theorem sc_law : FnScope ["script", "state", "cubic", "one", "other", "third", "whole", "total", "k", "units", "rows", "unit", "trace", "second", "norm", "square", "cube", "size", "table", "j", "prime", "a", "b", "c", "d", "small", "kind"] ["script"] (defScope s_law) := ⟨rfl, rfl, rfl, by decide +kernel, rfl, by decide +kernel, by decide +kernel⟩
theorem ok_law {f : Addr} {fd : FuncData} (c_cubic_product : Cal P w K mg base 1 "cubic_product" ["cubic", "one", "other"] m_cubic_product)
    (c_cubic_sum : Cal P w K mg base 1 "cubic_sum" ["one", "other"] m_cubic_sum)
    (c_cubic_matrix : Cal P w K mg base 2 "cubic_matrix" ["cubic", "one"] m_cubic_matrix)
    (c_cubic_trace : Cal P w K mg base 3 "cubic_trace" ["cubic", "one"] m_cubic_trace)
    (c_cubic_norm : Cal P w K mg base 3 "cubic_norm" ["cubic", "one"] m_cubic_norm)
    (c_cubic_second : Cal P w K mg base 3 "cubic_second" ["cubic", "one"] m_cubic_second)
    (c_fits_equation : Cal P w K mg base 4 "fits_equation" ["cubic", "one"] m_fits_equation)
    (c_trace_table : Cal P w K mg base 4 "trace_table" ["cubic"] m_trace_table)
    (c_trace_discriminant : Cal P w K mg base 5 "trace_discriminant" ["cubic"] m_trace_discriminant)
    (c_index_of : Cal P w K mg base 2 "index_of" ["cubic", "one"] m_index_of)
    (c_splitting_of : Cal P w K mg base 4 "splitting_of" ["cubic", "prime"] m_splitting_of)
    (c_is_largest_at : Cal P w K mg base 4 "is_largest_at" ["cubic", "prime"] m_is_largest_at)
    (c__law_draw : Cal P w K mg base 1 "_law_draw" ["state", "limit"] m__law_draw)
    (c__law_matrix : Cal P w K mg base 2 "_law_matrix" ["state", "most", "size"] m__law_matrix)
    (c__law_cubic_turned : Cal P w K mg base 1 "_law_cubic_turned" ["cubic", "one"] m__law_cubic_turned)
    (c__law_cubic_size : Cal P w K mg base 1 "_law_cubic_size" ["cubic"] m__law_cubic_size)
    (c__law_cubic_value : Cal P w K mg base 1 "_law_cubic_value" ["cubic", "x", "y"] m__law_cubic_value)
    (c__law_cubic : Cal P w K mg base 2 "_law_cubic" ["state", "most"] m__law_cubic)
    (c__law_product : Cal P w K mg base 1 "_law_product" ["cubic", "one", "other"] m__law_product)
    (c__law_element : Cal P w K mg base 2 "_law_element" ["state"] m__law_element)
    (c__law_determinant : Cal P w K mg base 1 "_law_determinant" ["rows"] m__law_determinant)
    (c__law_refused : Cal P w K mg base 4 "_law_refused" ["cubic", "prime"] m__law_refused)
    (c__law_places_hold : Cal P w K mg base 5 "_law_places_hold" ["cubic", "prime"] m__law_places_hold)
    (z_int : mg "int" = none)
    (z_range : mg "range" = none)
    (z_tuple : mg "tuple" = none)
    {fS : Addr} {fdS : FuncData}
    (FS : FnOk P w K mg base (L2.CX P w) 1 fS fdS ["script"] (spState K))
    (gS : mg "_law_state" = some (.ref fS))
    (kS : PySem.W.keepIn K (.ref fS) = true)
    (bS : Binds K fdS ["script"] [])
    (F : Fun K "law" "law" s_law f fd) (hl : ∀ ns : List Int, ns.length ≤ 63 → ∃ st', g_law ((List.replicate 27 none).set 1 (some (.v STT))) ⟨ns, 0, 0, 0, false⟩ = .ok (.rt (.bool true)) st') :
    FnOk P w K mg base (L2.CX P w) 6 f fd ["script"] (spLaw K 63) := by
  refine F.okX sc_law (fun vs H Q E h => by obtain ⟨a, ns, rfl, _⟩ := h; rfl) (fun cdv A outer s H vs Q E hr h => ?_)
  have d : ∃ t, DSs (cxOf (L2.CX P w) P w K mg base ["script", "state", "cubic", "one", "other", "third", "whole", "total", "k", "units", "rows", "unit", "trace", "second", "norm", "square", "cube", "size", "table", "j", "prime", "a", "b", "c", "d", "small", "kind"] "law" (defScope s_law) f cdv A outer s H E) K mg (fun c d _ H' => E c d H') ((defBody s_law).drop 1) t g_law := by
    exact ⟨_, (dss_cons (ds_set (i := 2) sc_law.nd (de_call (c__law_cubic_turned.mono (by decide)) hr (takes_of rfl rfl rfl rfl) (da_cons (de_call (c__law_cubic.mono (by decide)) hr (takes_of rfl rfl rfl rfl) (da_cons (de_v 1) (da_cons de_int da_nil))) (da_cons (de_call (c__law_matrix.mono (by decide)) hr (takes_of rfl rfl rfl rfl) (da_cons (de_v 1) (da_cons de_int (da_cons de_int da_nil)))) da_nil))))
  (dss_cons (ds_set (i := 3) sc_law.nd (de_call (c__law_element.mono (by decide)) hr (takes_of rfl rfl rfl rfl) (da_cons (de_v 1) da_nil)))
  (dss_cons (ds_set (i := 4) sc_law.nd (de_call (c__law_element.mono (by decide)) hr (takes_of rfl rfl rfl rfl) (da_cons (de_v 1) da_nil)))
  (dss_cons (ds_set (i := 5) sc_law.nd (de_call (c__law_element.mono (by decide)) hr (takes_of rfl rfl rfl rfl) (da_cons (de_v 1) da_nil)))
  (dss_cons (ds_set (i := 6) sc_law.nd (de_call (c__law_product.mono (by decide)) hr (takes_of rfl rfl rfl rfl) (da_cons (de_v 2) (da_cons (de_v 3) (da_cons (de_v 4) da_nil)))))
  (dss_cons (ds_if (DW.dt (dw_or (dt_cmp (c_ne hr) (de_call (c_cubic_product.mono (by decide)) hr (takes_of rfl rfl rfl rfl) (da_cons (de_v 2) (da_cons (de_v 3) (da_cons (de_v 4) da_nil)))) (de_v 6) (nomark _)) (dw_or (dt_cmp (c_ne hr) (de_call (c_cubic_product.mono (by decide)) hr (takes_of rfl rfl rfl rfl) (da_cons (de_v 2) (da_cons (de_v 4) (da_cons (de_v 3) da_nil)))) (de_v 6) (nomark _)) (dw_or1 (dt_cmp (c_ne hr) (de_call (c_cubic_product.mono (by decide)) hr (takes_of rfl rfl rfl rfl) (da_cons (de_v 2) (da_cons (de_v 6) (da_cons (de_v 5) da_nil)))) (de_call (c_cubic_product.mono (by decide)) hr (takes_of rfl rfl rfl rfl) (da_cons (de_v 2) (da_cons (de_v 3) (da_cons (de_call (c_cubic_product.mono (by decide)) hr (takes_of rfl rfl rfl rfl) (da_cons (de_v 2) (da_cons (de_v 4) (da_cons (de_v 5) da_nil)))) da_nil)))) (nomark _)))))) (dss_one (ds_ret de_bl)) dss_nil)
  (dss_cons (ds_set (i := 7) sc_law.nd (de_T b_tuple z_tuple (by decide +kernel) (dap_cons (dp_of (de_n (dn_comp sc_law.nd (blkOk_by (own := [("k", 8)]) (N := ["script", "state", "cubic", "one", "other", "third", "whole", "total", "k", "units", "rows", "unit", "trace", "second", "norm", "square", "cube", "size", "table", "j", "prime", "a", "b", "c", "d", "small", "kind"]) (sc := defScope s_law) (by decide +kernel)) (di_rng1 z_range (da_cons de_int da_nil)) (fun _ _ _ _ _ => (dg_name (i := 8) sc_law.nd)) (fun _ _ _ _ _ => dts_nil) (fun _ _ _ _ _ => (de_add (de_ixP (dp_of (de_v 3)) (dp_of (de_v 8)) (fun _ _ => rfl)) (de_ixP (dp_of (de_v 4)) (dp_of (de_v 8)) (fun _ _ => rfl)))) (by decide) s))) dap_nil)))
  (dss_cons (ds_if (DW.dt (dw_or (dt_cmp (c_ne hr) (de_call (c_cubic_sum.mono (by decide)) hr (takes_of rfl rfl rfl rfl) (da_cons (de_v 3) (da_cons (de_v 4) da_nil))) (de_v 7) (nomark _)) (dw_or1 (dt_cmp (c_ne hr) (de_call (c_cubic_product.mono (by decide)) hr (takes_of rfl rfl rfl rfl) (da_cons (de_v 2) (da_cons (de_v 7) (da_cons (de_v 5) da_nil)))) (de_call (c_cubic_sum.mono (by decide)) hr (takes_of rfl rfl rfl rfl) (da_cons (de_call (c_cubic_product.mono (by decide)) hr (takes_of rfl rfl rfl rfl) (da_cons (de_v 2) (da_cons (de_v 3) (da_cons (de_v 5) da_nil)))) (da_cons (de_call (c_cubic_product.mono (by decide)) hr (takes_of rfl rfl rfl rfl) (da_cons (de_v 2) (da_cons (de_v 4) (da_cons (de_v 5) da_nil)))) da_nil))) (nomark _))))) (dss_one (ds_ret de_bl)) dss_nil)
  (dss_cons (ds_set (i := 9) sc_law.nd (de_n (dn_lst (da_cons (de_tup (da_cons de_int (da_cons de_int (da_cons de_int da_nil)))) (da_cons (de_tup (da_cons de_int (da_cons de_int (da_cons de_int da_nil)))) (da_cons (de_tup (da_cons de_int (da_cons de_int (da_cons de_int da_nil)))) da_nil))))))
  (dss_cons (ds_set (i := 10) sc_law.nd (de_T b_tuple z_tuple (by decide +kernel) (dap_cons (dp_of (de_n (dn_comp sc_law.nd (blkOk_by (own := [("unit", 11)]) (N := ["script", "state", "cubic", "one", "other", "third", "whole", "total", "k", "units", "rows", "unit", "trace", "second", "norm", "square", "cube", "size", "table", "j", "prime", "a", "b", "c", "d", "small", "kind"]) (sc := defScope s_law) (by decide +kernel)) (di_any (de_v 9)) (fun _ _ _ _ _ => (dg_name (i := 11) sc_law.nd)) (fun _ _ _ _ _ => dts_nil) (fun _ _ _ _ _ => (de_call (c__law_product.mono (by decide)) hr takes0 (da_cons (de_v 2) (da_cons (de_v 3) (da_cons (de_v 11) da_nil))))) (by decide) s))) dap_nil)))
  (dss_cons (ds_set (i := 12) sc_law.nd (de_add (de_add (de_ixP (dp_of (de_ixP (dp_of (de_v 10)) (dp_of de_int) (fun _ _ => rfl))) (dp_of de_int) (fun _ _ => rfl)) (de_ixP (dp_of (de_ixP (dp_of (de_v 10)) (dp_of de_int) (fun _ _ => rfl))) (dp_of de_int) (fun _ _ => rfl))) (de_ixP (dp_of (de_ixP (dp_of (de_v 10)) (dp_of de_int) (fun _ _ => rfl))) (dp_of de_int) (fun _ _ => rfl))))
  (dss_cons (ds_set (i := 13) sc_law.nd (de_sub (de_add (de_sub (de_add (de_sub (de_mul (de_ixP (dp_of (de_ixP (dp_of (de_v 10)) (dp_of de_int) (fun _ _ => rfl))) (dp_of de_int) (fun _ _ => rfl)) (de_ixP (dp_of (de_ixP (dp_of (de_v 10)) (dp_of de_int) (fun _ _ => rfl))) (dp_of de_int) (fun _ _ => rfl))) (de_mul (de_ixP (dp_of (de_ixP (dp_of (de_v 10)) (dp_of de_int) (fun _ _ => rfl))) (dp_of de_int) (fun _ _ => rfl)) (de_ixP (dp_of (de_ixP (dp_of (de_v 10)) (dp_of de_int) (fun _ _ => rfl))) (dp_of de_int) (fun _ _ => rfl)))) (de_mul (de_ixP (dp_of (de_ixP (dp_of (de_v 10)) (dp_of de_int) (fun _ _ => rfl))) (dp_of de_int) (fun _ _ => rfl)) (de_ixP (dp_of (de_ixP (dp_of (de_v 10)) (dp_of de_int) (fun _ _ => rfl))) (dp_of de_int) (fun _ _ => rfl)))) (de_mul (de_ixP (dp_of (de_ixP (dp_of (de_v 10)) (dp_of de_int) (fun _ _ => rfl))) (dp_of de_int) (fun _ _ => rfl)) (de_ixP (dp_of (de_ixP (dp_of (de_v 10)) (dp_of de_int) (fun _ _ => rfl))) (dp_of de_int) (fun _ _ => rfl)))) (de_mul (de_ixP (dp_of (de_ixP (dp_of (de_v 10)) (dp_of de_int) (fun _ _ => rfl))) (dp_of de_int) (fun _ _ => rfl)) (de_ixP (dp_of (de_ixP (dp_of (de_v 10)) (dp_of de_int) (fun _ _ => rfl))) (dp_of de_int) (fun _ _ => rfl)))) (de_mul (de_ixP (dp_of (de_ixP (dp_of (de_v 10)) (dp_of de_int) (fun _ _ => rfl))) (dp_of de_int) (fun _ _ => rfl)) (de_ixP (dp_of (de_ixP (dp_of (de_v 10)) (dp_of de_int) (fun _ _ => rfl))) (dp_of de_int) (fun _ _ => rfl)))))
  (dss_cons (ds_set (i := 14) sc_law.nd (de_call (c__law_determinant.mono (by decide)) hr (takes_of rfl rfl rfl rfl) (da_cons (de_v 10) da_nil)))
  (dss_cons (ds_if (DW.dt (dw_or (dt_cmp (c_ne hr) (de_call (c_cubic_matrix.mono (by decide)) hr (takes_of rfl rfl rfl rfl) (da_cons (de_v 2) (da_cons (de_v 3) da_nil))) (de_v 10) (nomark _)) (dw_or (dt_cmp (c_ne hr) (de_call (c_cubic_trace.mono (by decide)) hr (takes_of rfl rfl rfl rfl) (da_cons (de_v 2) (da_cons (de_v 3) da_nil))) (de_v 12) (nomark _)) (dw_or (dt_cmp (c_ne hr) (de_call (c_cubic_second.mono (by decide)) hr (takes_of rfl rfl rfl rfl) (da_cons (de_v 2) (da_cons (de_v 3) da_nil))) (de_v 13) (nomark _)) (dw_or1 (dt_cmp (c_ne hr) (de_call (c_cubic_norm.mono (by decide)) hr (takes_of rfl rfl rfl rfl) (da_cons (de_v 2) (da_cons (de_v 3) da_nil))) (de_v 14) (nomark _))))))) (dss_one (ds_ret de_bl)) dss_nil)
  (dss_cons (ds_set (i := 15) sc_law.nd (de_call (c__law_product.mono (by decide)) hr (takes_of rfl rfl rfl rfl) (da_cons (de_v 2) (da_cons (de_v 3) (da_cons (de_v 3) da_nil)))))
  (dss_cons (ds_set (i := 16) sc_law.nd (de_call (c__law_product.mono (by decide)) hr (takes_of rfl rfl rfl rfl) (da_cons (de_v 2) (da_cons (de_v 15) (da_cons (de_v 3) da_nil)))))
  (dss_cons (ds_if (DW.dt (dw_or (dt_cmp (c_ne hr) (de_T b_tuple z_tuple (by decide +kernel) (dap_cons (dp_of (de_n (dn_comp sc_law.nd (blkOk_by (own := [("k", 8)]) (N := ["script", "state", "cubic", "one", "other", "third", "whole", "total", "k", "units", "rows", "unit", "trace", "second", "norm", "square", "cube", "size", "table", "j", "prime", "a", "b", "c", "d", "small", "kind"]) (sc := defScope s_law) (by decide +kernel)) (di_rng1 z_range (da_cons de_int da_nil)) (fun _ _ _ _ _ => (dg_name (i := 8) sc_law.nd)) (fun _ _ _ _ _ => dts_nil) (fun _ _ _ _ _ => (de_add (de_sub (de_ixP (dp_of (de_v 16)) (dp_of (de_v 8)) (fun _ _ => rfl)) (de_mul (de_v 12) (de_ixP (dp_of (de_v 15)) (dp_of (de_v 8)) (fun _ _ => rfl)))) (de_mul (de_v 13) (de_ixP (dp_of (de_v 3)) (dp_of (de_v 8)) (fun _ _ => rfl))))) (by decide) s))) dap_nil)) (de_tup (da_cons (de_v 14) (da_cons de_int (da_cons de_int da_nil)))) (nomark _)) (dw_or1 (dt_cmp c_isNt (de_call (c_fits_equation.mono (by decide)) hr (takes_of rfl rfl rfl rfl) (da_cons (de_v 2) (da_cons (de_v 3) da_nil))) de_bl (nomark _))))) (dss_one (ds_ret de_bl)) dss_nil)
  (dss_cons (ds_if (DW.dt (dw_or (dt_cmp (c_ne hr) (de_call (c_cubic_norm.mono (by decide)) hr (takes_of rfl rfl rfl rfl) (da_cons (de_v 2) (da_cons (de_v 6) da_nil))) (de_mul (de_v 14) (de_call (c_cubic_norm.mono (by decide)) hr (takes_of rfl rfl rfl rfl) (da_cons (de_v 2) (da_cons (de_v 4) da_nil)))) (nomark _)) (dw_or1 (dt_cmp (c_ne hr) (de_call (c_cubic_trace.mono (by decide)) hr (takes_of rfl rfl rfl rfl) (da_cons (de_v 2) (da_cons (de_v 7) da_nil))) (de_add (de_v 12) (de_call (c_cubic_trace.mono (by decide)) hr (takes_of rfl rfl rfl rfl) (da_cons (de_v 2) (da_cons (de_v 4) da_nil)))) (nomark _))))) (dss_one (ds_ret de_bl)) dss_nil)
  (dss_cons (ds_set (i := 17) sc_law.nd (de_call (c__law_cubic_size.mono (by decide)) hr (takes_of rfl rfl rfl rfl) (da_cons (de_v 2) da_nil)))
  (dss_cons (ds_set (i := 18) sc_law.nd (de_call (c_trace_table.mono (by decide)) hr (takes_of rfl rfl rfl rfl) (da_cons (de_v 2) da_nil)))
  (dss_cons (ds_for (passes_of rfl) (di_rng1 z_range (da_cons de_int da_nil)) (dg_name (i := 8) sc_law.nd) (dss_one (ds_for (passes_of rfl) (di_rng1 z_range (da_cons de_int da_nil)) (dg_name (i := 19) sc_law.nd) (dss_one (ds_if (dt_cmp (c_ne hr) (de_ixP (dp_of (de_ixP (dp_of (de_v 18)) (dp_of (de_v 8)) (fun _ _ => rfl))) (dp_of (de_v 19)) (fun _ _ => rfl)) (de_call (c_cubic_trace.mono (by decide)) hr (takes_of rfl rfl rfl rfl) (da_cons (de_v 2) (da_cons (de_call (c__law_product.mono (by decide)) hr (takes_of rfl rfl rfl rfl) (da_cons (de_v 2) (da_cons (de_ixP (dp_of (de_v 9)) (dp_of (de_v 8)) (fun _ _ => rfl)) (da_cons (de_ixP (dp_of (de_v 9)) (dp_of (de_v 19)) (fun _ _ => rfl)) da_nil)))) da_nil))) (nomark _)) (dss_one (ds_ret de_bl)) dss_nil)))))
  (dss_cons (ds_if (DW.dt (dw_or (dt_cmp (c_ne hr) (de_call (c_trace_discriminant.mono (by decide)) hr (takes_of rfl rfl rfl rfl) (da_cons (de_v 2) da_nil)) (de_v 17) (nomark _)) (dw_or (dt_cmp (c_ne hr) (de_call (c__law_determinant.mono (by decide)) hr (takes_of rfl rfl rfl rfl) (da_cons (de_v 18) da_nil)) (de_v 17) (nomark _)) (dw_or1 (dt_cmp (c_ne hr) (de_call (c_index_of.mono (by decide)) hr (takes_of rfl rfl rfl rfl) (da_cons (de_v 2) (da_cons (de_v 3) da_nil))) (de_call (c__law_cubic_value.mono (by decide)) hr (takes_of rfl rfl rfl rfl) (da_cons (de_v 2) (da_cons (de_ixP (dp_of (de_v 3)) (dp_of de_int) (fun _ _ => rfl)) (da_cons (de_ixP (dp_of (de_v 3)) (dp_of de_int) (fun _ _ => rfl)) da_nil)))) (nomark _)))))) (dss_one (ds_ret de_bl)) dss_nil)
  (dss_cons (ds_if (dt_cmp (c_ne hr) (de_sub (de_mul (de_ixP (dp_of (de_v 3)) (dp_of de_int) (fun _ _ => rfl)) (de_ixP (dp_of (de_v 15)) (dp_of de_int) (fun _ _ => rfl))) (de_mul (de_ixP (dp_of (de_v 3)) (dp_of de_int) (fun _ _ => rfl)) (de_ixP (dp_of (de_v 15)) (dp_of de_int) (fun _ _ => rfl)))) (de_call (c_index_of.mono (by decide)) hr (takes_of rfl rfl rfl rfl) (da_cons (de_v 2) (da_cons (de_v 3) da_nil))) (nomark _)) (dss_one (ds_ret de_bl)) dss_nil)
  (dss_cons (ds_set (i := 20) sc_law.nd (de_ixP (dp_of (de_n (dn_lst (da_cons de_int (da_cons de_int (da_cons de_int (da_cons de_int (da_cons de_int (da_cons de_int (da_cons de_int (da_cons de_int da_nil))))))))))) (dp_of (de_call (c__law_draw.mono (by decide)) hr (takes_of rfl rfl rfl rfl) (da_cons (de_v 1) (da_cons de_int da_nil)))) (fun _ _ => rfl)))
  (dss_cons (ds_if (dt_not (dt_val (de_call (c__law_places_hold.mono (by decide)) hr (takes_of rfl rfl rfl rfl) (da_cons (de_v 2) (da_cons (de_v 20) da_nil))))) (dss_one (ds_ret de_bl)) dss_nil)
  (dss_cons (ds_asg (de_v 2) (dg_tup (dgs_cons (dg_name (i := 21) sc_law.nd) (dgs_cons (dg_name (i := 22) sc_law.nd) (dgs_cons (dg_name (i := 23) sc_law.nd) (dgs_cons (dg_name (i := 24) sc_law.nd) dgs_nil))))))
  (dss_cons (ds_set (i := 25) sc_law.nd (de_call (c__law_cubic_turned.mono (by decide)) hr (takes_of rfl rfl rfl rfl) (da_cons (de_tup (da_cons (de_mul (de_mul (de_v 20) (de_v 20)) (de_v 21)) (da_cons (de_mul (de_v 20) (de_v 22)) (da_cons (de_v 23) (da_cons (de_v 24) da_nil))))) (da_cons (de_call (c__law_matrix.mono (by decide)) hr (takes_of rfl rfl rfl rfl) (da_cons (de_v 1) (da_cons de_int (da_cons de_int da_nil)))) da_nil))))
  (dss_cons (ds_if (DW.dt (dw_or (dt_not (dt_val (de_call (c__law_places_hold.mono (by decide)) hr (takes_of rfl rfl rfl rfl) (da_cons (de_v 25) (da_cons (de_v 20) da_nil))))) (dw_or1 (dt_cmp c_isNt (de_call (c_is_largest_at.mono (by decide)) hr (takes_of rfl rfl rfl rfl) (da_cons (de_v 25) (da_cons (de_v 20) da_nil))) de_bl (nomark _))))) (dss_one (ds_ret de_bl)) dss_nil)
  (dss_cons (ds_set (i := 11) sc_law.nd (de_add de_int (de_call (c__law_draw.mono (by decide)) hr (takes_of rfl rfl rfl rfl) (da_cons (de_v 1) (da_cons (de_sub (de_v 20) de_int) da_nil)))))
  (dss_cons (ds_set (i := 26) sc_law.nd (de_call (c__law_cubic_turned.mono (by decide)) hr (takes_of rfl rfl rfl rfl) (da_cons (de_tup (da_cons de_int (da_cons (de_mul (de_v 20) (de_v 22)) (da_cons (de_mul (de_v 20) (de_v 23)) (da_cons (de_mul (de_v 20) (de_v 11)) da_nil))))) (da_cons (de_call (c__law_matrix.mono (by decide)) hr (takes_of rfl rfl rfl rfl) (da_cons (de_v 1) (da_cons de_int (da_cons de_int da_nil)))) da_nil))))
  (dss_cons (ds_if (DW.dt (dw_or (dt_cmp c_isNt (de_call (c_is_largest_at.mono (by decide)) hr (takes_of rfl rfl rfl rfl) (da_cons (de_v 26) (da_cons (de_v 20) da_nil))) de_bl (nomark _)) (dw_or (dt_cmp (c_ne hr) (de_call (c_splitting_of.mono (by decide)) hr (takes_of rfl rfl rfl rfl) (da_cons (de_v 26) (da_cons (de_v 20) da_nil))) de_str (nomark _)) (dw_or1 (dt_cmp (c_ne hr) (de_mod (de_T b_int z_int (by decide +kernel) (dap_cons (dp_of (de_call (c__law_cubic_size.mono (by decide)) hr (takes_of rfl rfl rfl rfl) (da_cons (de_v 26) da_nil))) dap_nil)) (de_mul (de_v 20) (de_v 20))) de_int (nomark _)))))) (dss_one (ds_ret de_bl)) dss_nil)
  (dss_one (ds_ret (de_and (de_cmp (c_eq hr) (de_call (c__law_refused.mono (by decide)) hr (takes_of rfl rfl rfl rfl) (da_cons (de_v 2) (da_cons de_int da_nil))) de_str (nomark _)) (de_and (de_cmp (c_eq hr) (de_call (c__law_refused.mono (by decide)) hr (takes_of rfl rfl rfl rfl) (da_cons (de_v 2) (da_cons de_int da_nil))) de_str (nomark _)) (de_and (de_cmp (c_eq hr) (de_call (c__law_refused.mono (by decide)) hr (takes_of rfl rfl rfl rfl) (da_cons (de_v 2) (da_cons de_int da_nil))) de_str (nomark _)) (de_one (de_cmp (c_eq hr) (de_call (c__law_refused.mono (by decide)) hr (takes_of rfl rfl rfl rfl) (da_cons (de_v 2) (da_cons (de_v 20) da_nil))) de_str (nomark _)))))))))))))))))))))))))))))))))))))))⟩
  obtain ⟨t, d⟩ := d
  exact ⟨_, pss_cons (ps_set (i := 1) sc_law.nd rfl (Or.inl rfl) (pe_callS FS (hr.mono (by decide)) rfl gS kS bS (fun σ => passAt (takes_of rfl rfl rfl rfl) σ) (pa_cons (pv 0) pa_nil))) d.ps, law_red h (by decide) (by decide) d.rf hl⟩
end
end LW
namespace LW
open PySem PySem.Spec PyProof.Rows L2 DL
theorem all_mk {w : World} {K : PySem.W.Frag} {h : Heap} {mg : Str → Option Value} {fa : Addr} (X : K.In h) (G : h.Ns mainGlobals mg) (hfa : mg "law" = some (.ref fa))
    {f0 : Addr} {od0 an0 : Option Addr} {sl0 : Array (Option Value)} {oc0 kV0 dc0 pm0 cd0 ct0 : Value}
    {f1 : Addr} {od1 an1 : Option Addr} {sl1 : Array (Option Value)} {oc1 kV1 dc1 pm1 cd1 ct1 : Value}
    {f2 : Addr} {od2 an2 : Option Addr} {sl2 : Array (Option Value)} {oc2 kV2 dc2 pm2 cd2 ct2 : Value}
    {f3 : Addr} {od3 an3 : Option Addr} {sl3 : Array (Option Value)} {oc3 kV3 dc3 pm3 cd3 ct3 : Value}
    {f4 : Addr} {od4 an4 : Option Addr} {sl4 : Array (Option Value)} {oc4 kV4 dc4 pm4 cd4 ct4 : Value}
    {f5 : Addr} {od5 an5 : Option Addr} {sl5 : Array (Option Value)} {oc5 kV5 dc5 pm5 cd5 ct5 : Value}
    {f6 : Addr} {od6 an6 : Option Addr} {sl6 : Array (Option Value)} {oc6 kV6 dc6 pm6 cd6 ct6 : Value}
    {f7 : Addr} {od7 an7 : Option Addr} {sl7 : Array (Option Value)} {oc7 kV7 dc7 pm7 cd7 ct7 : Value}
    {f8 : Addr} {od8 an8 : Option Addr} {sl8 : Array (Option Value)} {oc8 kV8 dc8 pm8 cd8 ct8 : Value}
    {f9 : Addr} {od9 an9 : Option Addr} {sl9 : Array (Option Value)} {oc9 kV9 dc9 pm9 cd9 ct9 : Value}
    {f10 : Addr} {od10 an10 : Option Addr} {sl10 : Array (Option Value)} {oc10 kV10 dc10 pm10 cd10 ct10 : Value}
    {f11 : Addr} {od11 an11 : Option Addr} {sl11 : Array (Option Value)} {oc11 kV11 dc11 pm11 cd11 ct11 : Value}
    {f12 : Addr} {od12 an12 : Option Addr} {sl12 : Array (Option Value)} {oc12 kV12 dc12 pm12 cd12 ct12 : Value}
    {f13 : Addr} {od13 an13 : Option Addr} {sl13 : Array (Option Value)} {oc13 kV13 dc13 pm13 cd13 ct13 : Value}
    {f14 : Addr} {od14 an14 : Option Addr} {sl14 : Array (Option Value)} {oc14 kV14 dc14 pm14 cd14 ct14 : Value}
    {f15 : Addr} {od15 an15 : Option Addr} {sl15 : Array (Option Value)} {oc15 kV15 dc15 pm15 cd15 ct15 : Value}
    {f16 : Addr} {od16 an16 : Option Addr} {sl16 : Array (Option Value)} {oc16 kV16 dc16 pm16 cd16 ct16 : Value}
    {f17 : Addr} {od17 an17 : Option Addr} {sl17 : Array (Option Value)} {oc17 kV17 dc17 pm17 cd17 ct17 : Value}
    {f18 : Addr} {od18 an18 : Option Addr} {sl18 : Array (Option Value)} {oc18 kV18 dc18 pm18 cd18 ct18 : Value}
    {f19 : Addr} {od19 an19 : Option Addr} {sl19 : Array (Option Value)} {oc19 kV19 dc19 pm19 cd19 ct19 : Value}
    {f20 : Addr} {od20 an20 : Option Addr} {sl20 : Array (Option Value)} {oc20 kV20 dc20 pm20 cd20 ct20 : Value}
    {f21 : Addr} {od21 an21 : Option Addr} {sl21 : Array (Option Value)} {oc21 kV21 dc21 pm21 cd21 ct21 : Value}
    {f22 : Addr} {od22 an22 : Option Addr} {sl22 : Array (Option Value)} {oc22 kV22 dc22 pm22 cd22 ct22 : Value}
    {f23 : Addr} {od23 an23 : Option Addr} {sl23 : Array (Option Value)} {oc23 kV23 dc23 pm23 cd23 ct23 : Value}
    {f24 : Addr} {od24 an24 : Option Addr} {sl24 : Array (Option Value)} {oc24 kV24 dc24 pm24 cd24 ct24 : Value}
    {f25 : Addr} {od25 an25 : Option Addr} {sl25 : Array (Option Value)} {oc25 kV25 dc25 pm25 cd25 ct25 : Value}
    {f26 : Addr} {od26 an26 : Option Addr} {sl26 : Array (Option Value)} {oc26 kV26 dc26 pm26 cd26 ct26 : Value}
    {f27 : Addr} {od27 an27 : Option Addr} {sl27 : Array (Option Value)} {oc27 kV27 dc27 pm27 cd27 ct27 : Value}
    {f28 : Addr} {od28 an28 : Option Addr} {sl28 : Array (Option Value)} {oc28 kV28 dc28 pm28 cd28 ct28 : Value}
    {f29 : Addr} {od29 an29 : Option Addr} {sl29 : Array (Option Value)} {oc29 kV29 dc29 pm29 cd29 ct29 : Value}
    {f30 : Addr} {od30 an30 : Option Addr} {sl30 : Array (Option Value)} {oc30 kV30 dc30 pm30 cd30 ct30 : Value}
    {f31 : Addr} {od31 an31 : Option Addr} {sl31 : Array (Option Value)} {oc31 kV31 dc31 pm31 cd31 ct31 : Value}
    {f32 : Addr} {od32 an32 : Option Addr} {sl32 : Array (Option Value)} {oc32 kV32 dc32 pm32 cd32 ct32 : Value}
    {f33 : Addr} {od33 an33 : Option Addr} {sl33 : Array (Option Value)} {oc33 kV33 dc33 pm33 cd33 ct33 : Value}
    {tMOST : Tok}
    {tMOST_PRIME : Tok}
    {CTooLarge : Addr}
    {CNotPossible : Addr}
    (a0 : PySem.W.nsIn K mainGlobals "factorization" = some (some (.ref f0))) (l0 : K.lookup f0 = some ⟨oc0, od0, .func (PySem.W.fnOf "factorization" "factorization" (defArgs s_factorization) (defBody s_factorization) (defScope s_factorization) .none kV0 dc0 pm0 an0 cd0 ct0), sl0⟩) (c0 : PySem.W.codeIn K cd0 "factorization" = true) (k0 : PySem.W.keepIn K (.ref f0) = true)
    (a1 : PySem.W.nsIn K mainGlobals "is_prime" = some (some (.ref f1))) (l1 : K.lookup f1 = some ⟨oc1, od1, .func (PySem.W.fnOf "is_prime" "is_prime" (defArgs s_is_prime) (defBody s_is_prime) (defScope s_is_prime) .none kV1 dc1 pm1 an1 cd1 ct1), sl1⟩) (c1 : PySem.W.codeIn K cd1 "is_prime" = true) (k1 : PySem.W.keepIn K (.ref f1) = true)
    (a2 : PySem.W.nsIn K mainGlobals "cubic_value" = some (some (.ref f2))) (l2 : K.lookup f2 = some ⟨oc2, od2, .func (PySem.W.fnOf "cubic_value" "cubic_value" (defArgs s_cubic_value) (defBody s_cubic_value) (defScope s_cubic_value) .none kV2 dc2 pm2 an2 cd2 ct2), sl2⟩) (c2 : PySem.W.codeIn K cd2 "cubic_value" = true) (k2 : PySem.W.keepIn K (.ref f2) = true)
    (a3 : PySem.W.nsIn K mainGlobals "turned_cubic" = some (some (.ref f3))) (l3 : K.lookup f3 = some ⟨oc3, od3, .func (PySem.W.fnOf "turned_cubic" "turned_cubic" (defArgs s_turned_cubic) (defBody s_turned_cubic) (defScope s_turned_cubic) .none kV3 dc3 pm3 an3 cd3 ct3), sl3⟩) (c3 : PySem.W.codeIn K cd3 "turned_cubic" = true) (k3 : PySem.W.keepIn K (.ref f3) = true)
    (a4 : PySem.W.nsIn K mainGlobals "cubic_product" = some (some (.ref f4))) (l4 : K.lookup f4 = some ⟨oc4, od4, .func (PySem.W.fnOf "cubic_product" "cubic_product" (defArgs s_cubic_product) (defBody s_cubic_product) (defScope s_cubic_product) .none kV4 dc4 pm4 an4 cd4 ct4), sl4⟩) (c4 : PySem.W.codeIn K cd4 "cubic_product" = true) (k4 : PySem.W.keepIn K (.ref f4) = true)
    (a5 : PySem.W.nsIn K mainGlobals "cubic_sum" = some (some (.ref f5))) (l5 : K.lookup f5 = some ⟨oc5, od5, .func (PySem.W.fnOf "cubic_sum" "cubic_sum" (defArgs s_cubic_sum) (defBody s_cubic_sum) (defScope s_cubic_sum) .none kV5 dc5 pm5 an5 cd5 ct5), sl5⟩) (c5 : PySem.W.codeIn K cd5 "cubic_sum" = true) (k5 : PySem.W.keepIn K (.ref f5) = true)
    (a6 : PySem.W.nsIn K mainGlobals "cubic_matrix" = some (some (.ref f6))) (l6 : K.lookup f6 = some ⟨oc6, od6, .func (PySem.W.fnOf "cubic_matrix" "cubic_matrix" (defArgs s_cubic_matrix) (defBody s_cubic_matrix) (defScope s_cubic_matrix) .none kV6 dc6 pm6 an6 cd6 ct6), sl6⟩) (c6 : PySem.W.codeIn K cd6 "cubic_matrix" = true) (k6 : PySem.W.keepIn K (.ref f6) = true)
    (a7 : PySem.W.nsIn K mainGlobals "cubic_trace" = some (some (.ref f7))) (l7 : K.lookup f7 = some ⟨oc7, od7, .func (PySem.W.fnOf "cubic_trace" "cubic_trace" (defArgs s_cubic_trace) (defBody s_cubic_trace) (defScope s_cubic_trace) .none kV7 dc7 pm7 an7 cd7 ct7), sl7⟩) (c7 : PySem.W.codeIn K cd7 "cubic_trace" = true) (k7 : PySem.W.keepIn K (.ref f7) = true)
    (a8 : PySem.W.nsIn K mainGlobals "cubic_norm" = some (some (.ref f8))) (l8 : K.lookup f8 = some ⟨oc8, od8, .func (PySem.W.fnOf "cubic_norm" "cubic_norm" (defArgs s_cubic_norm) (defBody s_cubic_norm) (defScope s_cubic_norm) .none kV8 dc8 pm8 an8 cd8 ct8), sl8⟩) (c8 : PySem.W.codeIn K cd8 "cubic_norm" = true) (k8 : PySem.W.keepIn K (.ref f8) = true)
    (a9 : PySem.W.nsIn K mainGlobals "cubic_second" = some (some (.ref f9))) (l9 : K.lookup f9 = some ⟨oc9, od9, .func (PySem.W.fnOf "cubic_second" "cubic_second" (defArgs s_cubic_second) (defBody s_cubic_second) (defScope s_cubic_second) .none kV9 dc9 pm9 an9 cd9 ct9), sl9⟩) (c9 : PySem.W.codeIn K cd9 "cubic_second" = true) (k9 : PySem.W.keepIn K (.ref f9) = true)
    (a10 : PySem.W.nsIn K mainGlobals "fits_equation" = some (some (.ref f10))) (l10 : K.lookup f10 = some ⟨oc10, od10, .func (PySem.W.fnOf "fits_equation" "fits_equation" (defArgs s_fits_equation) (defBody s_fits_equation) (defScope s_fits_equation) .none kV10 dc10 pm10 an10 cd10 ct10), sl10⟩) (c10 : PySem.W.codeIn K cd10 "fits_equation" = true) (k10 : PySem.W.keepIn K (.ref f10) = true)
    (a11 : PySem.W.nsIn K mainGlobals "trace_table" = some (some (.ref f11))) (l11 : K.lookup f11 = some ⟨oc11, od11, .func (PySem.W.fnOf "trace_table" "trace_table" (defArgs s_trace_table) (defBody s_trace_table) (defScope s_trace_table) .none kV11 dc11 pm11 an11 cd11 ct11), sl11⟩) (c11 : PySem.W.codeIn K cd11 "trace_table" = true) (k11 : PySem.W.keepIn K (.ref f11) = true)
    (a12 : PySem.W.nsIn K mainGlobals "trace_discriminant" = some (some (.ref f12))) (l12 : K.lookup f12 = some ⟨oc12, od12, .func (PySem.W.fnOf "trace_discriminant" "trace_discriminant" (defArgs s_trace_discriminant) (defBody s_trace_discriminant) (defScope s_trace_discriminant) .none kV12 dc12 pm12 an12 cd12 ct12), sl12⟩) (c12 : PySem.W.codeIn K cd12 "trace_discriminant" = true) (k12 : PySem.W.keepIn K (.ref f12) = true)
    (a13 : PySem.W.nsIn K mainGlobals "index_of" = some (some (.ref f13))) (l13 : K.lookup f13 = some ⟨oc13, od13, .func (PySem.W.fnOf "index_of" "index_of" (defArgs s_index_of) (defBody s_index_of) (defScope s_index_of) .none kV13 dc13 pm13 an13 cd13 ct13), sl13⟩) (c13 : PySem.W.codeIn K cd13 "index_of" = true) (k13 : PySem.W.keepIn K (.ref f13) = true)
    (a14 : PySem.W.nsIn K mainGlobals "roots_modulo_prime" = some (some (.ref f14))) (l14 : K.lookup f14 = some ⟨oc14, od14, .func (PySem.W.fnOf "roots_modulo_prime" "roots_modulo_prime" (defArgs s_roots_modulo_prime) (defBody s_roots_modulo_prime) (defScope s_roots_modulo_prime) .none kV14 dc14 pm14 an14 cd14 ct14), sl14⟩) (c14 : PySem.W.codeIn K cd14 "roots_modulo_prime" = true) (k14 : PySem.W.keepIn K (.ref f14) = true)
    (a15 : PySem.W.nsIn K mainGlobals "root_count" = some (some (.ref f15))) (l15 : K.lookup f15 = some ⟨oc15, od15, .func (PySem.W.fnOf "root_count" "root_count" (defArgs s_root_count) (defBody s_root_count) (defScope s_root_count) .none kV15 dc15 pm15 an15 cd15 ct15), sl15⟩) (c15 : PySem.W.codeIn K cd15 "root_count" = true) (k15 : PySem.W.keepIn K (.ref f15) = true)
    (a16 : PySem.W.nsIn K mainGlobals "splitting_of" = some (some (.ref f16))) (l16 : K.lookup f16 = some ⟨oc16, od16, .func (PySem.W.fnOf "splitting_of" "splitting_of" (defArgs s_splitting_of) (defBody s_splitting_of) (defScope s_splitting_of) .none kV16 dc16 pm16 an16 cd16 ct16), sl16⟩) (c16 : PySem.W.codeIn K cd16 "splitting_of" = true) (k16 : PySem.W.keepIn K (.ref f16) = true)
    (a17 : PySem.W.nsIn K mainGlobals "is_largest_at" = some (some (.ref f17))) (l17 : K.lookup f17 = some ⟨oc17, od17, .func (PySem.W.fnOf "is_largest_at" "is_largest_at" (defArgs s_is_largest_at) (defBody s_is_largest_at) (defScope s_is_largest_at) .none kV17 dc17 pm17 an17 cd17 ct17), sl17⟩) (c17 : PySem.W.codeIn K cd17 "is_largest_at" = true) (k17 : PySem.W.keepIn K (.ref f17) = true)
    (a18 : PySem.W.nsIn K mainGlobals "_law_state" = some (some (.ref f18))) (l18 : K.lookup f18 = some ⟨oc18, od18, .func (PySem.W.fnOf "_law_state" "_law_state" (defArgs s__law_state) (defBody s__law_state) (defScope s__law_state) .none kV18 dc18 pm18 an18 cd18 ct18), sl18⟩) (c18 : PySem.W.codeIn K cd18 "_law_state" = true) (k18 : PySem.W.keepIn K (.ref f18) = true)
    (a19 : PySem.W.nsIn K mainGlobals "_law_draw" = some (some (.ref f19))) (l19 : K.lookup f19 = some ⟨oc19, od19, .func (PySem.W.fnOf "_law_draw" "_law_draw" (defArgs s__law_draw) (defBody s__law_draw) (defScope s__law_draw) .none kV19 dc19 pm19 an19 cd19 ct19), sl19⟩) (c19 : PySem.W.codeIn K cd19 "_law_draw" = true) (k19 : PySem.W.keepIn K (.ref f19) = true)
    (a20 : PySem.W.nsIn K mainGlobals "_law_truth" = some (some (.ref f20))) (l20 : K.lookup f20 = some ⟨oc20, od20, .func (PySem.W.fnOf "_law_truth" "_law_truth" (defArgs s__law_truth) (defBody s__law_truth) (defScope s__law_truth) .none kV20 dc20 pm20 an20 cd20 ct20), sl20⟩) (c20 : PySem.W.codeIn K cd20 "_law_truth" = true) (k20 : PySem.W.keepIn K (.ref f20) = true)
    (a21 : PySem.W.nsIn K mainGlobals "_law_matrix" = some (some (.ref f21))) (l21 : K.lookup f21 = some ⟨oc21, od21, .func (PySem.W.fnOf "_law_matrix" "_law_matrix" (defArgs s__law_matrix) (defBody s__law_matrix) (defScope s__law_matrix) .none kV21 dc21 pm21 an21 cd21 ct21), sl21⟩) (c21 : PySem.W.codeIn K cd21 "_law_matrix" = true) (k21 : PySem.W.keepIn K (.ref f21) = true)
    (a22 : PySem.W.nsIn K mainGlobals "_law_cubic_turned" = some (some (.ref f22))) (l22 : K.lookup f22 = some ⟨oc22, od22, .func (PySem.W.fnOf "_law_cubic_turned" "_law_cubic_turned" (defArgs s__law_cubic_turned) (defBody s__law_cubic_turned) (defScope s__law_cubic_turned) .none kV22 dc22 pm22 an22 cd22 ct22), sl22⟩) (c22 : PySem.W.codeIn K cd22 "_law_cubic_turned" = true) (k22 : PySem.W.keepIn K (.ref f22) = true)
    (a23 : PySem.W.nsIn K mainGlobals "_law_cubic_size" = some (some (.ref f23))) (l23 : K.lookup f23 = some ⟨oc23, od23, .func (PySem.W.fnOf "_law_cubic_size" "_law_cubic_size" (defArgs s__law_cubic_size) (defBody s__law_cubic_size) (defScope s__law_cubic_size) .none kV23 dc23 pm23 an23 cd23 ct23), sl23⟩) (c23 : PySem.W.codeIn K cd23 "_law_cubic_size" = true) (k23 : PySem.W.keepIn K (.ref f23) = true)
    (a24 : PySem.W.nsIn K mainGlobals "_law_cubic_value" = some (some (.ref f24))) (l24 : K.lookup f24 = some ⟨oc24, od24, .func (PySem.W.fnOf "_law_cubic_value" "_law_cubic_value" (defArgs s__law_cubic_value) (defBody s__law_cubic_value) (defScope s__law_cubic_value) .none kV24 dc24 pm24 an24 cd24 ct24), sl24⟩) (c24 : PySem.W.codeIn K cd24 "_law_cubic_value" = true) (k24 : PySem.W.keepIn K (.ref f24) = true)
    (a25 : PySem.W.nsIn K mainGlobals "_law_cubic" = some (some (.ref f25))) (l25 : K.lookup f25 = some ⟨oc25, od25, .func (PySem.W.fnOf "_law_cubic" "_law_cubic" (defArgs s__law_cubic) (defBody s__law_cubic) (defScope s__law_cubic) .none kV25 dc25 pm25 an25 cd25 ct25), sl25⟩) (c25 : PySem.W.codeIn K cd25 "_law_cubic" = true) (k25 : PySem.W.keepIn K (.ref f25) = true)
    (a26 : PySem.W.nsIn K mainGlobals "_law_product" = some (some (.ref f26))) (l26 : K.lookup f26 = some ⟨oc26, od26, .func (PySem.W.fnOf "_law_product" "_law_product" (defArgs s__law_product) (defBody s__law_product) (defScope s__law_product) .none kV26 dc26 pm26 an26 cd26 ct26), sl26⟩) (c26 : PySem.W.codeIn K cd26 "_law_product" = true) (k26 : PySem.W.keepIn K (.ref f26) = true)
    (a27 : PySem.W.nsIn K mainGlobals "_law_element" = some (some (.ref f27))) (l27 : K.lookup f27 = some ⟨oc27, od27, .func (PySem.W.fnOf "_law_element" "_law_element" (defArgs s__law_element) (defBody s__law_element) (defScope s__law_element) .none kV27 dc27 pm27 an27 cd27 ct27), sl27⟩) (c27 : PySem.W.codeIn K cd27 "_law_element" = true) (k27 : PySem.W.keepIn K (.ref f27) = true)
    (a28 : PySem.W.nsIn K mainGlobals "_law_determinant" = some (some (.ref f28))) (l28 : K.lookup f28 = some ⟨oc28, od28, .func (PySem.W.fnOf "_law_determinant" "_law_determinant" (defArgs s__law_determinant) (defBody s__law_determinant) (defScope s__law_determinant) .none kV28 dc28 pm28 an28 cd28 ct28), sl28⟩) (c28 : PySem.W.codeIn K cd28 "_law_determinant" = true) (k28 : PySem.W.keepIn K (.ref f28) = true)
    (a29 : PySem.W.nsIn K mainGlobals "_law_counts" = some (some (.ref f29))) (l29 : K.lookup f29 = some ⟨oc29, od29, .func (PySem.W.fnOf "_law_counts" "_law_counts" (defArgs s__law_counts) (defBody s__law_counts) (defScope s__law_counts) .none kV29 dc29 pm29 an29 cd29 ct29), sl29⟩) (c29 : PySem.W.codeIn K cd29 "_law_counts" = true) (k29 : PySem.W.keepIn K (.ref f29) = true)
    (a30 : PySem.W.nsIn K mainGlobals "_law_word" = some (some (.ref f30))) (l30 : K.lookup f30 = some ⟨oc30, od30, .func (PySem.W.fnOf "_law_word" "_law_word" (defArgs s__law_word) (defBody s__law_word) (defScope s__law_word) .none kV30 dc30 pm30 an30 cd30 ct30), sl30⟩) (c30 : PySem.W.codeIn K cd30 "_law_word" = true) (k30 : PySem.W.keepIn K (.ref f30) = true)
    (a31 : PySem.W.nsIn K mainGlobals "_law_refused" = some (some (.ref f31))) (l31 : K.lookup f31 = some ⟨oc31, od31, .func (PySem.W.fnOf "_law_refused" "_law_refused" (defArgs s__law_refused) (defBody s__law_refused) (defScope s__law_refused) .none kV31 dc31 pm31 an31 cd31 ct31), sl31⟩) (c31 : PySem.W.codeIn K cd31 "_law_refused" = true) (k31 : PySem.W.keepIn K (.ref f31) = true)
    (a32 : PySem.W.nsIn K mainGlobals "_law_places_hold" = some (some (.ref f32))) (l32 : K.lookup f32 = some ⟨oc32, od32, .func (PySem.W.fnOf "_law_places_hold" "_law_places_hold" (defArgs s__law_places_hold) (defBody s__law_places_hold) (defScope s__law_places_hold) .none kV32 dc32 pm32 an32 cd32 ct32), sl32⟩) (c32 : PySem.W.codeIn K cd32 "_law_places_hold" = true) (k32 : PySem.W.keepIn K (.ref f32) = true)
    (a33 : PySem.W.nsIn K mainGlobals "law" = some (some (.ref f33))) (l33 : K.lookup f33 = some ⟨oc33, od33, .func (PySem.W.fnOf "law" "law" (defArgs s_law) (defBody s_law) (defScope s_law) .none kV33 dc33 pm33 an33 cd33 ct33), sl33⟩) (c33 : PySem.W.codeIn K cd33 "law" = true) (k33 : PySem.W.keepIn K (.ref f33) = true)
    (zall : PySem.W.nsIn K mainGlobals "all" = some none)
    (zint : PySem.W.nsIn K mainGlobals "int" = some none)
    (zlen : PySem.W.nsIn K mainGlobals "len" = some none)
    (zlist : PySem.W.nsIn K mainGlobals "list" = some none)
    (zrange : PySem.W.nsIn K mainGlobals "range" = some none)
    (zsorted : PySem.W.nsIn K mainGlobals "sorted" = some none)
    (zstr : PySem.W.nsIn K mainGlobals "str" = some none)
    (ztuple : PySem.W.nsIn K mainGlobals "tuple" = some none)
    (qMOST : PySem.W.nsIn K mainGlobals "MOST" = some (some (.int 1000000000000 tMOST)))
    (qMOST_PRIME : PySem.W.nsIn K mainGlobals "MOST_PRIME" = some (some (.int 400 tMOST_PRIME)))
    (eTooLarge : PySem.W.nsIn K mainGlobals "TooLarge" = some (some (.ref CTooLarge))) (exTooLarge : PySem.W.excIn K CTooLarge [.type "ValueError", .type "Exception", .type "BaseException", .type "object"] "ValueError.__new__" = true) (ekTooLarge : PySem.W.keepIn K (.ref CTooLarge) = true) (ebTooLarge : PySem.W.subIn K (.ref CTooLarge) (.type "BaseException") = some true) (etTooLarge : PySem.W.typeIn K (.ref CTooLarge) = some (.type "type"))
    (eNotPossible : PySem.W.nsIn K mainGlobals "NotPossible" = some (some (.ref CNotPossible))) (exNotPossible : PySem.W.excIn K CNotPossible [.type "ValueError", .type "Exception", .type "BaseException", .type "object"] "ValueError.__new__" = true) (ekNotPossible : PySem.W.keepIn K (.ref CNotPossible) = true) (ebNotPossible : PySem.W.subIn K (.ref CNotPossible) (.type "BaseException") = some true) (etNotPossible : PySem.W.typeIn K (.ref CNotPossible) = some (.type "type"))
    (mTooLarge_TooLarge : PySem.W.exmOne K (.ref CTooLarge) (.ref CTooLarge) = some true)
    (mTooLarge_NotPossible : PySem.W.exmOne K (.ref CTooLarge) (.ref CNotPossible) = some false)
    (mNotPossible_TooLarge : PySem.W.exmOne K (.ref CNotPossible) (.ref CTooLarge) = some false)
    (mNotPossible_NotPossible : PySem.W.exmOne K (.ref CNotPossible) (.ref CNotPossible) = some true) :
    ∃ fd : FuncData, (∀ (s : Shared) (v : Value), BindsTo s fd ⟨[v], []⟩ [("script", v)]) ∧ ∀ base : Heap, K.In base → base.Ns mainGlobals mg → FnOk PySem.Challenge.rw_rootsooth_k20_whole_rings_of_cubic_forms.prog w K mg base (L2.CX PySem.Challenge.rw_rootsooth_k20_whole_rings_of_cubic_forms.prog w) 6 fa fd ["script"] (spLaw K 63) := by
  have e := hfa.symm.trans (PySem.W.mg_of X G a33)
  cases e
  have z_all := PySem.W.mg_none_of X G zall
  have z_int := PySem.W.mg_none_of X G zint
  have z_len := PySem.W.mg_none_of X G zlen
  have z_list := PySem.W.mg_none_of X G zlist
  have z_range := PySem.W.mg_none_of X G zrange
  have z_sorted := PySem.W.mg_none_of X G zsorted
  have z_str := PySem.W.mg_none_of X G zstr
  have z_tuple := PySem.W.mg_none_of X G ztuple
  have k_MOST := PySem.W.mg_of X G qMOST
  have k_MOST_PRIME := PySem.W.mg_of X G qMOST_PRIME
  have x_TooLarge : ErrC K mg "TooLarge" CTooLarge := ⟨PySem.W.mg_of X G eTooLarge, exTooLarge, ekTooLarge, ebTooLarge, etTooLarge⟩
  have x_NotPossible : ErrC K mg "NotPossible" CNotPossible := ⟨PySem.W.mg_of X G eNotPossible, exNotPossible, ekNotPossible, ebNotPossible, etNotPossible⟩
  have xx : ErrT K mg known := ⟨fun c hc h hh C Ch h1 h2 => by
    simp only [known, List.mem_cons, List.not_mem_nil, or_false] at hc hh
    rcases hc with rfl | rfl <;> rcases hh with rfl | rfl
    · cases h1.symm.trans x_TooLarge.gC; cases h2.symm.trans x_TooLarge.gC; rw [mTooLarge_TooLarge]; rfl
    · cases h1.symm.trans x_TooLarge.gC; cases h2.symm.trans x_NotPossible.gC; rw [mTooLarge_NotPossible]; rfl
    · cases h1.symm.trans x_NotPossible.gC; cases h2.symm.trans x_TooLarge.gC; rw [mNotPossible_TooLarge]; rfl
    · cases h1.symm.trans x_NotPossible.gC; cases h2.symm.trans x_NotPossible.gC; rw [mNotPossible_NotPossible]; rfl
    ⟩
  have F_factorization := fun_mk (st := s_factorization) l0 c0 k0
  have b_factorization := F_factorization.binds (ps := ["number"]) fun _ _ _ _ _ _ us hl => match us, hl with | [_], _ => rfl
  have F_is_prime := fun_mk (st := s_is_prime) l1 c1 k1
  have b_is_prime := F_is_prime.binds (ps := ["number"]) fun _ _ _ _ _ _ us hl => match us, hl with | [_], _ => rfl
  have F_cubic_value := fun_mk (st := s_cubic_value) l2 c2 k2
  have b_cubic_value := F_cubic_value.binds (ps := ["cubic", "x", "y"]) fun _ _ _ _ _ _ us hl => match us, hl with | [_, _, _], _ => rfl
  have F_turned_cubic := fun_mk (st := s_turned_cubic) l3 c3 k3
  have b_turned_cubic := F_turned_cubic.binds (ps := ["cubic", "twist"]) fun _ _ _ _ _ _ us hl => match us, hl with | [_, _], _ => rfl
  have F_cubic_product := fun_mk (st := s_cubic_product) l4 c4 k4
  have b_cubic_product := F_cubic_product.binds (ps := ["cubic", "one", "other"]) fun _ _ _ _ _ _ us hl => match us, hl with | [_, _, _], _ => rfl
  have F_cubic_sum := fun_mk (st := s_cubic_sum) l5 c5 k5
  have b_cubic_sum := F_cubic_sum.binds (ps := ["one", "other"]) fun _ _ _ _ _ _ us hl => match us, hl with | [_, _], _ => rfl
  have F_cubic_matrix := fun_mk (st := s_cubic_matrix) l6 c6 k6
  have b_cubic_matrix := F_cubic_matrix.binds (ps := ["cubic", "one"]) fun _ _ _ _ _ _ us hl => match us, hl with | [_, _], _ => rfl
  have F_cubic_trace := fun_mk (st := s_cubic_trace) l7 c7 k7
  have b_cubic_trace := F_cubic_trace.binds (ps := ["cubic", "one"]) fun _ _ _ _ _ _ us hl => match us, hl with | [_, _], _ => rfl
  have F_cubic_norm := fun_mk (st := s_cubic_norm) l8 c8 k8
  have b_cubic_norm := F_cubic_norm.binds (ps := ["cubic", "one"]) fun _ _ _ _ _ _ us hl => match us, hl with | [_, _], _ => rfl
  have F_cubic_second := fun_mk (st := s_cubic_second) l9 c9 k9
  have b_cubic_second := F_cubic_second.binds (ps := ["cubic", "one"]) fun _ _ _ _ _ _ us hl => match us, hl with | [_, _], _ => rfl
  have F_fits_equation := fun_mk (st := s_fits_equation) l10 c10 k10
  have b_fits_equation := F_fits_equation.binds (ps := ["cubic", "one"]) fun _ _ _ _ _ _ us hl => match us, hl with | [_, _], _ => rfl
  have F_trace_table := fun_mk (st := s_trace_table) l11 c11 k11
  have b_trace_table := F_trace_table.binds (ps := ["cubic"]) fun _ _ _ _ _ _ us hl => match us, hl with | [_], _ => rfl
  have F_trace_discriminant := fun_mk (st := s_trace_discriminant) l12 c12 k12
  have b_trace_discriminant := F_trace_discriminant.binds (ps := ["cubic"]) fun _ _ _ _ _ _ us hl => match us, hl with | [_], _ => rfl
  have F_index_of := fun_mk (st := s_index_of) l13 c13 k13
  have b_index_of := F_index_of.binds (ps := ["cubic", "one"]) fun _ _ _ _ _ _ us hl => match us, hl with | [_, _], _ => rfl
  have F_roots_modulo_prime := fun_mk (st := s_roots_modulo_prime) l14 c14 k14
  have b_roots_modulo_prime := F_roots_modulo_prime.binds (ps := ["cubic", "prime"]) fun _ _ _ _ _ _ us hl => match us, hl with | [_, _], _ => rfl
  have F_root_count := fun_mk (st := s_root_count) l15 c15 k15
  have b_root_count := F_root_count.binds (ps := ["cubic", "root", "prime"]) fun _ _ _ _ _ _ us hl => match us, hl with | [_, _, _], _ => rfl
  have F_splitting_of := fun_mk (st := s_splitting_of) l16 c16 k16
  have b_splitting_of := F_splitting_of.binds (ps := ["cubic", "prime"]) fun _ _ _ _ _ _ us hl => match us, hl with | [_, _], _ => rfl
  have F_is_largest_at := fun_mk (st := s_is_largest_at) l17 c17 k17
  have b_is_largest_at := F_is_largest_at.binds (ps := ["cubic", "prime"]) fun _ _ _ _ _ _ us hl => match us, hl with | [_, _], _ => rfl
  have F__law_state := fun_mk (st := s__law_state) l18 c18 k18
  have b__law_state := F__law_state.binds (ps := ["script"]) fun _ _ _ _ _ _ us hl => match us, hl with | [_], _ => rfl
  have F__law_draw := fun_mk (st := s__law_draw) l19 c19 k19
  have b__law_draw := F__law_draw.binds (ps := ["state", "limit"]) fun _ _ _ _ _ _ us hl => match us, hl with | [_, _], _ => rfl
  have F__law_truth := fun_mk (st := s__law_truth) l20 c20 k20
  have b__law_truth := F__law_truth.binds (ps := ["told", "due"]) fun _ _ _ _ _ _ us hl => match us, hl with | [_, _], _ => rfl
  have F__law_matrix := fun_mk (st := s__law_matrix) l21 c21 k21
  have b__law_matrix := F__law_matrix.binds (ps := ["state", "most", "size"]) fun _ _ _ _ _ _ us hl => match us, hl with | [_, _, _], _ => rfl
  have F__law_cubic_turned := fun_mk (st := s__law_cubic_turned) l22 c22 k22
  have b__law_cubic_turned := F__law_cubic_turned.binds (ps := ["cubic", "one"]) fun _ _ _ _ _ _ us hl => match us, hl with | [_, _], _ => rfl
  have F__law_cubic_size := fun_mk (st := s__law_cubic_size) l23 c23 k23
  have b__law_cubic_size := F__law_cubic_size.binds (ps := ["cubic"]) fun _ _ _ _ _ _ us hl => match us, hl with | [_], _ => rfl
  have F__law_cubic_value := fun_mk (st := s__law_cubic_value) l24 c24 k24
  have b__law_cubic_value := F__law_cubic_value.binds (ps := ["cubic", "x", "y"]) fun _ _ _ _ _ _ us hl => match us, hl with | [_, _, _], _ => rfl
  have F__law_cubic := fun_mk (st := s__law_cubic) l25 c25 k25
  have b__law_cubic := F__law_cubic.binds (ps := ["state", "most"]) fun _ _ _ _ _ _ us hl => match us, hl with | [_, _], _ => rfl
  have F__law_product := fun_mk (st := s__law_product) l26 c26 k26
  have b__law_product := F__law_product.binds (ps := ["cubic", "one", "other"]) fun _ _ _ _ _ _ us hl => match us, hl with | [_, _, _], _ => rfl
  have F__law_element := fun_mk (st := s__law_element) l27 c27 k27
  have b__law_element := F__law_element.binds (ps := ["state"]) fun _ _ _ _ _ _ us hl => match us, hl with | [_], _ => rfl
  have F__law_determinant := fun_mk (st := s__law_determinant) l28 c28 k28
  have b__law_determinant := F__law_determinant.binds (ps := ["rows"]) fun _ _ _ _ _ _ us hl => match us, hl with | [_], _ => rfl
  have F__law_counts := fun_mk (st := s__law_counts) l29 c29 k29
  have b__law_counts := F__law_counts.binds (ps := ["cubic", "prime"]) fun _ _ _ _ _ _ us hl => match us, hl with | [_, _], _ => rfl
  have F__law_word := fun_mk (st := s__law_word) l30 c30 k30
  have b__law_word := F__law_word.binds (ps := ["counts"]) fun _ _ _ _ _ _ us hl => match us, hl with | [_], _ => rfl
  have F__law_refused := fun_mk (st := s__law_refused) l31 c31 k31
  have b__law_refused := F__law_refused.binds (ps := ["cubic", "prime"]) fun _ _ _ _ _ _ us hl => match us, hl with | [_, _], _ => rfl
  have F__law_places_hold := fun_mk (st := s__law_places_hold) l32 c32 k32
  have b__law_places_hold := F__law_places_hold.binds (ps := ["cubic", "prime"]) fun _ _ _ _ _ _ us hl => match us, hl with | [_, _], _ => rfl
  have F_law := fun_mk (st := s_law) l33 c33 k33
  have b_law := F_law.binds (ps := ["script"]) fun _ _ _ _ _ _ us hl => match us, hl with | [_], _ => rfl
  refine ⟨PySem.W.fnOf "law" "law" (defArgs s_law) (defBody s_law) (defScope s_law) .none kV33 dc33 pm33 an33 cd33 ct33, fun s v => .of_eq rfl, fun base _ _ => ?_⟩
  have c_factorization := ok_factorization (P := PySem.Challenge.rw_rootsooth_k20_whole_rings_of_cubic_forms.prog) (w := w) (base := base) k_MOST z_tuple x_TooLarge F_factorization (PySem.W.mg_of X G a0) b_factorization
  have c_is_prime := ok_is_prime (P := PySem.Challenge.rw_rootsooth_k20_whole_rings_of_cubic_forms.prog) (w := w) (base := base) c_factorization F_is_prime (PySem.W.mg_of X G a1) b_is_prime
  have c_cubic_value := ok_cubic_value (P := PySem.Challenge.rw_rootsooth_k20_whole_rings_of_cubic_forms.prog) (w := w) (base := base)  F_cubic_value (PySem.W.mg_of X G a2) b_cubic_value
  have c_turned_cubic := ok_turned_cubic (P := PySem.Challenge.rw_rootsooth_k20_whole_rings_of_cubic_forms.prog) (w := w) (base := base) c_cubic_value F_turned_cubic (PySem.W.mg_of X G a3) b_turned_cubic
  have c_cubic_product := ok_cubic_product (P := PySem.Challenge.rw_rootsooth_k20_whole_rings_of_cubic_forms.prog) (w := w) (base := base)  F_cubic_product (PySem.W.mg_of X G a4) b_cubic_product
  have c_cubic_sum := ok_cubic_sum (P := PySem.Challenge.rw_rootsooth_k20_whole_rings_of_cubic_forms.prog) (w := w) (base := base)  F_cubic_sum (PySem.W.mg_of X G a5) b_cubic_sum
  have c_cubic_matrix := ok_cubic_matrix (P := PySem.Challenge.rw_rootsooth_k20_whole_rings_of_cubic_forms.prog) (w := w) (base := base) c_cubic_product z_tuple F_cubic_matrix (PySem.W.mg_of X G a6) b_cubic_matrix
  have c_cubic_trace := ok_cubic_trace (P := PySem.Challenge.rw_rootsooth_k20_whole_rings_of_cubic_forms.prog) (w := w) (base := base) c_cubic_matrix F_cubic_trace (PySem.W.mg_of X G a7) b_cubic_trace
  have c_cubic_norm := ok_cubic_norm (P := PySem.Challenge.rw_rootsooth_k20_whole_rings_of_cubic_forms.prog) (w := w) (base := base) c_cubic_matrix F_cubic_norm (PySem.W.mg_of X G a8) b_cubic_norm
  have c_cubic_second := ok_cubic_second (P := PySem.Challenge.rw_rootsooth_k20_whole_rings_of_cubic_forms.prog) (w := w) (base := base) c_cubic_matrix F_cubic_second (PySem.W.mg_of X G a9) b_cubic_second
  have c_fits_equation := ok_fits_equation (P := PySem.Challenge.rw_rootsooth_k20_whole_rings_of_cubic_forms.prog) (w := w) (base := base) c_cubic_product c_cubic_trace c_cubic_norm c_cubic_second z_range z_tuple F_fits_equation (PySem.W.mg_of X G a10) b_fits_equation
  have c_trace_table := ok_trace_table (P := PySem.Challenge.rw_rootsooth_k20_whole_rings_of_cubic_forms.prog) (w := w) (base := base) c_cubic_product c_cubic_trace z_tuple F_trace_table (PySem.W.mg_of X G a11) b_trace_table
  have c_trace_discriminant := ok_trace_discriminant (P := PySem.Challenge.rw_rootsooth_k20_whole_rings_of_cubic_forms.prog) (w := w) (base := base) c_trace_table F_trace_discriminant (PySem.W.mg_of X G a12) b_trace_discriminant
  have c_index_of := ok_index_of (P := PySem.Challenge.rw_rootsooth_k20_whole_rings_of_cubic_forms.prog) (w := w) (base := base) c_cubic_product F_index_of (PySem.W.mg_of X G a13) b_index_of
  have c_roots_modulo_prime := ok_roots_modulo_prime (P := PySem.Challenge.rw_rootsooth_k20_whole_rings_of_cubic_forms.prog) (w := w) (base := base) c_is_prime c_cubic_value k_MOST_PRIME z_range z_sorted x_TooLarge x_NotPossible F_roots_modulo_prime (PySem.W.mg_of X G a14) b_roots_modulo_prime
  have c_root_count := ok_root_count (P := PySem.Challenge.rw_rootsooth_k20_whole_rings_of_cubic_forms.prog) (w := w) (base := base) c_turned_cubic F_root_count (PySem.W.mg_of X G a15) b_root_count
  have c_splitting_of := ok_splitting_of (P := PySem.Challenge.rw_rootsooth_k20_whole_rings_of_cubic_forms.prog) (w := w) (base := base) c_roots_modulo_prime c_root_count z_all z_sorted F_splitting_of (PySem.W.mg_of X G a16) b_splitting_of
  have c_is_largest_at := ok_is_largest_at (P := PySem.Challenge.rw_rootsooth_k20_whole_rings_of_cubic_forms.prog) (w := w) (base := base) c_turned_cubic c_roots_modulo_prime z_all F_is_largest_at (PySem.W.mg_of X G a17) b_is_largest_at
  have FS := ok__law_state (P := PySem.Challenge.rw_rootsooth_k20_whole_rings_of_cubic_forms.prog) (w := w) (mg := mg) (base := base) F__law_state z_list
  have c__law_draw := ok__law_draw (P := PySem.Challenge.rw_rootsooth_k20_whole_rings_of_cubic_forms.prog) (w := w) (base := base) z_int z_len F__law_draw (PySem.W.mg_of X G a19) b__law_draw
  have c__law_truth := ok__law_truth (P := PySem.Challenge.rw_rootsooth_k20_whole_rings_of_cubic_forms.prog) (w := w) (base := base)  F__law_truth (PySem.W.mg_of X G a20) b__law_truth
  have c__law_matrix := ok__law_matrix (P := PySem.Challenge.rw_rootsooth_k20_whole_rings_of_cubic_forms.prog) (w := w) (base := base) c__law_draw z_range F__law_matrix (PySem.W.mg_of X G a21) b__law_matrix
  have c__law_cubic_turned := ok__law_cubic_turned (P := PySem.Challenge.rw_rootsooth_k20_whole_rings_of_cubic_forms.prog) (w := w) (base := base)  F__law_cubic_turned (PySem.W.mg_of X G a22) b__law_cubic_turned
  have c__law_cubic_size := ok__law_cubic_size (P := PySem.Challenge.rw_rootsooth_k20_whole_rings_of_cubic_forms.prog) (w := w) (base := base)  F__law_cubic_size (PySem.W.mg_of X G a23) b__law_cubic_size
  have c__law_cubic_value := ok__law_cubic_value (P := PySem.Challenge.rw_rootsooth_k20_whole_rings_of_cubic_forms.prog) (w := w) (base := base)  F__law_cubic_value (PySem.W.mg_of X G a24) b__law_cubic_value
  have c__law_cubic := ok__law_cubic (P := PySem.Challenge.rw_rootsooth_k20_whole_rings_of_cubic_forms.prog) (w := w) (base := base) c__law_draw z_range z_tuple F__law_cubic (PySem.W.mg_of X G a25) b__law_cubic
  have c__law_product := ok__law_product (P := PySem.Challenge.rw_rootsooth_k20_whole_rings_of_cubic_forms.prog) (w := w) (base := base) z_range z_tuple F__law_product (PySem.W.mg_of X G a26) b__law_product
  have c__law_element := ok__law_element (P := PySem.Challenge.rw_rootsooth_k20_whole_rings_of_cubic_forms.prog) (w := w) (base := base) c__law_draw z_range z_tuple F__law_element (PySem.W.mg_of X G a27) b__law_element
  have c__law_determinant := ok__law_determinant (P := PySem.Challenge.rw_rootsooth_k20_whole_rings_of_cubic_forms.prog) (w := w) (base := base)  F__law_determinant (PySem.W.mg_of X G a28) b__law_determinant
  have c__law_counts := ok__law_counts (P := PySem.Challenge.rw_rootsooth_k20_whole_rings_of_cubic_forms.prog) (w := w) (base := base) c__law_cubic_turned c__law_cubic_value z_int z_range z_sorted F__law_counts (PySem.W.mg_of X G a29) b__law_counts
  have c__law_word := ok__law_word (P := PySem.Challenge.rw_rootsooth_k20_whole_rings_of_cubic_forms.prog) (w := w) (base := base) z_sorted z_str F__law_word (PySem.W.mg_of X G a30) b__law_word
  have c__law_refused := ok__law_refused (P := PySem.Challenge.rw_rootsooth_k20_whole_rings_of_cubic_forms.prog) (w := w) (base := base) c_roots_modulo_prime x_TooLarge x_NotPossible xx F__law_refused (PySem.W.mg_of X G a31) b__law_refused
  have c__law_places_hold := ok__law_places_hold (P := PySem.Challenge.rw_rootsooth_k20_whole_rings_of_cubic_forms.prog) (w := w) (base := base) c_roots_modulo_prime c_root_count c_splitting_of c_is_largest_at c__law_truth c__law_counts c__law_word z_int z_len F__law_places_hold (PySem.W.mg_of X G a32) b__law_places_hold
  exact ok_law c_cubic_product c_cubic_sum c_cubic_matrix c_cubic_trace c_cubic_norm c_cubic_second c_fits_equation c_trace_table c_trace_discriminant c_index_of c_splitting_of c_is_largest_at c__law_draw c__law_matrix c__law_cubic_turned c__law_cubic_size c__law_cubic_value c__law_cubic c__law_product c__law_element c__law_determinant c__law_refused c__law_places_hold z_int z_range z_tuple FS (PySem.W.mg_of X G a18) F__law_state.kp b__law_state F_law law_holds
end LW
open PySem PySem.W PyProof.Rows
set_option maxHeartbeats 0 in
theorem PySem.Challenge.cw_rootsooth_k20_whole_rings_of_cubic_forms_holds : PySem.Challenge.rw_rootsooth_k20_whole_rings_of_cubic_forms.Holds := by
  w_on; o_law; k_head; (case hw => w_witness2)
  k_fill
  refine L2.walk_of (l := PySem.Challenge.rw_rootsooth_k20_whole_rings_of_cubic_forms) (n := 63) (k := 6) (x := "script") (CX := fun w => L2.CX PySem.Challenge.rw_rootsooth_k20_whole_rings_of_cubic_forms.prog w) (sp := fun w => DL.spLaw _ 63) rfl (by decide) rfl ⟨rfl, by decide, by decide⟩ (fun w h Y => PySem.W.kIn_of Y) ?F (fun _ _ a ns hl _ hS => ⟨a, ns, rfl, hS, hl, fun _ => rfl⟩) (fun _ _ _ _ _ h => by obtain ⟨_, _, _, _, _, _, _, _, _, _, _, _, z⟩ := h; exact z)
  case F =>
    intro w mg fa h KX G hmg
    refine' LW.all_mk KX G hmg ?a0 ?l0 ?c0 ?k0 ?a1 ?l1 ?c1 ?k1 ?a2 ?l2 ?c2 ?k2 ?a3 ?l3 ?c3 ?k3 ?a4 ?l4 ?c4 ?k4 ?a5 ?l5 ?c5 ?k5 ?a6 ?l6 ?c6 ?k6 ?a7 ?l7 ?c7 ?k7 ?a8 ?l8 ?c8 ?k8 ?a9 ?l9 ?c9 ?k9 ?a10 ?l10 ?c10 ?k10 ?a11 ?l11 ?c11 ?k11 ?a12 ?l12 ?c12 ?k12 ?a13 ?l13 ?c13 ?k13 ?a14 ?l14 ?c14 ?k14 ?a15 ?l15 ?c15 ?k15 ?a16 ?l16 ?c16 ?k16 ?a17 ?l17 ?c17 ?k17 ?a18 ?l18 ?c18 ?k18 ?a19 ?l19 ?c19 ?k19 ?a20 ?l20 ?c20 ?k20 ?a21 ?l21 ?c21 ?k21 ?a22 ?l22 ?c22 ?k22 ?a23 ?l23 ?c23 ?k23 ?a24 ?l24 ?c24 ?k24 ?a25 ?l25 ?c25 ?k25 ?a26 ?l26 ?c26 ?k26 ?a27 ?l27 ?c27 ?k27 ?a28 ?l28 ?c28 ?k28 ?a29 ?l29 ?c29 ?k29 ?a30 ?l30 ?c30 ?k30 ?a31 ?l31 ?c31 ?k31 ?a32 ?l32 ?c32 ?k32 ?a33 ?l33 ?c33 ?k33 ?zall ?zint ?zlen ?zlist ?zrange ?zsorted ?zstr ?ztuple ?qMOST ?qMOST_PRIME ?eTooLarge ?exTooLarge ?ekTooLarge ?ebTooLarge ?etTooLarge ?eNotPossible ?exNotPossible ?ekNotPossible ?ebNotPossible ?etNotPossible ?mTooLarge_TooLarge ?mTooLarge_NotPossible ?mNotPossible_TooLarge ?mNotPossible_NotPossible
    (case a0 => k_is); (case l0 => k_is); (case c0 => k_is); (case k0 => k_is); (case a1 => k_is); (case l1 => k_is); (case c1 => k_is); (case k1 => k_is); (case a2 => k_is); (case l2 => k_is); (case c2 => k_is); (case k2 => k_is); (case a3 => k_is); (case l3 => k_is); (case c3 => k_is); (case k3 => k_is); (case a4 => k_is); (case l4 => k_is); (case c4 => k_is); (case k4 => k_is); (case a5 => k_is); (case l5 => k_is); (case c5 => k_is); (case k5 => k_is); (case a6 => k_is); (case l6 => k_is); (case c6 => k_is); (case k6 => k_is); (case a7 => k_is); (case l7 => k_is); (case c7 => k_is); (case k7 => k_is); (case a8 => k_is); (case l8 => k_is); (case c8 => k_is); (case k8 => k_is); (case a9 => k_is); (case l9 => k_is); (case c9 => k_is); (case k9 => k_is); (case a10 => k_is); (case l10 => k_is); (case c10 => k_is); (case k10 => k_is); (case a11 => k_is); (case l11 => k_is); (case c11 => k_is); (case k11 => k_is); (case a12 => k_is); (case l12 => k_is); (case c12 => k_is); (case k12 => k_is); (case a13 => k_is); (case l13 => k_is); (case c13 => k_is); (case k13 => k_is); (case a14 => k_is); (case l14 => k_is); (case c14 => k_is); (case k14 => k_is); (case a15 => k_is); (case l15 => k_is); (case c15 => k_is); (case k15 => k_is); (case a16 => k_is); (case l16 => k_is); (case c16 => k_is); (case k16 => k_is); (case a17 => k_is); (case l17 => k_is); (case c17 => k_is); (case k17 => k_is); (case a18 => k_is); (case l18 => k_is); (case c18 => k_is); (case k18 => k_is); (case a19 => k_is); (case l19 => k_is); (case c19 => k_is); (case k19 => k_is); (case a20 => k_is); (case l20 => k_is); (case c20 => k_is); (case k20 => k_is); (case a21 => k_is); (case l21 => k_is); (case c21 => k_is); (case k21 => k_is); (case a22 => k_is); (case l22 => k_is); (case c22 => k_is); (case k22 => k_is); (case a23 => k_is); (case l23 => k_is); (case c23 => k_is); (case k23 => k_is); (case a24 => k_is); (case l24 => k_is); (case c24 => k_is); (case k24 => k_is); (case a25 => k_is); (case l25 => k_is); (case c25 => k_is); (case k25 => k_is); (case a26 => k_is); (case l26 => k_is); (case c26 => k_is); (case k26 => k_is); (case a27 => k_is); (case l27 => k_is); (case c27 => k_is); (case k27 => k_is); (case a28 => k_is); (case l28 => k_is); (case c28 => k_is); (case k28 => k_is); (case a29 => k_is); (case l29 => k_is); (case c29 => k_is); (case k29 => k_is); (case a30 => k_is); (case l30 => k_is); (case c30 => k_is); (case k30 => k_is); (case a31 => k_is); (case l31 => k_is); (case c31 => k_is); (case k31 => k_is); (case a32 => k_is); (case l32 => k_is); (case c32 => k_is); (case k32 => k_is); (case a33 => k_is); (case l33 => k_is); (case c33 => k_is); (case k33 => k_is); (case zall => k_is); (case zint => k_is); (case zlen => k_is); (case zlist => k_is); (case zrange => k_is); (case zsorted => k_is); (case zstr => k_is); (case ztuple => k_is); (case qMOST => k_is); (case qMOST_PRIME => k_is); (case eTooLarge => k_is); (case exTooLarge => k_exc); (case ekTooLarge => k_is); (case ebTooLarge => k_is); (case etTooLarge => k_is); (case eNotPossible => k_is); (case exNotPossible => k_exc); (case ekNotPossible => k_is); (case ebNotPossible => k_is); (case etNotPossible => k_is); (case mTooLarge_TooLarge => first | rfl | k_is); (case mTooLarge_NotPossible => first | rfl | k_is); (case mNotPossible_TooLarge => first | rfl | k_is); (case mNotPossible_NotPossible => first | rfl | k_is)
