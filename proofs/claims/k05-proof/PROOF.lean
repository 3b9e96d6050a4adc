import PyProof.Rows.All
import Wide.All
import OpenK.AllK
import Wide.FinOn
import HandS.ForExc
import HandS.Comp
import HandS.Iter
import HandS.Wide
import HandS.WideMore
import HandS.Style
import HandS.TryMany
import HandS.Deep
import HandS.Text
import HandS.TupAny
import HandS.SortInts
import KE.KSortedM
import HandS.NoneIn
import PySem.Challenge.RW_rootsooth_k05_whole_planted_words_of_fra
set_option Elab.async false
set_option linter.all false
set_option maxRecDepth 100000
set_option maxHeartbeats 4000000
/-! DL: a layer of plain data over HandS: values are PyData, functions are functions of data. -/
namespace DL
open PySem PySem.Spec PyProof.Rows L2

abbrev PD := PyData

/-! ### data in the frozen heap -/
mutual
inductive DV (K : PySem.W.Frag) (F : Hp) : V → PD → Prop
  | non : DV K F .non .none
  | bl (b : Bool) : DV K F (.bl b) (.bool b)
  | int (i : Int) : DV K F (.int i) (.int i)
  | str (x : Str) : DV K F (.str x) (.str x)
  | lst {a : Addr} {xs : List V} {ds : List PD} : F a = some (.lst xs) → DVs K F xs ds → DV K F (.ref a) (.list ds)
  | tup {a : Addr} {xs : List V} {ds : List PD} : SqT K F a xs → DVs K F xs ds → DV K F (.ref a) (.tuple ds)
inductive DVs (K : PySem.W.Frag) (F : Hp) : List V → List PD → Prop
  | nil : DVs K F [] []
  | cons {v : V} {vs : List V} {d : PD} {ds : List PD} : DV K F v d → DVs K F vs ds → DVs K F (v :: vs) (d :: ds)
end

theorem sqT_mono {K : PySem.W.Frag} {H H' : Hp} {a : Addr} {xs : List V} (e : Same H H') (h : SqT K H a xs) : SqT K H' a xs := by
  rcases h with (h | ⟨o, h⟩) | h
  · exact .inl (.inl (e _ _ h))
  · exact .inl (.inr ⟨o, e _ _ h⟩)
  · exact .inr h
section
variable {K : PySem.W.Frag} {F F' : Hp}
mutual
theorem DV.mono (s : Same F F') : ∀ (d : PD) (v : V), DV K F v d → DV K F' v d
  | .none, _, h => by cases h; exact .non
  | .bool b, _, h => by cases h; exact .bl b
  | .int i, _, h => by cases h; exact .int i
  | .str x, _, h => by cases h; exact .str x
  | .list ds, _, h => by
    cases h with
    | lst h1 h2 => exact .lst (s _ _ h1) (DVs.mono s ds _ h2)
  | .tuple ds, _, h => by
    cases h with
    | tup h1 h2 => exact .tup (sqT_mono s h1) (DVs.mono s ds _ h2)
  | .dict _, _, h => by cases h
theorem DVs.mono (s : Same F F') : ∀ (ds : List PD) (vs : List V), DVs K F vs ds → DVs K F' vs ds
  | [], _, h => by cases h; exact .nil
  | d :: ds, _, h => by
    cases h with
    | cons h1 h2 => exact .cons (DV.mono s d _ h1) (DVs.mono s ds _ h2)
end
mutual
theorem DV.dp : ∀ (d : PD) (v : V), DV K F v d → Dp K F v d
  | .none, _, h => by cases h; exact .non
  | .bool b, _, h => by cases h; exact .bl b
  | .int i, _, h => by cases h; exact .int i
  | .str x, _, h => by cases h; exact .str x
  | .list ds, _, h => by
    cases h with
    | lst h1 h2 => exact .lst (SqL.of h1) (DVs.dp ds _ h2)
  | .tuple ds, _, h => by
    cases h with
    | tup h1 h2 => exact .tup h1 (DVs.dp ds _ h2)
  | .dict _, _, h => by cases h
theorem DVs.dp : ∀ (ds : List PD) (vs : List V), DVs K F vs ds → DpAll K F vs ds
  | [], _, h => by cases h; exact .nil
  | d :: ds, _, h => by
    cases h with
    | cons h1 h2 => exact .cons (DV.dp d _ h1) (DVs.dp ds _ h2)
end
theorem DVs.len : ∀ {vs : List V} {ds : List PD}, DVs K F vs ds → vs.length = ds.length
  | _, [], h => by cases h; rfl
  | _, d :: ds, h => by
    cases h with
    | cons h1 h2 => rw [List.length_cons, List.length_cons, DVs.len h2]
theorem DVs.get : ∀ {vs : List V} {ds : List PD} {i : Nat} {d : PD}, DVs K F vs ds → ds[i]? = some d → ∃ v, vs[i]? = some v ∧ DV K F v d
  | _, [], _, _, h, e => by simp at e
  | _, d :: ds, 0, x, h, e => by
    cases h with
    | cons h1 h2 => simp at e; subst e; exact ⟨_, rfl, h1⟩
  | _, d :: ds, i + 1, x, h, e => by
    cases h with
    | cons h1 h2 =>
      obtain ⟨v, e1, e2⟩ := DVs.get (i := i) (d := x) h2 (by simpa using e)
      exact ⟨v, by simpa using e1, e2⟩
theorem DVs.append : ∀ {vs us : List V} {ds es : List PD}, DVs K F vs ds → DVs K F us es → DVs K F (vs ++ us) (ds ++ es)
  | _, _, [], _, h, q => by cases h; exact q
  | _, _, d :: ds, _, h, q => by
    cases h with
    | cons h1 h2 => exact .cons h1 (DVs.append h2 q)
theorem DVs.drop : ∀ (n : Nat) {vs : List V} {ds : List PD}, DVs K F vs ds → DVs K F (vs.drop n) (ds.drop n)
  | 0, _, _, h => by simpa using h
  | n + 1, _, [], h => by cases h; exact .nil
  | n + 1, _, d :: ds, h => by
    cases h with
    | cons h1 h2 => exact DVs.drop n h2
theorem DVs.take : ∀ (n : Nat) {vs : List V} {ds : List PD}, DVs K F vs ds → DVs K F (vs.take n) (ds.take n)
  | 0, _, _, h => by simpa using DVs.nil
  | n + 1, _, [], h => by cases h; exact .nil
  | n + 1, _, d :: ds, h => by
    cases h with
    | cons h1 h2 => exact .cons h1 (DVs.take n h2)
theorem DVs.ints : ∀ {vs : List V} {ns : List Int}, DVs K F vs (ns.map PyData.int) → vs = ns.map V.int
  | _, [], h => by cases h; rfl
  | _, n :: ns, h => by
    cases h with
    | cons h1 h2 => cases h1; rw [DVs.ints h2]; rfl
theorem DVs.of_ints : ∀ {ns : List Int}, DVs K F (ns.map V.int) (ns.map PyData.int)
  | [] => .nil
  | n :: ns => .cons (.int n) DVs.of_ints
theorem DVs.bools : ∀ {vs : List V} {ns : List Bool}, DVs K F vs (ns.map PyData.bool) → vs = ns.map V.bl
  | _, [], h => by cases h; rfl
  | _, n :: ns, h => by
    cases h with
    | cons h1 h2 => cases h1; rw [DVs.bools h2]; rfl
theorem DVs.strs : ∀ {vs : List V} {ns : List Str}, DVs K F vs (ns.map PyData.str) → vs = ns.map V.str
  | _, [], h => by cases h; rfl
  | _, n :: ns, h => by
    cases h with
    | cons h1 h2 => cases h1; rw [DVs.strs h2]; rfl
end

/-! ### the law's state, steps -/
structure S where
  cells : List Int
  pos : Int
  cell : Int
  left : Int
  big : Bool

def stV (sc : Addr) (st : S) : List V := [.ref sc, .int st.pos, .int st.cell, .int st.left, .bl st.big, .int 500]
/-- the mark of the state's list among the data -/
abbrev STT : PD := .dict []
def SR (F H : Hp) (sa : Addr) (st : S) : Prop := ∃ sc, H sa = some (.lst (stV sc st)) ∧ F sc = some (.lst (st.cells.map V.int))
def RD (K : PySem.W.Frag) (sa : Addr) (F : Hp) (v : V) (d : PD) : Prop := DV K F v d ∨ (d = STT ∧ v = .ref sa)
theorem RD.mono {K : PySem.W.Frag} {sa : Addr} {F F' : Hp} {v : V} {d : PD} (s : Same F F') (h : RD K sa F v d) : RD K sa F' v d := by
  rcases h with h | h
  · exact .inl (h.mono s)
  · exact .inr h

structure Bs (sa : Addr) (F H : Hp) (st : S) : Prop where
  sub : Same F H
  fsa : F sa = none
  sr : SR F H sa st
structure Stp (sa : Addr) (F H F' H' : Hp) (st' : S) : Prop where
  fm : Same F F'
  fn : ∀ b, F b = none → F' b ≠ none → H b = none
  pr : ∀ b o, H b = some o → b ≠ sa → H' b = some o
  bs : Bs sa F' H' st'
section
variable {sa : Addr} {F H F1 H1 F2 H2 F' H' : Hp} {st st1 st2 st' : S}
theorem Bs.refl (b : Bs sa F H st) : Stp sa F H F H st := ⟨Same.refl _, fun _ h n => absurd h n, fun _ _ h _ => h, b⟩
theorem Stp.trans (a : Stp sa F H F1 H1 st1) (b : Stp sa F1 H1 F2 H2 st2) : Stp sa F H F2 H2 st2 where
  fm := a.fm.trans b.fm
  fn := fun c h n => by
    cases e : F1 c with
    | none =>
      have q := b.fn c e n
      cases e2 : H c with
      | none => rfl
      | some o =>
        have : c ≠ sa := fun z => by subst z; exact n b.bs.fsa
        rw [a.pr c o e2 this] at q; cases q
    | some o => exact a.fn c h (by rw [e]; exact fun z => nomatch z)
  pr := fun c o h n => b.pr c o (a.pr c o h n) n
  bs := b.bs
theorem Bs.hsa (b : Bs sa F H st) : H sa ≠ none := by
  obtain ⟨sc, e, _⟩ := b.sr
  rw [e]; exact fun z => nomatch z
theorem Bs.ne (b : Bs sa F H st) {p : Addr} (h : H p = none) : p ≠ sa := fun z => by subst z; exact b.hsa h
theorem Bs.ff (b : Bs sa F H st) {p : Addr} (h : H p = none) : F p = none := b.sub.free h
theorem same_upd {H : Hp} {p : Addr} {o : HO} (h : H p = none) : Same H (upd H p o) := fun b x e => by
  rw [upd_ne (ne_of_none e h)]; exact e
/-- a new object, frozen -/
theorem Bs.newF (b : Bs sa F H st) {p : Addr} (h : H p = none) (o : HO) : Stp sa F H (upd F p o) (upd H p o) st where
  fm := same_upd (b.ff h)
  fn := fun c hc n => by
    by_cases e : c = p
    · subst e; exact h
    · rw [upd_ne e] at n; exact absurd hc n
  pr := fun c x e _ => same_upd h c x e
  bs := by
    refine ⟨fun c x e => ?_, ?_, ?_⟩
    · by_cases z : c = p
      · subst z; rw [upd_same] at e ⊢; exact e
      · rw [upd_ne z] at e ⊢; exact b.sub c x e
    · rw [upd_ne (b.ne h).symm]; exact b.fsa
    · obtain ⟨sc, e1, e2⟩ := b.sr
      refine ⟨sc, by rw [upd_ne (b.ne h).symm]; exact e1, same_upd (b.ff h) _ _ e2⟩
/-- a new object, not frozen -/
theorem Bs.newU (b : Bs sa F H st) {p : Addr} (h : H p = none) (o : HO) : Stp sa F H F (upd H p o) st where
  fm := Same.refl _
  fn := fun c hc n => absurd hc n
  pr := fun c x e _ => same_upd h c x e
  bs := by
    refine ⟨fun c x e => same_upd h c x (b.sub c x e), b.fsa, ?_⟩
    obtain ⟨sc, e1, e2⟩ := b.sr
    exact ⟨sc, by rw [upd_ne (b.ne h).symm]; exact e1, e2⟩
end

/-! ### results -/
inductive R (α : Type) where
  | ok (a : α) (s : S)
  | ex (c : Str) (s : S)
  | bad
abbrev M (α : Type) := S → R α
@[reducible] def R.bind {α β : Type} (r : R α) (k : α → S → R β) : R β := match r with
  | .ok a s => k a s
  | .ex c s => .ex c s
  | .bad => .bad
@[simp] theorem R.bind_ok {α β : Type} (a : α) (s : S) (k : α → S → R β) : (R.ok a s).bind k = k a s := rfl
@[simp] theorem R.bind_ex {α β : Type} (c : Str) (s : S) (k : α → S → R β) : (R.ex c s : R α).bind k = .ex c s := rfl
@[simp] theorem R.bind_bad {α β : Type} (k : α → S → R β) : (R.bad : R α).bind k = .bad := rfl
def R.ofO {α : Type} (o : Option α) (s : S) : R α := match o with
  | some a => .ok a s
  | none => .bad
@[simp] theorem R.ofO_some {α : Type} (a : α) (s : S) : R.ofO (some a) s = .ok a s := rfl
@[simp] theorem R.ofO_none {α : Type} (s : S) : R.ofO (none : Option α) s = .bad := rfl

inductive Sl where
  | v (d : PD)
  | o (xs : List PD)
abbrev Env := List (Option Sl)

structure Sim (K : PySem.W.Frag) (sa : Addr) (F0 H0 F H : Hp) (σ : L2.St) (env : Env) (st : S) : Prop where
  s0 : H0 sa ≠ none
  stp : Stp sa F0 H0 F H st
  len : env.length = σ.length
  vals : ∀ (i : Nat) (d : PD), env[i]? = some (some (.v d)) → ∃ v, σ[i]? = some (some v) ∧ RD K sa F v d
  own : ∀ (i : Nat) (xs : List PD), env[i]? = some (some (.o xs)) → ∃ a vs, σ[i]? = some (some (.ref a)) ∧ H a = some (.lst vs) ∧ F a = none ∧ H0 a = none ∧ DVs K F vs xs
  dis : ∀ (i j : Nat) (xs ys : List PD) (a : Addr), env[i]? = some (some (.o xs)) → env[j]? = some (some (.o ys)) → σ[i]? = some (some (.ref a)) → σ[j]? = some (some (.ref a)) → i = j
section
variable {K : PySem.W.Frag} {sa : Addr} {F0 H0 F H F' H' : Hp} {σ : L2.St} {env : Env} {st st' : S}
theorem Sim.bs (s : Sim K sa F0 H0 F H σ env st) : Bs sa F H st := s.stp.bs
theorem Sim.ne (s : Sim K sa F0 H0 F H σ env st) {a : Addr} (h : H0 a = none) : a ≠ sa := fun z => by subst z; exact s.s0 h
theorem Sim.step (s : Sim K sa F0 H0 F H σ env st) (p : Stp sa F H F' H' st') : Sim K sa F0 H0 F' H' σ env st' where
  s0 := s.s0
  stp := s.stp.trans p
  len := s.len
  vals := fun i d e => let ⟨v, e1, r⟩ := s.vals i d e; ⟨v, e1, r.mono p.fm⟩
  own := fun i xs e => by
    obtain ⟨a, vs, e1, e2, e3, e4, r⟩ := s.own i xs e
    refine ⟨a, vs, e1, p.pr a _ e2 (s.ne e4), ?_, e4, r.mono p.fm⟩
    cases q : F' a with
    | none => rfl
    | some o =>
      have := p.fn a e3 (by rw [q]; exact fun z => nomatch z)
      rw [e2] at this; cases this
  dis := s.dis
end

/-! ### a reading and a function of data -/
section
variable {α β : Type}
/-- what is to be shown of what comes behind: rel H F' H' (a value) (a datum) -/
def Post (mg : Str → Option Value) (W : WX) (sa : Addr) (σ : L2.St) (F H : Hp) (rel : Hp → Hp → Hp → β → α → Prop) (r : R α) (Q : β → Hp → Prop) : Prop := match r with
  | .ok d st' => ∀ v F' H', Stp sa F H F' H' st' → rel H F' H' v d → Q v H'
  | .ex c st' => ∀ F' H' C, Stp sa F H F' H' st' → mg c = some (.ref C) → W (.ref C) none σ H'
  | .bad => False
def Ref (K : PySem.W.Frag) (mg : Str → Option Value) (W : WX) (rel : Addr → Hp → Hp → Hp → β → α → Prop) (t : L2.St → Hp → (β → Hp → Prop) → Prop) (f : Env → M α) : Prop :=
  ∀ sa F0 H0 F H σ env st Q, Sim K sa F0 H0 F H σ env st → Post mg W sa σ F H (rel sa) (f env st) Q → t σ H Q
def Mono (rel : Addr → Hp → Hp → Hp → β → α → Prop) : Prop := ∀ sa F H F1 H1 st1 F' H' x d, Bs sa F1 H1 st1 → Stp sa F H F1 H1 st1 → rel sa H1 F' H' x d → rel sa H F' H' x d
end
abbrev rE (K : PySem.W.Frag) : Addr → Hp → Hp → Hp → V → PD → Prop := fun sa _ F' _ v d => RD K sa F' v d
inductive RDs (K : PySem.W.Frag) (sa : Addr) (F : Hp) : List V → List PD → Prop
  | nil : RDs K sa F [] []
  | cons {v : V} {vs : List V} {d : PD} {ds : List PD} : RD K sa F v d → RDs K sa F vs ds → RDs K sa F (v :: vs) (d :: ds)
abbrev rA (K : PySem.W.Frag) : Addr → Hp → Hp → Hp → List V → List PD → Prop := fun sa _ F' _ vs ds => RDs K sa F' vs ds
abbrev rT : Addr → Hp → Hp → Hp → Bool → Bool → Prop := fun _ _ _ _ b c => b = c
/-- a new list -/
abbrev rN (K : PySem.W.Frag) : Addr → Hp → Hp → Hp → V → List PD → Prop := fun sa H F' H' v xs => ∃ a vs, v = .ref a ∧ H' a = some (.lst vs) ∧ F' a = none ∧ H a = none ∧ DVs K F' vs xs
theorem RDs.mono {K : PySem.W.Frag} {sa : Addr} {F F' : Hp} {vs : List V} {ds : List PD} (s : Same F F') (h : RDs K sa F vs ds) : RDs K sa F' vs ds := by
  induction h with
  | nil => exact .nil
  | cons h1 _ ih => exact .cons (h1.mono s) ih
theorem RDs.len {K : PySem.W.Frag} {sa : Addr} {F : Hp} {vs : List V} {ds : List PD} (h : RDs K sa F vs ds) : vs.length = ds.length := by
  induction h with
  | nil => rfl
  | cons h1 _ ih => rw [List.length_cons, List.length_cons, ih]
theorem mono_E {K : PySem.W.Frag} : Mono (rE K) := fun _ _ _ _ _ _ _ _ _ _ _ _ h => h
theorem mono_A {K : PySem.W.Frag} : Mono (rA K) := fun _ _ _ _ _ _ _ _ _ _ _ _ h => h
theorem mono_T : Mono rT := fun _ _ _ _ _ _ _ _ _ _ _ _ h => h
theorem mono_N {K : PySem.W.Frag} : Mono (rN K) := fun sa F H F1 H1 st1 F' H' x d b p ⟨a, vs, e, e1, e2, e3, e4⟩ => by
  refine ⟨a, vs, e, e1, e2, ?_, e4⟩
  cases q : H a with
  | none => rfl
  | some o => rw [p.pr a o q (b.ne e3)] at e3; cases e3
section
variable {α β γ δ : Type} {K : PySem.W.Frag} {mg : Str → Option Value} {W : WX} {sa : Addr} {F0 H0 F H F1 H1 : Hp} {σ : L2.St} {env : Env} {st st1 : S}
theorem Post.shift {rel : Addr → Hp → Hp → Hp → β → α → Prop} (m : Mono rel) {r : R α} {Q : β → Hp → Prop} (p : Stp sa F H F1 H1 st1) (h : Post mg W sa σ F H (rel sa) r Q) : Post mg W sa σ F1 H1 (rel sa) r Q := by
  cases r with
  | ok d st' => exact fun v F' H' q rl => h v F' H' (p.trans q) (m _ _ _ _ _ _ _ _ _ _ p.bs p rl)
  | ex c st' => exact fun F' H' C q e => h F' H' C (p.trans q) e
  | bad => exact h
/-- first the one, then what hangs on it -/
theorem Ref.bind {rel : Addr → Hp → Hp → Hp → β → α → Prop} {rel' : Addr → Hp → Hp → Hp → δ → γ → Prop} {ta : L2.St → Hp → (β → Hp → Prop) → Prop} {fa : Env → M α} {k : α → S → R γ} {Q : δ → Hp → Prop} {Q' : β → Hp → Prop}
    (m : Mono rel') (ha : Ref K mg W rel ta fa) (s : Sim K sa F0 H0 F H σ env st) (h : Post mg W sa σ F H (rel' sa) ((fa env st).bind k) Q)
    (hk : ∀ x F1 H1 d st1, Stp sa F H F1 H1 st1 → Sim K sa F0 H0 F1 H1 σ env st1 → rel sa H F1 H1 x d → Post mg W sa σ F1 H1 (rel' sa) (k d st1) Q → Q' x H1) : ta σ H Q' := by
  refine ha sa F0 H0 F H σ env st Q' s ?_
  cases e : fa env st with
  | ok d st1 =>
    rw [e] at h
    exact fun v F1 H1 p r => hk v F1 H1 d st1 p (s.step p) r (h.shift m p)
  | ex c st1 => rw [e] at h; exact h
  | bad => rw [e] at h; exact h
end
end DL
/-! DL2: expressions of data. -/
namespace DL
open PySem PySem.Spec PyProof.Rows L2

/-! ### what a datum says of its value -/
section
variable {K : PySem.W.Frag} {sa : Addr} {F : Hp} {v : V}
theorem RD.int {i : Int} (h : RD K sa F v (.int i)) : v = .int i := by
  rcases h with h | ⟨e, _⟩
  · cases h; rfl
  · cases e
theorem RD.bl {i : Bool} (h : RD K sa F v (.bool i)) : v = .bl i := by
  rcases h with h | ⟨e, _⟩
  · cases h; rfl
  · cases e
theorem RD.str {i : Str} (h : RD K sa F v (.str i)) : v = .str i := by
  rcases h with h | ⟨e, _⟩
  · cases h; rfl
  · cases e
theorem RD.non (h : RD K sa F v .none) : v = .non := by
  rcases h with h | ⟨e, _⟩
  · cases h; rfl
  · cases e
theorem RD.lst {ds : List PD} (h : RD K sa F v (.list ds)) : ∃ a xs, v = .ref a ∧ F a = some (.lst xs) ∧ DVs K F xs ds := by
  rcases h with h | ⟨e, _⟩
  · cases h with
    | lst h1 h2 => exact ⟨_, _, rfl, h1, h2⟩
  · cases e
theorem RD.tup {ds : List PD} (h : RD K sa F v (.tuple ds)) : ∃ a xs, v = .ref a ∧ SqT K F a xs ∧ DVs K F xs ds := by
  rcases h with h | ⟨e, _⟩
  · cases h with
    | tup h1 h2 => exact ⟨_, _, rfl, h1, h2⟩
  · cases e
theorem RD.stt (h : RD K sa F v STT) : v = .ref sa := by
  rcases h with h | ⟨_, e⟩
  · cases h
  · exact e
theorem RD.dv {d : PD} (h : RD K sa F v d) (hs : SeqAt.shaped d = true) : DV K F v d := by
  rcases h with h | ⟨e, _⟩
  · exact h
  · subst e; exact absurd hs (by decide)
end
theorem fst_eq {xs ys : List V} {p : Addr} {F : Hp} (h : F p = some (.lst xs)) (h' : F p = some (.lst ys)) : xs = ys := by
  rw [h] at h'; cases h'; rfl
/-- a datum without the state's mark -/
def isD : PD → Bool
  | .dict _ => false
  | _ => true
theorem RD.dv' {K : PySem.W.Frag} {sa : Addr} {F : Hp} {v : V} {d : PD} (h : RD K sa F v d) (hs : isD d = true) : DV K F v d := by
  rcases h with h | ⟨e, _⟩
  · exact h
  · subst e; exact absurd hs (by decide)
theorem RDs.dvs {K : PySem.W.Frag} {sa : Addr} {F : Hp} {vs : List V} {ds : List PD} (h : RDs K sa F vs ds) (hs : ds.all isD = true) : DVs K F vs ds := by
  induction h with
  | nil => exact .nil
  | cons h1 _ ih =>
    rw [List.all_cons, Bool.and_eq_true] at hs
    exact .cons (h1.dv' hs.1) (ih hs.2)

/-! ### derivations -/
structure OkX (X : Cx) (K : PySem.W.Frag) (mg : Str → Option Value) : Prop where
  hK : X.K = K
  hm : X.mg = mg
structure DE (X : Cx) (K : PySem.W.Frag) (mg : Str → Option Value) (W : WX) (e : Expr) (t : TE) (f : Env → M PD) : Prop where
  pe : PE X e t
  rf : Ref K mg W (rE K) t f
structure DN (X : Cx) (K : PySem.W.Frag) (mg : Str → Option Value) (W : WX) (e : Expr) (t : TE) (f : Env → M (List PD)) : Prop where
  pe : PE X e t
  rf : Ref K mg W (rN K) t f
structure DA (X : Cx) (K : PySem.W.Frag) (mg : Str → Option Value) (W : WX) (es : List Expr) (t : TA) (f : Env → M (List PD)) : Prop where
  pe : PA X es t
  rf : Ref K mg W (rA K) t f
structure DT (X : Cx) (K : PySem.W.Frag) (mg : Str → Option Value) (W : WX) (e : Expr) (t : TT) (f : Env → M Bool) : Prop where
  pe : PT X e t
  rf : Ref K mg W rT t f
structure DW (X : Cx) (K : PySem.W.Frag) (mg : Str → Option Value) (W : WX) (e : Expr) (t : TT) (f : Env → M Bool) : Prop where
  pe : PW X e t
  rf : Ref K mg W rT t f

/-! ### names, constants -/
def eC (d : PD) : Env → M PD := fun _ st => .ok d st
def eV (i : Nat) : Env → M PD := fun env st => match env[i]? with
  | some (some (.v d)) => .ok d st
  | _ => .bad
section
variable {X : Cx} {K : PySem.W.Frag} {mg : Str → Option Value} {W : WX}
theorem ref_tC {K : PySem.W.Frag} {mg : Str → Option Value} {v : V} {d : PD} (h : ∀ F, DV K F v d) : Ref K mg W (rE K) (tC v) (eC d) := fun sa F0 H0 F H σ env st Q s p => p v F H s.bs.refl (.inl (h F))
theorem de_int {i j pos} (ok : OkX X K mg := by exact ⟨rfl, rfl⟩) : DE X K mg W (.Constant (.int i) j pos) (tC (.int i)) (eC (.int i)) := by
  obtain ⟨rfl, rfl⟩ := ok
  exact ⟨pe_int, ref_tC fun _ => .int i⟩
theorem de_bl {i j pos} (ok : OkX X K mg := by exact ⟨rfl, rfl⟩) : DE X K mg W (.Constant (.bool i) j pos) (tC (.bl i)) (eC (.bool i)) := by
  obtain ⟨rfl, rfl⟩ := ok
  exact ⟨pe_bl, ref_tC fun _ => .bl i⟩
theorem de_str {i j pos} (ok : OkX X K mg := by exact ⟨rfl, rfl⟩) : DE X K mg W (.Constant (.str i) j pos) (tC (.str i)) (eC (.str i)) := by
  obtain ⟨rfl, rfl⟩ := ok
  exact ⟨pe_str, ref_tC fun _ => .str i⟩
theorem de_non {j pos} (ok : OkX X K mg := by exact ⟨rfl, rfl⟩) : DE X K mg W (.Constant .none j pos) (tC .non) (eC .none) := by
  obtain ⟨rfl, rfl⟩ := ok
  exact ⟨pe_non, ref_tC fun _ => .non⟩
theorem ref_tVar {K : PySem.W.Frag} {mg : Str → Option Value} {i : Nat} : Ref K mg W (rE K) (tVar i) (eV i) := fun sa F0 H0 F H σ env st Q s p => by
  unfold eV at p
  split at p
  · rename_i d e
    obtain ⟨v, e1, r⟩ := s.vals i d e
    exact ⟨v, e1, p v F H s.bs.refl r⟩
  · exact p.elim
theorem de_v (i : Nat) {x : Str} {pos : Pos} (hN : X.N[i]? = some x := by rfl) (hv : Vis X.env.scope x := by first | exact Or.inl rfl | exact Or.inr (Or.inl rfl) | exact Or.inr (Or.inr rfl)) (hd : (x == ("__debug__" : Str)) = false := by decide)
    (hcd : (x == ("__classdict__" : Str)) = false := by decide) (ok : OkX X K mg := by exact ⟨rfl, rfl⟩) : DE X K mg W (.Name x pos) (tVar i) (eV i) := by
  obtain ⟨rfl, rfl⟩ := ok
  exact ⟨pe_var hN hv hd hcd, ref_tVar⟩
theorem de_glI {x : Str} {i : Int} {t : Tok} {pos : Pos} (hm : mg x = some (.int i t)) (hg : Gl X x := by rfl) (hd : (x == ("__debug__" : Str)) = false := by decide) (ok : OkX X K mg := by exact ⟨rfl, rfl⟩) : DE X K mg W (.Name x pos) (tC (.int i)) (eC (.int i)) := by
  obtain ⟨rfl, rfl⟩ := ok
  exact ⟨pe_glob hg hm ⟨_, rfl⟩ hd, ref_tC fun _ => .int i⟩
/-- a module's constant -/
theorem de_gl {x : Str} {v : V} {d : PD} {u : Value} {pos : Pos} (hg : Gl X x) (hm : mg x = some u) (r : RelV v u) (h : ∀ F, DV K F v d) (hd : (x == ("__debug__" : Str)) = false := by decide) (ok : OkX X K mg := by exact ⟨rfl, rfl⟩) : DE X K mg W (.Name x pos) (tC v) (eC d) := by
  obtain ⟨rfl, rfl⟩ := ok
  exact ⟨pe_glob hg hm r hd, ref_tC h⟩
end

/-! ### operators -/
def OpRef (K : PySem.W.Frag) (r : R2) (op : S → PD → PD → Option PD) : Prop := ∀ sa F H st x y d e z Q, Bs sa F H st → RD K sa F x d → RD K sa F y e → op st d e = some z →
  (∀ v F' H', Stp sa F H F' H' st → RD K sa F' v z → Q v H') → r x y H Q
def e2 (op : S → PD → PD → Option PD) (fa fb : Env → M PD) : Env → M PD := fun env st => (fa env st).bind fun d s1 => (fb env s1).bind fun e s2 => R.ofO (op s2 d e) s2
def UnRef (K : PySem.W.Frag) (r : V → Hp → VK → Prop) (op : S → PD → Option PD) : Prop := ∀ sa F H st x d z Q, Bs sa F H st → RD K sa F x d → op st d = some z →
  (∀ v F' H', Stp sa F H F' H' st → RD K sa F' v z → Q v H') → r x H Q
def e1 (op : S → PD → Option PD) (fa : Env → M PD) : Env → M PD := fun env st => (fa env st).bind fun d s1 => R.ofO (op s1 d) s1
section
variable {K : PySem.W.Frag} {mg : Str → Option Value} {W : WX} {ta tb : TE} {fa fb : Env → M PD}
theorem ref_op {r : R2} {op : S → PD → PD → Option PD} (ho : OpRef K r op) (ha : Ref K mg W (rE K) ta fa) (hb : Ref K mg W (rE K) tb fb) : Ref K mg W (rE K) (tOp r ta tb) (e2 op fa fb) := fun sa F0 H0 F H σ env st Q s p => by
  refine Ref.bind (ta := ta) mono_E ha s p fun x F1 H1 d st1 p1 s1 r1 p => ?_
  refine Ref.bind (ta := tb) mono_E hb s1 p fun y F2 H2 e st2 p2 s2 r2 p => ?_
  cases hz : op st2 d e with
  | none => rw [hz] at p; exact p.elim
  | some z => rw [hz] at p; exact ho sa F2 H2 st2 x y d e z Q s2.bs (r1.mono p2.fm) r2 hz p
theorem ref_un {r : V → Hp → VK → Prop} {op : S → PD → Option PD} (ho : UnRef K r op) (ha : Ref K mg W (rE K) ta fa) : Ref K mg W (rE K) (tUn r ta) (e1 op fa) := fun sa F0 H0 F H σ env st Q s p => by
  refine Ref.bind (ta := ta) mono_E ha s p fun x F1 H1 d st1 p1 s1 r1 p => ?_
  cases hz : op st1 d with
  | none => rw [hz] at p; exact p.elim
  | some z => rw [hz] at p; exact ho sa F1 H1 st1 x d z Q s1.bs r1 hz p
/-- a value at hand -/
theorem Bs.val {sa : Addr} {F H : Hp} {st : S} {Q : VK} {z : PD} {v : V} (b : Bs sa F H st) (h : ∀ v F' H', Stp sa F H F' H' st → RD K sa F' v z → Q v H') (hv : DV K F v z) : Q v H := h v F H b.refl (.inl hv)
/-- a new frozen list, a new tuple -/
theorem Bs.list {sa : Addr} {F H : Hp} {st : S} {Q : VK} {zs : List PD} {vs : List V} {p : Addr} (b : Bs sa F H st) (hp : H p = none) (h : ∀ v F' H', Stp sa F H F' H' st → RD K sa F' v (.list zs) → Q v H') (hv : DVs K F vs zs) : Q (.ref p) (upd H p (.lst vs)) :=
  h _ _ _ (b.newF hp _) (.inl (.lst upd_same (hv.mono (b.newF hp (.lst vs)).fm)))
theorem Bs.tuple {sa : Addr} {F H : Hp} {st : S} {Q : VK} {zs : List PD} {vs : List V} {p : Addr} (b : Bs sa F H st) (hp : H p = none) (h : ∀ v F' H', Stp sa F H F' H' st → RD K sa F' v (.tuple zs) → Q v H') (hv : DVs K F vs zs) : Q (.ref p) (upd H p (.tup vs)) :=
  h _ _ _ (b.newF hp _) (.inl (.tup (SqT.of upd_same) (hv.mono (b.newF hp (.tup vs)).fm)))
end

/-! #### + - * // % ** -/
def opAdd : S → PD → PD → Option PD := fun _ d e => match d, e with
  | .int i, .int j => some (.int (i + j))
  | .str a, .str b => if a.length + b.length ≤ sizeLine then some (.str (a ++ b)) else none
  | .tuple a, .tuple b => if a.length + b.length ≤ sizeLine then some (.tuple (a ++ b)) else none
  | .list a, .list b => if a.length + b.length ≤ sizeLine then some (.list (a ++ b)) else none
  | _, _ => none
def rAddD (K : PySem.W.Frag) : R2 := fun x y H Q => (rI0 fun i j => .int (i + j)) x y H Q ∨ (∃ i j, x = .str i ∧ y = .str j ∧ i.length + j.length ≤ sizeLine ∧ Q (.str (i ++ j)) H) ∨ rCatA K x y H Q ∨ rCat x y H Q
theorem op_addD {X : Cx} : OpR X (binaryOp .Add) (rAddD X.K) := op_add.or (op_add_str.or (op_catA.or op_cat))
theorem addRef {K : PySem.W.Frag} : OpRef K (rAddD K) opAdd := by
  intro sa F H st x y d e z Q b rx ry hz q
  unfold opAdd at hz
  split at hz
  · cases hz
    rw [rx.int, ry.int]
    exact .inl ⟨_, _, rfl, rfl, b.val q (.int _)⟩
  · split at hz
    · cases hz
      rw [rx.str, ry.str]
      exact .inr (.inl ⟨_, _, rfl, rfl, by assumption, b.val q (.str _)⟩)
    · cases hz
  · rename_i a1 b1
    split at hz
    · rename_i hl
      cases hz
      obtain ⟨p1, xs, rfl, h1, h2⟩ := rx.tup
      obtain ⟨p2, ys, rfl, h3, h4⟩ := ry.tup
      refine .inr (.inr (.inl ⟨p1, p2, xs, ys, rfl, rfl, sqT_mono b.sub h1, sqT_mono b.sub h3, by rw [h2.len, h4.len]; exact hl, fun e => ?_, fun _ e => ?_, fun _ _ p hp => ?_⟩))
      · subst e
        have : a1 = [] := List.eq_nil_of_length_eq_zero h2.len.symm
        subst this
        exact b.val q (.tup h3 h4)
      · subst e
        have : b1 = [] := List.eq_nil_of_length_eq_zero h4.len.symm
        subst this
        rw [List.append_nil] at q
        exact b.val q (.tup h1 h2)
      · exact b.tuple hp q (h2.append h4)
    · cases hz
  · split at hz
    · rename_i hl
      cases hz
      obtain ⟨p1, xs, rfl, h1, h2⟩ := rx.lst
      obtain ⟨p2, ys, rfl, h3, h4⟩ := ry.lst
      exact .inr (.inr (.inr ⟨p1, p2, xs, ys, rfl, rfl, b.sub _ _ h1, b.sub _ _ h3, by rw [h2.len, h4.len]; exact hl, fun p hp => b.list hp q (h2.append h4)⟩))
    · cases hz
  · cases hz
def opSub : S → PD → PD → Option PD := fun _ d e => match d, e with
  | .int i, .int j => some (.int (i - j))
  | _, _ => none
theorem subRef {K : PySem.W.Frag} : OpRef K (rI0 fun i j => .int (i - j)) opSub := by
  intro sa F H st x y d e z Q b rx ry hz q
  unfold opSub at hz
  split at hz
  · cases hz
    rw [rx.int, ry.int]
    exact ⟨_, _, rfl, rfl, b.val q (.int _)⟩
  · cases hz
/-- text * int -/
def rMulS : R2 := fun x y H Q => ∃ a n, x = .str a ∧ y = .int n ∧ MulOk a n ∧ Q (.str (Txt.mul a n)) H
theorem op_mulS {X : Cx} : OpR X (binaryOp .Mult) rMulS := by
  intro pins s σ H x y v u Q I rx ry h
  obtain ⟨a, n, rfl, rfl, hk, q⟩ := h
  obtain ⟨t, rfl⟩ := rx
  obtain ⟨t', rfl⟩ := ry
  exact SB.mul hk fun t' k => ⟨.str _, H, I.kept (h' := s.heap) (fun b o e => e), ⟨_, rfl⟩, q⟩
/-- small factors of a text, of a list -/
def smallRep (n : Nat) (k : Int) : Bool := decide (0 ≤ k) && decide (k ≤ 1000000) && decide (n * k.toNat ≤ 1000000)
theorem mulOk_of {a : Str} {n : Int} (h : smallRep a.length n = true) : MulOk a n := by
  unfold smallRep at h
  rw [Bool.and_eq_true, Bool.and_eq_true] at h
  have h0 := of_decide_eq_true h.1.1
  have h1 := of_decide_eq_true h.1.2
  have h2 := of_decide_eq_true h.2
  refine ⟨?_, fun h3 _ h4 => ?_, fun _ _ => ?_⟩
  · rw [Bool.or_eq_false_iff]
    exact ⟨decide_eq_false (by omega), decide_eq_false (by omega)⟩
  · have h5 : (a.length : Int) * n ≤ 1000000 := by
      have e : n = (n.toNat : Int) := by omega
      rw [e, ← Int.natCast_mul]
      omega
    have h6 : (a.length : Int) ≤ (2 ^ 63 - 1) / n := (Int.le_ediv_iff_mul_le (by omega)).mpr (Int.le_trans h5 (by decide))
    omega
  · unfold Builtin.Str.tooLong
    refine decide_eq_false ?_
    rw [sizeLine_eq]
    omega
def opMul : S → PD → PD → Option PD := fun _ d e => match d, e with
  | .int i, .int j => if i.natAbs.log2 + j.natAbs.log2 < 1000000 then some (.int (i * j)) else none
  | .str a, .int n => if smallRep a.length n = true then some (.str (Txt.mul a n)) else none
  | .list a, .int n => if smallRep a.length n = true then some (.list (List.replicate n.toNat a).flatten) else none
  | _, _ => none
def rMulD : R2 := fun x y H Q => (rI CMulW fun i j => .int (i * j)) x y H Q ∨ rMulS x y H Q ∨ rRep x y H Q
theorem op_mulD {X : Cx} : OpR X (binaryOp .Mult) rMulD := op_mulW.or (op_mulS.or op_rep)
theorem DVs.flat {K : PySem.W.Frag} {F : Hp} {vs : List V} {ds : List PD} (h : DVs K F vs ds) : ∀ n : Nat, DVs K F (List.replicate n vs).flatten (List.replicate n ds).flatten
  | 0 => .nil
  | n + 1 => by
    rw [List.replicate_succ, List.replicate_succ, List.flatten_cons, List.flatten_cons]
    exact h.append (DVs.flat h n)
theorem mulRef {K : PySem.W.Frag} : OpRef K rMulD opMul := by
  intro sa F H st x y d e z Q b rx ry hz q
  unfold opMul at hz
  split at hz
  · split at hz
    · rename_i hl
      cases hz
      rw [rx.int, ry.int]
      exact .inl ⟨_, _, rfl, rfl, hl, b.val q (.int _)⟩
    · cases hz
  · split at hz
    · rename_i hl
      cases hz
      rw [rx.str, ry.int]
      exact .inr (.inl ⟨_, _, rfl, rfl, mulOk_of hl, b.val q (.str _)⟩)
    · cases hz
  · split at hz
    · rename_i hl
      cases hz
      obtain ⟨p1, xs, rfl, h1, h2⟩ := rx.lst
      unfold smallRep at hl
      rw [Bool.and_eq_true, Bool.and_eq_true] at hl
      have l0 := of_decide_eq_true hl.1.1
      have l1 := of_decide_eq_true hl.1.2
      have l2 := of_decide_eq_true hl.2
      rw [ry.int]
      exact .inr (.inr ⟨p1, _, xs, rfl, rfl, b.sub _ _ h1, by omega, by omega, by rw [h2.len, sizeLine_eq]; omega, fun p hp => b.list hp q (h2.flat _)⟩)
    · cases hz
  · cases hz
def opDiv : S → PD → PD → Option PD := fun _ d e => match d, e with
  | .int i, .int j => if j ≠ 0 ∧ (j.natAbs < 1073741824 ∨ (0 < j ∧ j.natAbs.log2 < 9000)) then some (.int (i.fdiv j)) else none
  | _, _ => none
def rDivD : R2 := fun x y H Q => (rI CDivN fun i j => .int (i.fdiv j)) x y H Q ∨ (rI CDivW fun i j => .int (i / j)) x y H Q
theorem op_divD {X : Cx} : OpR X (binaryOp .FloorDiv) rDivD := op_fdivN.or op_fdivW
theorem divRef {K : PySem.W.Frag} : OpRef K rDivD opDiv := by
  intro sa F H st x y d e z Q b rx ry hz q
  unfold opDiv at hz
  split at hz
  · split at hz
    · rename_i i j hl
      cases hz
      rw [rx.int, ry.int]
      rcases hl.2 with h | h
      · exact .inl ⟨_, _, rfl, rfl, ⟨hl.1, h⟩, b.val q (.int _)⟩
      · refine .inr ⟨_, _, rfl, rfl, h, ?_⟩
        show Q (.int (i / j)) H
        rw [← Int.fdiv_eq_ediv_of_nonneg i (Int.le_of_lt h.1)]
        exact b.val q (.int _)
    · cases hz
  · cases hz
def opMod : S → PD → PD → Option PD := fun _ d e => match d, e with
  | .int i, .int j => if j ≠ 0 then some (.int (i.fmod j)) else none
  | _, _ => none
theorem modRef {K : PySem.W.Frag} : OpRef K (rI (fun _ j => j ≠ 0) fun i j => .int (i.fmod j)) opMod := by
  intro sa F H st x y d e z Q b rx ry hz q
  unfold opMod at hz
  split at hz
  · split at hz
    · rename_i hl
      cases hz
      rw [rx.int, ry.int]
      exact ⟨_, _, rfl, rfl, hl, b.val q (.int _)⟩
    · cases hz
  · cases hz
def opPow : S → PD → PD → Option PD := fun _ d e => match d, e with
  | .int i, .int j => if 0 ≤ j ∧ j ≤ 1000000 ∧ i.natAbs < 2 ^ 64 then some (.int (i ^ j.toNat)) else none
  | _, _ => none
theorem powRef {K : PySem.W.Frag} : OpRef K (rI CPow fun i j => .int (i ^ j.toNat)) opPow := by
  intro sa F H st x y d e z Q b rx ry hz q
  unfold opPow at hz
  split at hz
  · split at hz
    · rename_i hl
      cases hz
      rw [rx.int, ry.int]
      exact ⟨_, _, rfl, rfl, hl, b.val q (.int _)⟩
    · cases hz
  · cases hz
def opNeg : S → PD → Option PD := fun _ d => match d with
  | .int i => some (.int (-i))
  | _ => none
theorem negRef {K : PySem.W.Frag} : UnRef K (rU fun i => .int (-i)) opNeg := by
  intro sa F H st x d z Q b rx hz q
  unfold opNeg at hz
  split at hz
  · cases hz
    rw [rx.int]
    exact ⟨_, rfl, b.val q (.int _)⟩
  · cases hz

/-! #### comparisons -/
def opEq : S → PD → PD → Option PD := fun _ d e => if SeqAt.shaped d = true ∧ SeqAt.shaped e = true then some (.bool (PyData.eqv d e)) else none
theorem eqRef {K : PySem.W.Frag} : OpRef K (rEqD K) opEq := by
  intro sa F H st x y d e z Q b rx ry hz q
  unfold opEq at hz
  split at hz
  · rename_i hl
    cases hz
    exact ⟨d, e, ((rx.dv hl.1).mono b.sub).dp, ((ry.dv hl.2).mono b.sub).dp, hl.1, hl.2, b.val q (.bl _)⟩
  · cases hz
def opNe : S → PD → PD → Option PD := fun _ d e => if SeqAt.shaped d = true ∧ SeqAt.shaped e = true then some (.bool (!PyData.eqv d e)) else none
theorem neRef {K : PySem.W.Frag} : OpRef K (rNeD K) opNe := by
  intro sa F H st x y d e z Q b rx ry hz q
  unfold opNe at hz
  split at hz
  · rename_i hl
    cases hz
    exact ⟨d, e, ((rx.dv hl.1).mono b.sub).dp, ((ry.dv hl.2).mono b.sub).dp, hl.1, hl.2, b.val q (.bl _)⟩
  · cases hz
def opCmp (g : Int → Int → Bool) : S → PD → PD → Option PD := fun _ d e => match d, e with
  | .int i, .int j => some (.bool (g i j))
  | _, _ => none
theorem cmpRef {K : PySem.W.Frag} {g : Int → Int → Bool} : OpRef K (rI0 fun i j => .bl (g i j)) (opCmp g) := by
  intro sa F H st x y d e z Q b rx ry hz q
  unfold opCmp at hz
  split at hz
  · cases hz
    rw [rx.int, ry.int]
    exact ⟨_, _, rfl, rfl, b.val q (.bl _)⟩
  · cases hz
abbrev opLt := opCmp fun i j => decide (i < j)
abbrev opLe := opCmp fun i j => decide (i ≤ j)
abbrev opGt := opCmp fun i j => decide (j < i)
abbrev opGe := opCmp fun i j => decide (j ≤ i)
def isNon : PD → Bool
  | .none => true
  | _ => false
/-- is, is not: of None, of two bools -/
def opIs (neg : Bool) : S → PD → PD → Option PD := fun _ d e => match d, e with
  | .bool a, .bool b => some (.bool (if neg then !decide (a = b) else decide (a = b)))
  | d, .none => if isD d then some (.bool (if neg then !isNon d else isNon d)) else none
  | _, _ => none
def rIs : R2 := fun x y H Q => (y = .non ∧ Q (.bl (decide (x = .non))) H) ∨ (∃ a b : Bool, x = .bl a ∧ y = .bl b ∧ Q (.bl (decide (a = b))) H)
def rIsNt : R2 := fun x y H Q => (y = .non ∧ Q (.bl (!decide (x = .non))) H) ∨ (∃ a b : Bool, x = .bl a ∧ y = .bl b ∧ Q (.bl (!decide (a = b))) H)
theorem op_isD {X : Cx} : OpR X (compareOp .Is) rIs := op_isN.or op_isBl
theorem op_isNtD {X : Cx} : OpR X (compareOp .IsNot) rIsNt := op_notN.or op_notBl
theorem DV.isNon {K : PySem.W.Frag} {F : Hp} {x : V} {d : PD} (h : DV K F x d) : decide (x = V.non) = DL.isNon d := by
  cases h <;> first | rfl | simp [DL.isNon]
theorem isRef {K : PySem.W.Frag} : OpRef K rIs (opIs false) := by
  intro sa F H st x y d e z Q b rx ry hz q
  unfold opIs at hz
  split at hz
  · cases hz
    rw [rx.bl, ry.bl]
    exact .inr ⟨_, _, rfl, rfl, b.val q (.bl _)⟩
  · split at hz
    · rename_i h
      cases hz
      refine .inl ⟨ry.non, ?_⟩
      rw [(rx.dv' h).isNon]
      exact b.val q (.bl _)
    · cases hz
  · cases hz
theorem isNtRef {K : PySem.W.Frag} : OpRef K rIsNt (opIs true) := by
  intro sa F H st x y d e z Q b rx ry hz q
  unfold opIs at hz
  split at hz
  · cases hz
    rw [rx.bl, ry.bl]
    exact .inr ⟨_, _, rfl, rfl, b.val q (.bl _)⟩
  · split at hz
    · rename_i h
      cases hz
      refine .inl ⟨ry.non, ?_⟩
      rw [(rx.dv' h).isNon]
      exact b.val q (.bl _)
    · cases hz
  · cases hz
/-! #### in -/
def flatD : PD → Bool
  | .none => true
  | .bool _ => true
  | .int _ => true
  | .str _ => true
  | _ => false
def opIn (neg : Bool) : S → PD → PD → Option PD := fun _ d e => match e with
  | .list ds => if SeqAt.shaped d = true ∧ SeqAt.shaped (.list ds) = true then some (.bool (if neg then !ds.any fun z => PyData.eqv z d else ds.any fun z => PyData.eqv z d)) else none
  | .tuple ds => if flatD d = true ∧ ds.all flatD = true then some (.bool (if neg then !ds.any fun z => PyData.eqv z d else ds.any fun z => PyData.eqv z d)) else none
  | _ => none
def rInT (K : PySem.W.Frag) : R2 := fun x y H Q => rInD K x y H Q ∨ rIn K false x y H Q
def rNotInT (K : PySem.W.Frag) : R2 := fun x y H Q => rNotInD K x y H Q ∨ rIn K true x y H Q
theorem op_inT {X : Cx} (hu : X.A.units + 65 < cLine) : OpR X (compareOp .In) (rInT X.K) := (op_inD hu).or op_in_seq
theorem op_notInT {X : Cx} (hu : X.A.units + 65 < cLine) : OpR X (compareOp .NotIn) (rNotInT X.K) := (op_notInD hu).or op_notIn_seq
theorem DV.flat {K : PySem.W.Frag} {F : Hp} {x : V} {d : PD} (h : DV K F x d) (hf : flatD d = true) : flatV x = true := by
  cases h <;> first | rfl | cases hf
theorem DV.eqV {K : PySem.W.Frag} {F : Hp} {x y : V} {d e : PD} (h : DV K F x d) (h' : DV K F y e) (hf : flatD d = true) (hf' : flatD e = true) : L2.eqV x y = PyData.eqv d e := by
  cases h <;> first | (cases h' <;> first | rfl | cases hf') | cases hf
theorem DVs.flatAll {K : PySem.W.Frag} {F : Hp} : ∀ {xs : List V} {ds : List PD}, DVs K F xs ds → ds.all flatD = true → xs.all flatV = true
  | _, [], h, _ => by cases h; rfl
  | _, d :: ds, h, hf => by
    cases h with
    | cons h1 h2 =>
      rw [List.all_cons, Bool.and_eq_true] at hf
      rw [List.all_cons, Bool.and_eq_true]
      exact ⟨h1.flat hf.1, DVs.flatAll h2 hf.2⟩
theorem DVs.inV {K : PySem.W.Frag} {F : Hp} {y : V} {e : PD} (hy : DV K F y e) (fe : flatD e = true) : ∀ {xs : List V} {ds : List PD}, DVs K F xs ds → ds.all flatD = true → L2.inV y xs = ds.any fun z => PyData.eqv z e
  | _, [], h, _ => by cases h; rfl
  | _, d :: ds, h, hf => by
    cases h with
    | cons h1 h2 =>
      rw [List.all_cons, Bool.and_eq_true] at hf
      unfold L2.inV
      rw [List.any_cons, List.any_cons, h1.eqV hy hf.1 fe]
      exact congrArg _ (DVs.inV hy fe h2 hf.2)
theorem inRef {K : PySem.W.Frag} : OpRef K (rInT K) (opIn false) := by
  intro sa F H st x y d e z Q b rx ry hz q
  unfold opIn at hz
  split at hz
  · split at hz
    · rename_i hl
      cases hz
      exact .inl ⟨d, _, ((rx.dv hl.1).mono b.sub).dp, ((ry.dv hl.2).mono b.sub).dp, hl.1, hl.2, b.val q (.bl _)⟩
    · cases hz
  · split at hz
    · rename_i hl
      cases hz
      obtain ⟨p, xs, rfl, h1, h2⟩ := ry.tup
      have hx : DV K F x d := rx.dv' (by have := hl.1; cases d <;> first | rfl | cases this)
      refine .inr ⟨p, xs, rfl, .inr (sqT_mono b.sub h1), hx.flat hl.1, h2.flatAll hl.2, ?_⟩
      show Q (.bl (L2.inV x xs)) H
      rw [DVs.inV hx hl.1 h2 hl.2]
      exact b.val q (.bl _)
    · cases hz
  · cases hz
theorem notInRef {K : PySem.W.Frag} : OpRef K (rNotInT K) (opIn true) := by
  intro sa F H st x y d e z Q b rx ry hz q
  unfold opIn at hz
  split at hz
  · split at hz
    · rename_i hl
      cases hz
      exact .inl ⟨d, _, ((rx.dv hl.1).mono b.sub).dp, ((ry.dv hl.2).mono b.sub).dp, hl.1, hl.2, b.val q (.bl _)⟩
    · cases hz
  · split at hz
    · rename_i hl
      cases hz
      obtain ⟨p, xs, rfl, h1, h2⟩ := ry.tup
      have hx : DV K F x d := rx.dv' (by have := hl.1; cases d <;> first | rfl | cases this)
      refine .inr ⟨p, xs, rfl, .inr (sqT_mono b.sub h1), hx.flat hl.1, h2.flatAll hl.2, ?_⟩
      show Q (.bl (!L2.inV x xs)) H
      rw [DVs.inV hx hl.1 h2 hl.2]
      exact b.val q (.bl _)
    · cases hz
  · cases hz

/-! #### subscripts -/
theorem DVs.atI {K : PySem.W.Frag} {F : Hp} {xs : List V} {ds : List PD} {i : Int} {d : PD} (h : DVs K F xs ds) (e : L2.atI ds i = some d) : ∃ v, L2.atI xs i = some v ∧ DV K F v d := by
  unfold L2.atI at e ⊢
  rw [h.len]
  cases q : ixN ds.length i with
  | none => rw [q] at e; cases e
  | some j =>
    rw [q] at e
    obtain ⟨v, e1, e2⟩ := h.get (i := j) e
    exact ⟨v, e1, e2⟩
/-- a field of the law's state -/
def stAt (st : S) (i : Int) : Option PD :=
  if i = 0 then some (.list (st.cells.map .int)) else if i = 1 then some (.int st.pos) else if i = 2 then some (.int st.cell) else if i = 3 then some (.int st.left) else if i = 4 then some (.bool st.big) else none
def opIx : S → PD → PD → Option PD := fun st d e => match d, e with
  | .list ds, .int i => L2.atI ds i
  | .tuple ds, .int i => L2.atI ds i
  | .str z, .int i => if z.length ≤ sizeLine then (L2.atI z.cps.toList i).map fun c => .str ⟨#[c]⟩ else none
  | .dict [], .int i => stAt st i
  | _, _ => none
theorem ixRef {K : PySem.W.Frag} : OpRef K (rIx K) opIx := by
  intro sa F H st x y d e z Q b rx ry hz q
  unfold opIx at hz
  split at hz
  · obtain ⟨p, xs, rfl, h1, h2⟩ := rx.lst
    rw [ry.int]
    obtain ⟨v, e1, e2⟩ := h2.atI hz
    exact .inl ⟨p, xs, _, v, rfl, rfl, SqL.of (b.sub _ _ h1), e1, b.val q e2⟩
  · obtain ⟨p, xs, rfl, h1, h2⟩ := rx.tup
    rw [ry.int]
    obtain ⟨v, e1, e2⟩ := h2.atI hz
    exact .inr (.inl ⟨p, xs, _, v, rfl, rfl, sqT_mono b.sub h1, e1, b.val q e2⟩)
  · split at hz
    · rename_i z0 i hl
      rw [rx.str, ry.int]
      cases e : L2.atI z0.cps.toList i with
      | none => rw [e] at hz; cases hz
      | some c =>
        rw [e] at hz
        cases hz
        exact .inr (.inr ⟨_, _, c, rfl, rfl, hl, e, b.val q (.str _)⟩)
    · cases hz
  · rename_i i
    rw [rx.stt, ry.int]
    obtain ⟨sc, e1, e2⟩ := b.sr
    unfold stAt at hz
    have go : ∀ (j : Nat) v d, (stV sc st)[j]? = some v → DV K F v d → some d = some z → i = j → rIx K (V.ref sa) (V.int i) H Q := fun j v d h1 h2 h3 h4 => by
      cases h3
      subst h4
      exact .inl ⟨sa, _, _, v, rfl, rfl, SqL.of e1, atI_nat h1, b.val q h2⟩
    split at hz
    · exact go 0 _ _ rfl (.lst e2 DVs.of_ints) hz (by assumption)
    · split at hz
      · exact go 1 _ _ rfl (.int _) hz (by assumption)
      · split at hz
        · exact go 2 _ _ rfl (.int _) hz (by assumption)
        · split at hz
          · exact go 3 _ _ rfl (.int _) hz (by assumption)
          · split at hz
            · exact go 4 _ _ rfl (.bl _) hz (by assumption)
            · cases hz
  · cases hz
section
variable {X : Cx} {K : PySem.W.Frag} {mg : Str → Option Value} {W : WX} {a b : Expr} {ta tb : TE} {fa fb : Env → M PD} {pos : Pos}
theorem de_add (ha : DE X K mg W a ta fa) (hb : DE X K mg W b tb fb) (ok : OkX X K mg := by exact ⟨rfl, rfl⟩) : DE X K mg W (.BinOp a .Add b pos) (tOp (rAddD K) ta tb) (e2 opAdd fa fb) := by
  obtain ⟨rfl, rfl⟩ := ok
  exact ⟨pe_op op_addD ha.pe hb.pe, ref_op addRef ha.rf hb.rf⟩
theorem de_sub (ha : DE X K mg W a ta fa) (hb : DE X K mg W b tb fb) (ok : OkX X K mg := by exact ⟨rfl, rfl⟩) : DE X K mg W (.BinOp a .Sub b pos) (tOp (rI0 fun i j => .int (i - j)) ta tb) (e2 opSub fa fb) := by
  obtain ⟨rfl, rfl⟩ := ok
  exact ⟨pe_op op_sub ha.pe hb.pe, ref_op subRef ha.rf hb.rf⟩
theorem de_mul (ha : DE X K mg W a ta fa) (hb : DE X K mg W b tb fb) (ok : OkX X K mg := by exact ⟨rfl, rfl⟩) : DE X K mg W (.BinOp a .Mult b pos) (tOp rMulD ta tb) (e2 opMul fa fb) := by
  obtain ⟨rfl, rfl⟩ := ok
  exact ⟨pe_op op_mulD ha.pe hb.pe, ref_op mulRef ha.rf hb.rf⟩
theorem de_div (ha : DE X K mg W a ta fa) (hb : DE X K mg W b tb fb) (ok : OkX X K mg := by exact ⟨rfl, rfl⟩) : DE X K mg W (.BinOp a .FloorDiv b pos) (tOp rDivD ta tb) (e2 opDiv fa fb) := by
  obtain ⟨rfl, rfl⟩ := ok
  exact ⟨pe_op op_divD ha.pe hb.pe, ref_op divRef ha.rf hb.rf⟩
theorem de_mod (ha : DE X K mg W a ta fa) (hb : DE X K mg W b tb fb) (ok : OkX X K mg := by exact ⟨rfl, rfl⟩) : DE X K mg W (.BinOp a .Mod b pos) (tOp (rI (fun _ j => j ≠ 0) fun i j => .int (i.fmod j)) ta tb) (e2 opMod fa fb) := by
  obtain ⟨rfl, rfl⟩ := ok
  exact ⟨pe_op op_modN ha.pe hb.pe, ref_op modRef ha.rf hb.rf⟩
theorem de_pow (ha : DE X K mg W a ta fa) (hb : DE X K mg W b tb fb) (ok : OkX X K mg := by exact ⟨rfl, rfl⟩) : DE X K mg W (.BinOp a .Pow b pos) (tOp (rI CPow fun i j => .int (i ^ j.toNat)) ta tb) (e2 opPow fa fb) := by
  obtain ⟨rfl, rfl⟩ := ok
  exact ⟨pe_op op_pow ha.pe hb.pe, ref_op powRef ha.rf hb.rf⟩
theorem de_neg (ha : DE X K mg W a ta fa) (ok : OkX X K mg := by exact ⟨rfl, rfl⟩) : DE X K mg W (.UnaryOp .USub a pos) (tUn (rU fun i => .int (-i)) ta) (e1 opNeg fa) := by
  obtain ⟨rfl, rfl⟩ := ok
  exact ⟨pe_un un_neg ha.pe, ref_un negRef ha.rf⟩
theorem de_cmp {op : CmpOp} {r : R2} {dop : S → PD → PD → Option PD} (ho : OpR X (compareOp op) r ∧ OpRef K r dop) (ha : DE X K mg W a ta fa) (hb : DE X K mg W b tb fb) (hm : behindInMarks op b = false) (ok : OkX X K mg := by exact ⟨rfl, rfl⟩) : DE X K mg W (.Compare a [op] [b] pos) (tOp r ta tb) (e2 dop fa fb) := by
  obtain ⟨rfl, rfl⟩ := ok
  exact ⟨pe_cmpR ho.1 ha.pe hb.pe hm, ref_op ho.2 ha.rf hb.rf⟩
theorem c_eq {k : Nat} (hr : Room k X.A) (ok : OkX X K mg := by exact ⟨rfl, rfl⟩) : OpR X (compareOp .Eq) (rEqD K) ∧ OpRef K (rEqD K) opEq := by
  obtain ⟨rfl, rfl⟩ := ok
  exact ⟨op_eqD hr.units, eqRef⟩
theorem c_ne {k : Nat} (hr : Room k X.A) (ok : OkX X K mg := by exact ⟨rfl, rfl⟩) : OpR X (compareOp .NotEq) (rNeD K) ∧ OpRef K (rNeD K) opNe := by
  obtain ⟨rfl, rfl⟩ := ok
  exact ⟨op_neD hr.units, neRef⟩
theorem c_lt (ok : OkX X K mg := by exact ⟨rfl, rfl⟩) : OpR X (compareOp .Lt) (rI0 fun i j => .bl (decide (i < j))) ∧ OpRef K (rI0 fun i j => .bl (decide (i < j))) opLt := by
  obtain ⟨rfl, rfl⟩ := ok
  exact ⟨op_lt, cmpRef⟩
theorem c_le (ok : OkX X K mg := by exact ⟨rfl, rfl⟩) : OpR X (compareOp .LtE) (rI0 fun i j => .bl (decide (i ≤ j))) ∧ OpRef K (rI0 fun i j => .bl (decide (i ≤ j))) opLe := by
  obtain ⟨rfl, rfl⟩ := ok
  exact ⟨op_le, cmpRef⟩
theorem c_gt (ok : OkX X K mg := by exact ⟨rfl, rfl⟩) : OpR X (compareOp .Gt) (rI0 fun i j => .bl (decide (j < i))) ∧ OpRef K (rI0 fun i j => .bl (decide (j < i))) opGt := by
  obtain ⟨rfl, rfl⟩ := ok
  exact ⟨op_gt, cmpRef⟩
theorem c_ge (ok : OkX X K mg := by exact ⟨rfl, rfl⟩) : OpR X (compareOp .GtE) (rI0 fun i j => .bl (decide (j ≤ i))) ∧ OpRef K (rI0 fun i j => .bl (decide (j ≤ i))) opGe := by
  obtain ⟨rfl, rfl⟩ := ok
  exact ⟨op_ge, cmpRef⟩
theorem c_is (ok : OkX X K mg := by exact ⟨rfl, rfl⟩) : OpR X (compareOp .Is) rIs ∧ OpRef K rIs (opIs false) := by
  obtain ⟨rfl, rfl⟩ := ok
  exact ⟨op_isD, isRef⟩
theorem c_isNt (ok : OkX X K mg := by exact ⟨rfl, rfl⟩) : OpR X (compareOp .IsNot) rIsNt ∧ OpRef K rIsNt (opIs true) := by
  obtain ⟨rfl, rfl⟩ := ok
  exact ⟨op_isNtD, isNtRef⟩
theorem room65 {k : Nat} {A : Around} (hr : Room k A) : A.units + 65 < cLine := by have := hr.un; omega
theorem c_in {k : Nat} (hr : Room k X.A) (ok : OkX X K mg := by exact ⟨rfl, rfl⟩) : OpR X (compareOp .In) (rInT K) ∧ OpRef K (rInT K) (opIn false) := by
  obtain ⟨rfl, rfl⟩ := ok
  exact ⟨op_inT (room65 hr), inRef⟩
theorem c_notIn {k : Nat} (hr : Room k X.A) (ok : OkX X K mg := by exact ⟨rfl, rfl⟩) : OpR X (compareOp .NotIn) (rNotInT K) ∧ OpRef K (rNotInT K) (opIn true) := by
  obtain ⟨rfl, rfl⟩ := ok
  exact ⟨op_notInT (room65 hr), notInRef⟩
theorem de_ix (ha : DE X K mg W a ta fa) (hb : DE X K mg W b tb fb) (hs : PlainIx b) (ok : OkX X K mg := by exact ⟨rfl, rfl⟩) : DE X K mg W (.Subscript a b pos) (tOp (rIx K) ta tb) (e2 opIx fa fb) := by
  obtain ⟨rfl, rfl⟩ := ok
  exact ⟨pe_ix ix_seq ha.pe hb.pe hs, ref_op ixRef ha.rf hb.rf⟩
end
end DL
/-! DL3: displays, calls, built-ins, tests, comprehensions. -/
namespace DL
open PySem PySem.Spec PyProof.Rows L2

/-! ### what is read: a datum, or a list that is still one's own -/
def RP (K : PySem.W.Frag) (sa : Addr) (F H : Hp) (v : V) (d : PD) : Prop := (∃ a vs xs, v = .ref a ∧ d = .list xs ∧ a ≠ sa ∧ H a = some (.lst vs) ∧ DVs K F vs xs) ∨ RD K sa F v d
abbrev rP (K : PySem.W.Frag) : Addr → Hp → Hp → Hp → V → PD → Prop := fun sa _ F' H' v d => RP K sa F' H' v d
theorem mono_P {K : PySem.W.Frag} : Mono (rP K) := fun _ _ _ _ _ _ _ _ _ _ _ _ h => h
theorem RP.step {K : PySem.W.Frag} {sa : Addr} {F H F' H' : Hp} {st' : S} {v : V} {d : PD} (p : Stp sa F H F' H' st') (h : RP K sa F H v d) : RP K sa F' H' v d := by
  rcases h with ⟨a, vs, xs, e1, e2, e3, e4, e5⟩ | h
  · exact .inl ⟨a, vs, xs, e1, e2, e3, p.pr _ _ e4 e3, e5.mono p.fm⟩
  · exact .inr (h.mono p.fm)
theorem RP.int {K : PySem.W.Frag} {sa : Addr} {F H : Hp} {v : V} {i : Int} (h : RP K sa F H v (.int i)) : v = .int i := by
  rcases h with ⟨_, _, _, _, e, _⟩ | h
  · cases e
  · exact h.int
theorem RP.bl {K : PySem.W.Frag} {sa : Addr} {F H : Hp} {v : V} {i : Bool} (h : RP K sa F H v (.bool i)) : v = .bl i := by
  rcases h with ⟨_, _, _, _, e, _⟩ | h
  · cases e
  · exact h.bl
theorem RP.str {K : PySem.W.Frag} {sa : Addr} {F H : Hp} {v : V} {i : Str} (h : RP K sa F H v (.str i)) : v = .str i := by
  rcases h with ⟨_, _, _, _, e, _⟩ | h
  · cases e
  · exact h.str
theorem RP.tup {K : PySem.W.Frag} {sa : Addr} {F H : Hp} {v : V} {ds : List PD} (h : RP K sa F H v (.tuple ds)) : ∃ a xs, v = .ref a ∧ SqT K F a xs ∧ DVs K F xs ds := by
  rcases h with ⟨_, _, _, _, e, _⟩ | h
  · cases e
  · exact h.tup
theorem RP.lst {K : PySem.W.Frag} {sa : Addr} {F H : Hp} {st : S} {v : V} {ds : List PD} (b : Bs sa F H st) (h : RP K sa F H v (.list ds)) : ∃ a xs, v = .ref a ∧ H a = some (.lst xs) ∧ DVs K F xs ds := by
  rcases h with ⟨a, vs, xs, e1, e2, e3, e4, e5⟩ | h
  · cases e2; exact ⟨a, vs, e1, e4, e5⟩
  · obtain ⟨a, xs, e1, e2, e3⟩ := h.lst
    exact ⟨a, xs, e1, b.sub _ _ e2, e3⟩
structure DP (X : Cx) (K : PySem.W.Frag) (mg : Str → Option Value) (W : WX) (e : Expr) (t : TE) (f : Env → M PD) : Prop where
  pe : PE X e t
  rf : Ref K mg W (rP K) t f
def ePk (i : Nat) : Env → M PD := fun env st => match env[i]? with
  | some (some (.v d)) => .ok d st
  | some (some (.o xs)) => .ok (.list xs) st
  | _ => .bad
section
variable {X : Cx} {K : PySem.W.Frag} {mg : Str → Option Value} {W : WX}
theorem dp_of {e : Expr} {t : TE} {f : Env → M PD} (h : DE X K mg W e t f) (ok : OkX X K mg := by exact ⟨rfl, rfl⟩) : DP X K mg W e t f := by
  obtain ⟨rfl, rfl⟩ := ok
  exact ⟨h.pe, fun sa F0 H0 F H σ env st Q s p => by
  refine h.rf sa F0 H0 F H σ env st Q s ?_
  cases q : f env st with
  | ok d st' => rw [q] at p; exact fun v F' H' p1 r => p v F' H' p1 (.inr r)
  | ex c st' => rw [q] at p; exact p
  | bad => rw [q] at p; exact p⟩
theorem dp_pk (i : Nat) {x : Str} {pos : Pos} (hN : X.N[i]? = some x := by rfl) (hv : Vis X.env.scope x := by first | exact Or.inl rfl | exact Or.inr (Or.inl rfl) | exact Or.inr (Or.inr rfl)) (hd : (x == ("__debug__" : Str)) = false := by decide)
    (hcd : (x == ("__classdict__" : Str)) = false := by decide) (ok : OkX X K mg := by exact ⟨rfl, rfl⟩) : DP X K mg W (.Name x pos) (tVar i) (ePk i) := by
  obtain ⟨rfl, rfl⟩ := ok
  exact ⟨pe_var hN hv hd hcd, fun sa F0 H0 F H σ env st Q s p => by
  unfold ePk at p
  split at p
  · rename_i d e
    obtain ⟨v, e1, r⟩ := s.vals i d e
    exact ⟨v, e1, p v F H s.bs.refl (.inr r)⟩
  · rename_i xs e
    obtain ⟨a, vs, e1, e2, e3, e4, r⟩ := s.own i xs e
    exact ⟨_, e1, p _ F H s.bs.refl (.inl ⟨a, vs, xs, rfl, rfl, s.ne e4, e2, r⟩)⟩
  · exact p.elim⟩
end
def OpRefP (K : PySem.W.Frag) (r : R2) (op : S → PD → PD → Option PD) : Prop := ∀ sa F H st x y d e z Q, Bs sa F H st → RP K sa F H x d → RP K sa F H y e → op st d e = some z →
  (∀ v F' H', Stp sa F H F' H' st → RD K sa F' v z → Q v H') → r x y H Q
theorem ref_opP {K : PySem.W.Frag} {mg : Str → Option Value} {W : WX} {ta tb : TE} {fa fb : Env → M PD} {r : R2} {op : S → PD → PD → Option PD} (ho : OpRefP K r op) (ha : Ref K mg W (rP K) ta fa) (hb : Ref K mg W (rP K) tb fb) : Ref K mg W (rE K) (tOp r ta tb) (e2 op fa fb) := fun sa F0 H0 F H σ env st Q s p => by
  refine Ref.bind (ta := ta) mono_E ha s p fun x F1 H1 d st1 p1 s1 r1 p => ?_
  refine Ref.bind (ta := tb) mono_E hb s1 p fun y F2 H2 e st2 p2 s2 r2 p => ?_
  cases hz : op st2 d e with
  | none => rw [hz] at p; exact p.elim
  | some z => rw [hz] at p; exact ho sa F2 H2 st2 x y d e z Q s2.bs (RP.step p2 r1) r2 hz p
theorem ixRefP {K : PySem.W.Frag} : OpRefP K (rIx K) opIx := by
  intro sa F H st x y d e z Q b rx ry hz q
  rcases rx with ⟨a, vs, xs, rfl, rfl, e3, e4, e5⟩ | rx
  · unfold opIx at hz
    split at hz
    · rename_i ds i e6
      cases e6
      rw [ry.int]
      obtain ⟨v, e1, e2⟩ := e5.atI hz
      exact .inl ⟨a, vs, _, v, rfl, rfl, SqL.of e4, e1, b.val q e2⟩
    all_goals first | (rename_i e6; cases e6; done) | (rename_i e6 _; cases e6; done) | cases hz
  · have ry' : ∀ i, e = .int i → RD K sa F y (.int i) := fun i ei => by subst ei; rw [ry.int]; exact .inl (.int i)
    unfold opIx at hz
    have hz' : opIx st d e = some z := hz
    cases e with
    | int i => exact ixRef sa F H st x y d _ z Q b rx (ry' i rfl) hz' q
    | _ => cases d <;> first | cases hz | (rename_i kv; cases kv <;> cases hz)
theorem de_ixP {X : Cx} {K : PySem.W.Frag} {mg : Str → Option Value} {W : WX} {a b : Expr} {ta tb : TE} {fa fb : Env → M PD} {pos : Pos} (ha : DP X K mg W a ta fa) (hb : DP X K mg W b tb fb) (hs : PlainIx b) (ok : OkX X K mg := by exact ⟨rfl, rfl⟩) : DE X K mg W (.Subscript a b pos) (tOp (rIx K) ta tb) (e2 opIx fa fb) := by
  obtain ⟨rfl, rfl⟩ := ok
  exact ⟨pe_ix ix_seq ha.pe hb.pe hs, ref_opP ixRefP ha.rf hb.rf⟩

/-! ### arguments, displays -/
def aNil : Env → M (List PD) := fun _ st => .ok [] st
def aCons (fa : Env → M PD) (fr : Env → M (List PD)) : Env → M (List PD) := fun env st => (fa env st).bind fun d s1 => (fr env s1).bind fun ds s2 => .ok (d :: ds) s2
inductive RPs (K : PySem.W.Frag) (sa : Addr) (F H : Hp) : List V → List PD → Prop
  | nil : RPs K sa F H [] []
  | cons {v : V} {vs : List V} {d : PD} {ds : List PD} : RP K sa F H v d → RPs K sa F H vs ds → RPs K sa F H (v :: vs) (d :: ds)
abbrev rAP (K : PySem.W.Frag) : Addr → Hp → Hp → Hp → List V → List PD → Prop := fun sa _ F' H' vs ds => RPs K sa F' H' vs ds
theorem mono_AP {K : PySem.W.Frag} : Mono (rAP K) := fun _ _ _ _ _ _ _ _ _ _ _ _ h => h
structure DAP (X : Cx) (K : PySem.W.Frag) (mg : Str → Option Value) (W : WX) (es : List Expr) (t : TA) (f : Env → M (List PD)) : Prop where
  pe : PA X es t
  rf : Ref K mg W (rAP K) t f
section
variable {X : Cx} {K : PySem.W.Frag} {mg : Str → Option Value} {W : WX} {e : Expr} {es : List Expr} {te : TE} {t : TA} {fa : Env → M PD} {fr : Env → M (List PD)} {pos : Pos}
theorem da_nil (ok : OkX X K mg := by exact ⟨rfl, rfl⟩) : DA X K mg W [] tNil aNil := by
  obtain ⟨rfl, rfl⟩ := ok
  exact ⟨pa_nil, fun sa F0 H0 F H σ env st Q s p => p [] F H s.bs.refl .nil⟩
theorem da_cons (ha : DE X K mg W e te fa) (hr : DA X K mg W es t fr) (hs : starEach (e :: es) X.env = (false, eval e X.env) :: starEach es X.env := by rfl) (ok : OkX X K mg := by exact ⟨rfl, rfl⟩) : DA X K mg W (e :: es) (tCons te t) (aCons fa fr) := by
  obtain ⟨rfl, rfl⟩ := ok
  exact ⟨pa_cons ha.pe hr.pe hs, fun sa F0 H0 F H σ env st Q s p => by
  refine Ref.bind (ta := te) mono_A ha.rf s p fun x F1 H1 d st1 p1 s1 r1 p => ?_
  refine Ref.bind (ta := t) mono_A hr.rf s1 p fun xs F2 H2 ds st2 p2 s2 r2 p => ?_
  exact p _ F2 H2 s2.bs.refl (.cons (r1.mono p2.fm) r2)⟩
theorem dap_nil (ok : OkX X K mg := by exact ⟨rfl, rfl⟩) : DAP X K mg W [] tNil aNil := by
  obtain ⟨rfl, rfl⟩ := ok
  exact ⟨pa_nil, fun sa F0 H0 F H σ env st Q s p => p [] F H s.bs.refl .nil⟩
theorem dap_cons (ha : DP X K mg W e te fa) (hr : DAP X K mg W es t fr) (hs : starEach (e :: es) X.env = (false, eval e X.env) :: starEach es X.env := by rfl) (ok : OkX X K mg := by exact ⟨rfl, rfl⟩) : DAP X K mg W (e :: es) (tCons te t) (aCons fa fr) := by
  obtain ⟨rfl, rfl⟩ := ok
  exact ⟨pa_cons ha.pe hr.pe hs, fun sa F0 H0 F H σ env st Q s p => by
  refine Ref.bind (ta := te) mono_AP ha.rf s p fun x F1 H1 d st1 p1 s1 r1 p => ?_
  refine Ref.bind (ta := t) mono_AP hr.rf s1 p fun xs F2 H2 ds st2 p2 s2 r2 p => ?_
  exact p _ F2 H2 s2.bs.refl (.cons (RP.step p2 r1) r2)⟩
theorem le_line {n : Nat} (h : n ≤ 10000) : n ≤ sizeLine := by rw [sizeLine_eq]; omega
def eTup (fa : Env → M (List PD)) : Env → M PD := fun env st => (fa env st).bind fun ds s => if (ds.all isD && decide (ds.length ≤ 10000)) = true then .ok (.tuple ds) s else .bad
theorem de_tup {x1} (h : DA X K mg W es t fr) (ok : OkX X K mg := by exact ⟨rfl, rfl⟩) : DE X K mg W (.Tuple es x1 pos) (tTup t) (eTup fr) := by
  obtain ⟨rfl, rfl⟩ := ok
  exact ⟨pe_tup h.pe, fun sa F0 H0 F H σ env st Q s p => by
  refine Ref.bind (ta := t) mono_E h.rf s p fun xs F1 H1 ds st1 p1 s1 r1 p => ?_
  split at p
  · rename_i c
    rw [Bool.and_eq_true] at c
    have hl := of_decide_eq_true c.2
    exact ⟨by rw [r1.len]; exact le_line hl, fun q hq => s1.bs.tuple hq p (r1.dvs c.1)⟩
  · exact p.elim⟩
def nLst (fa : Env → M (List PD)) : Env → M (List PD) := fun env st => (fa env st).bind fun ds s => if (ds.all isD && decide (ds.length ≤ 10000)) = true then .ok ds s else .bad
theorem dn_lst (h : DA X K mg W es t fr) (ok : OkX X K mg := by exact ⟨rfl, rfl⟩) : DN X K mg W (.List es pos) (tLst t) (nLst fr) := by
  obtain ⟨rfl, rfl⟩ := ok
  exact ⟨pe_lst h.pe, fun sa F0 H0 F H σ env st Q s p => by
  refine Ref.bind (ta := t) mono_N h.rf s p fun xs F1 H1 ds st1 p1 s1 r1 p => ?_
  split at p
  · rename_i c
    rw [Bool.and_eq_true] at c
    have hl := of_decide_eq_true c.2
    exact ⟨by rw [r1.len]; exact le_line hl, fun q hq => p _ _ _ (s1.bs.newU hq _) ⟨q, xs, rfl, upd_same, s1.bs.ff hq, hq, r1.dvs c.1⟩⟩
  · exact p.elim⟩
end
/-- a list of one's own, from now on frozen -/
theorem Stp.freeze {sa : Addr} {F H F' H' : Hp} {st' : S} {a : Addr} {o : HO} (p : Stp sa F H F' H' st') (e : H' a = some o) (f : F' a = none) (n : H a = none) (ne : a ≠ sa) : Stp sa F H (upd F' a o) H' st' where
  fm := fun b x h => same_upd f _ _ (p.fm b x h)
  fn := fun b hb hn => by
    by_cases z : b = a
    · subst z; exact n
    · rw [upd_ne z] at hn; exact p.fn b hb hn
  pr := p.pr
  bs := by
    refine ⟨fun b x h => ?_, ?_, ?_⟩
    · by_cases z : b = a
      · subst z; rw [upd_same] at h; cases h; exact e
      · rw [upd_ne z] at h; exact p.bs.sub b x h
    · rw [upd_ne ne.symm]; exact p.bs.fsa
    · obtain ⟨sc, e1, e2⟩ := p.bs.sr
      exact ⟨sc, e1, same_upd f _ _ e2⟩
def eL (f : Env → M (List PD)) : Env → M PD := fun env st => (f env st).bind fun xs s => .ok (.list xs) s
theorem de_n {X : Cx} {K : PySem.W.Frag} {mg : Str → Option Value} {W : WX} {e : Expr} {t : TE} {f : Env → M (List PD)} (h : DN X K mg W e t f) (ok : OkX X K mg := by exact ⟨rfl, rfl⟩) : DE X K mg W e t (eL f) := by
  obtain ⟨rfl, rfl⟩ := ok
  exact ⟨h.pe, fun sa F0 H0 F H σ env st Q s p => by
  refine h.rf sa F0 H0 F H σ env st Q s ?_
  unfold eL at p
  cases q : f env st with
  | ok xs st' =>
    rw [q] at p
    refine fun v F' H' p1 r1 => ?_
    obtain ⟨a, vs, rfl, e1, e2, e3, e4⟩ := r1
    have fz := p1.freeze e1 e2 e3 (s.bs.ne e3)
    exact p _ _ _ fz (.inl (.lst upd_same (e4.mono (same_upd e2))))
  | ex c st' => rw [q] at p; exact p
  | bad => rw [q] at p; exact p⟩

/-! ### calls of defs -/
def spD (K : PySem.W.Frag) (mg : Str → Option Value) (n : Nat) (f : List PD → M PD) : Sp := fun vs H Q E => ∃ sa F ds st, ds.length = n ∧ Bs sa F H st ∧ RDs K sa F vs ds ∧ Post mg (fun c d _ H' => E c d H') sa [] F H (rE K sa) (f ds st) Q
def callF (n : Nat) (f : List PD → M PD) (fa : Env → M (List PD)) : Env → M PD := fun env st => (fa env st).bind fun ds s => if ds.length = n then f ds s else .bad
/-- a def that may be called -/
structure Cal (P : Program) (w : World) (K : PySem.W.Frag) (mg : Str → Option Value) (base : Heap) (k : Nat) (x : Str) (ps : List Str) (m : List PD → M PD) : Prop where
  ex : ∃ f fd, FnOk P w K mg base (L2.CX P w) k f fd ps (spD K mg ps.length m) ∧ mg x = some (.ref f) ∧ PySem.W.keepIn K (.ref f) = true ∧ Binds K fd ps []
theorem Cal.mono {P : Program} {w : World} {K : PySem.W.Frag} {mg : Str → Option Value} {base : Heap} {j k : Nat} {x : Str} {ps : List Str} {m : List PD → M PD} (C : Cal P w K mg base j x ps m) (h : j ≤ k) : Cal P w K mg base k x ps m := by
  obtain ⟨f, fd, h1, h2⟩ := C.ex
  exact ⟨f, fd, h1.mono h, h2⟩
section
variable {X : Cx} {K : PySem.W.Frag} {mg : Str → Option Value} {W : WX} {k : Nat} {x : Str} {ps : List Str} {m : List PD → M PD} {e : Expr} {es : List Expr} {t : TA} {fa : Env → M (List PD)} {p pos : Pos}
theorem de_call {n : Nat} (C : Cal X.prog X.w K mg X.base k x ps m) (hr : Room k X.A) (tk : Takes X W) (ha : DA X K mg W (e :: es) t fa) (hn : ps.length = n := by rfl) (hg : Gl X x := by rfl) (hdb : (x == ("__debug__" : Str)) = false := by decide)
    (he : starEach (e :: es) X.env = (false, eval e X.env) :: starEach es X.env := by rfl) (hpl : (backTo pos (starEach es X.env)).any (·.1) = false := by rfl) (ok : OkX X K mg := by exact ⟨rfl, rfl⟩) :
    DE X K mg W (.Call (.Name x p) (e :: es) [] pos) (tCallS (spD K mg n m) (WE W) t) (callF n m fa) := by
  obtain ⟨rfl, rfl⟩ := ok
  subst hn
  obtain ⟨f, fd, h1, h2, h3, h4⟩ := C.ex
  refine ⟨pe_callS h1 hr hg h2 h3 h4 (fun σ => passAt tk σ) ha.pe hdb he hpl, fun sa F0 H0 F H σ env st Q s p => ?_⟩
  refine Ref.bind (ta := t) mono_E ha.rf s p fun vs F1 H1 ds st1 p1 s1 r1 p => ?_
  split at p
  · rename_i hl
    refine ⟨sa, F1, ds, st1, hl, s1.bs, r1, ?_⟩
    cases q : m ds st1 with
    | ok d st' => rw [q] at p; exact p
    | ex c st' => rw [q] at p; exact p
    | bad => rw [q] at p; exact p
  · exact p.elim
end

/-! ### built-ins -/
def BRef (K : PySem.W.Frag) (r : List V → Hp → VK → Prop) (op : S → List PD → Option PD) : Prop := ∀ sa F H st vs ds z Q, Bs sa F H st → RPs K sa F H vs ds → op st ds = some z →
  (∀ v F' H', Stp sa F H F' H' st → RD K sa F' v z → Q v H') → r vs H Q
def NRef (K : PySem.W.Frag) (r : List V → Hp → VK → Prop) (op : S → List PD → Option (List PD)) : Prop := ∀ sa F H st vs ds zs (Q : VK), Bs sa F H st → RPs K sa F H vs ds → op st ds = some zs →
  (∀ p us, H p = none → DVs K F us zs → Q (.ref p) (upd H p (.lst us))) → r vs H Q
def eB (op : S → List PD → Option PD) (fa : Env → M (List PD)) : Env → M PD := fun env st => (fa env st).bind fun ds s => R.ofO (op s ds) s
def nB (op : S → List PD → Option (List PD)) (fa : Env → M (List PD)) : Env → M (List PD) := fun env st => (fa env st).bind fun ds s => R.ofO (op s ds) s
theorem RPs.one {K : PySem.W.Frag} {sa : Addr} {F H : Hp} {vs : List V} {d : PD} (h : RPs K sa F H vs [d]) : ∃ v, vs = [v] ∧ RP K sa F H v d := by
  cases h with
  | cons h1 h2 => cases h2; exact ⟨_, rfl, h1⟩
theorem RPs.two {K : PySem.W.Frag} {sa : Addr} {F H : Hp} {vs : List V} {d e : PD} (h : RPs K sa F H vs [d, e]) : ∃ v u, vs = [v, u] ∧ RP K sa F H v d ∧ RP K sa F H u e := by
  cases h with
  | cons h1 h2 =>
    obtain ⟨u, rfl, h3⟩ := h2.one
    exact ⟨_, _, rfl, h1, h3⟩
section
variable {X : Cx} {K : PySem.W.Frag} {mg : Str → Option Value} {W : WX} {x id T : Str} {e : Expr} {es : List Expr} {t : TA} {fa : Env → M (List PD)} {p pos : Pos} {r : List V → Hp → VK → Prop}
theorem ref_B {K : PySem.W.Frag} {mg : Str → Option Value} {op : S → List PD → Option PD} (ho : BRef K r op) (ha : Ref K mg W (rAP K) t fa) : Ref K mg W (rE K) (tCB r t) (eB op fa) := fun sa F0 H0 F H σ env st Q s p => by
  refine Ref.bind (ta := t) mono_E ha s p fun vs F1 H1 ds st1 p1 s1 r1 p => ?_
  cases hz : op st1 ds with
  | none => rw [hz] at p; exact p.elim
  | some z => rw [hz] at p; exact ho sa F1 H1 st1 vs ds z Q s1.bs r1 hz p
theorem ref_NB {K : PySem.W.Frag} {mg : Str → Option Value} {op : S → List PD → Option (List PD)} (ho : NRef K r op) (ha : Ref K mg W (rAP K) t fa) : Ref K mg W (rN K) (tCB r t) (nB op fa) := fun sa F0 H0 F H σ env st Q s p => by
  refine Ref.bind (ta := t) mono_N ha s p fun vs F1 H1 ds st1 p1 s1 r1 p => ?_
  cases hz : op st1 ds with
  | none => rw [hz] at p; exact p.elim
  | some z =>
    rw [hz] at p
    exact ho sa F1 H1 st1 vs ds z Q s1.bs r1 hz fun q us hq hd => p _ _ _ (s1.bs.newU hq _) ⟨q, us, rfl, upd_same, s1.bs.ff hq, hq, hd⟩
end
section
variable {X : Cx} {K : PySem.W.Frag} {mg : Str → Option Value} {W : WX} {x : Str} {id T : String} {e : Expr} {es : List Expr} {t : TA} {fa : Env → M (List PD)} {p pos : Pos} {r : List V → Hp → VK → Prop}
theorem de_B {op : S → List PD → Option PD} (ho : CallR X (.builtin id) r ∧ BRef K r op) (hm : mg x = none) (hv : bootBuiltins x = some (.builtin id)) (ha : DAP X K mg W (e :: es) t fa) (hg : Gl X x := by rfl) (hn : x ≠ "__name__" := by decide) (hdb : (x == ("__debug__" : Str)) = false := by decide)
    (he : starEach (e :: es) X.env = (false, eval e X.env) :: starEach es X.env := by rfl) (hpl : (backTo pos (starEach es X.env)).any (·.1) = false := by rfl) (ok : OkX X K mg := by exact ⟨rfl, rfl⟩) : DE X K mg W (.Call (.Name x p) (e :: es) [] pos) (tCB r t) (eB op fa) := by
  obtain ⟨rfl, rfl⟩ := ok
  exact ⟨pe_callB ho.1 hg hm hv ha.pe hn hdb he hpl, ref_B ho.2 ha.rf⟩
theorem de_T {op : S → List PD → Option PD} (ho : CallR X (.type T) r ∧ BRef K r op) (hm : mg x = none) (hv : bootBuiltins x = some (.type T)) (ha : DAP X K mg W (e :: es) t fa) (hg : Gl X x := by rfl) (hn : x ≠ "__name__" := by decide) (hdb : (x == ("__debug__" : Str)) = false := by decide)
    (he : starEach (e :: es) X.env = (false, eval e X.env) :: starEach es X.env := by rfl) (hpl : (backTo pos (starEach es X.env)).any (·.1) = false := by rfl) (ok : OkX X K mg := by exact ⟨rfl, rfl⟩) : DE X K mg W (.Call (.Name x p) (e :: es) [] pos) (tCB r t) (eB op fa) := by
  obtain ⟨rfl, rfl⟩ := ok
  exact ⟨pe_callTy ho.1 hg hm hv ha.pe hn hdb he hpl, ref_B ho.2 ha.rf⟩
theorem dn_B {op : S → List PD → Option (List PD)} (ho : CallR X (.builtin id) r ∧ NRef K r op) (hm : mg x = none) (hv : bootBuiltins x = some (.builtin id)) (ha : DAP X K mg W (e :: es) t fa) (hg : Gl X x := by rfl) (hn : x ≠ "__name__" := by decide) (hdb : (x == ("__debug__" : Str)) = false := by decide)
    (he : starEach (e :: es) X.env = (false, eval e X.env) :: starEach es X.env := by rfl) (hpl : (backTo pos (starEach es X.env)).any (·.1) = false := by rfl) (ok : OkX X K mg := by exact ⟨rfl, rfl⟩) : DN X K mg W (.Call (.Name x p) (e :: es) [] pos) (tCB r t) (nB op fa) := by
  obtain ⟨rfl, rfl⟩ := ok
  exact ⟨pe_callB ho.1 hg hm hv ha.pe hn hdb he hpl, ref_NB ho.2 ha.rf⟩
theorem dn_T {op : S → List PD → Option (List PD)} (ho : CallR X (.type T) r ∧ NRef K r op) (hm : mg x = none) (hv : bootBuiltins x = some (.type T)) (ha : DAP X K mg W (e :: es) t fa) (hg : Gl X x := by rfl) (hn : x ≠ "__name__" := by decide) (hdb : (x == ("__debug__" : Str)) = false := by decide)
    (he : starEach (e :: es) X.env = (false, eval e X.env) :: starEach es X.env := by rfl) (hpl : (backTo pos (starEach es X.env)).any (·.1) = false := by rfl) (ok : OkX X K mg := by exact ⟨rfl, rfl⟩) : DN X K mg W (.Call (.Name x p) (e :: es) [] pos) (tCB r t) (nB op fa) := by
  obtain ⟨rfl, rfl⟩ := ok
  exact ⟨pe_callTy ho.1 hg hm hv ha.pe hn hdb he hpl, ref_NB ho.2 ha.rf⟩
end
/-! #### len abs min max int sum all tuple list sorted str -/
def opLen : S → List PD → Option PD := fun _ ds => match ds with
  | [.list xs] => some (.int xs.length)
  | [.tuple xs] => some (.int xs.length)
  | [.str z] => if z.length ≤ sizeLine then some (.int z.length) else none
  | _ => none
theorem b_len {X : Cx} {K : PySem.W.Frag} {mg : Str → Option Value} (ok : OkX X K mg := by exact ⟨rfl, rfl⟩) : CallR X (.builtin "len") (fun xs H Q => ∃ x n, xs = [x] ∧ LenV K x H n ∧ Q (.int n) H) ∧ BRef K (fun xs H Q => ∃ x n, xs = [x] ∧ LenV K x H n ∧ Q (.int n) H) opLen := by
  obtain ⟨rfl, rfl⟩ := ok
  refine ⟨call_len, fun sa F H st vs ds z Q b r hz q => ?_⟩
  unfold opLen at hz
  split at hz
  · cases hz
    obtain ⟨v, rfl, r1⟩ := r.one
    obtain ⟨a, xs, rfl, h1, h2⟩ := RP.lst b r1
    exact ⟨_, _, rfl, .inl ⟨xs, SqL.of h1, h2.len.symm⟩, b.val q (.int _)⟩
  · cases hz
    obtain ⟨v, rfl, r1⟩ := r.one
    obtain ⟨a, xs, rfl, h1, h2⟩ := r1.tup
    exact ⟨_, _, rfl, .inr ⟨xs, sqT_mono b.sub h1, h2.len.symm⟩, b.val q (.int _)⟩
  · split at hz
    · rename_i hl
      cases hz
      obtain ⟨v, rfl, r1⟩ := r.one
      rw [r1.str]
      exact ⟨_, _, rfl, ⟨hl, rfl⟩, b.val q (.int _)⟩
    · cases hz
  · cases hz
def opAbs : S → List PD → Option PD := fun _ ds => match ds with
  | [.int i] => some (.int (i.natAbs : Int))
  | _ => none
theorem b_abs {X : Cx} {K : PySem.W.Frag} {mg : Str → Option Value} (ok : OkX X K mg := by exact ⟨rfl, rfl⟩) : CallR X (.builtin "abs") (fun xs H Q => ∃ i, xs = [.int i] ∧ Q (.int (if i < 0 then -i else i)) H) ∧ BRef K (fun xs H Q => ∃ i, xs = [.int i] ∧ Q (.int (if i < 0 then -i else i)) H) opAbs := by
  obtain ⟨rfl, rfl⟩ := ok
  refine ⟨call_abs, fun sa F H st vs ds z Q b r hz q => ?_⟩
  unfold opAbs at hz
  split at hz
  · rename_i i
    cases hz
    obtain ⟨v, rfl, r1⟩ := r.one
    rw [r1.int]
    refine ⟨_, rfl, ?_⟩
    have e : (if i < 0 then -i else i) = (i.natAbs : Int) := by split <;> omega
    rw [e]
    exact b.val q (.int _)
  · cases hz
def opMin2 : S → List PD → Option PD := fun _ ds => match ds with
  | [.int i, .int j] => some (.int (min i j))
  | _ => none
def opMax2 : S → List PD → Option PD := fun _ ds => match ds with
  | [.int i, .int j] => some (.int (max i j))
  | _ => none
theorem b_min2 {X : Cx} {K : PySem.W.Frag} {mg : Str → Option Value} (hc : X.calm = true := by rfl) (ok : OkX X K mg := by exact ⟨rfl, rfl⟩) : CallR X (.builtin "min") (fun xs H Q => ∃ i j, xs = [.int i, .int j] ∧ Q (.int (if j < i then j else i)) H) ∧ BRef K (fun xs H Q => ∃ i j, xs = [.int i, .int j] ∧ Q (.int (if j < i then j else i)) H) opMin2 := by
  obtain ⟨rfl, rfl⟩ := ok
  refine ⟨call_min2 hc, fun sa F H st vs ds z Q b r hz q => ?_⟩
  unfold opMin2 at hz
  split at hz
  · rename_i i j
    cases hz
    obtain ⟨v, u, rfl, r1, r2⟩ := r.two
    rw [r1.int, r2.int]
    refine ⟨_, _, rfl, ?_⟩
    have e : (if j < i then j else i) = min i j := by split <;> omega
    rw [e]
    exact b.val q (.int _)
  · cases hz
theorem b_max2 {X : Cx} {K : PySem.W.Frag} {mg : Str → Option Value} (hc : X.calm = true := by rfl) (ok : OkX X K mg := by exact ⟨rfl, rfl⟩) : CallR X (.builtin "max") (fun xs H Q => ∃ i j, xs = [.int i, .int j] ∧ Q (.int (if j > i then j else i)) H) ∧ BRef K (fun xs H Q => ∃ i j, xs = [.int i, .int j] ∧ Q (.int (if j > i then j else i)) H) opMax2 := by
  obtain ⟨rfl, rfl⟩ := ok
  refine ⟨call_max2 hc, fun sa F H st vs ds z Q b r hz q => ?_⟩
  unfold opMax2 at hz
  split at hz
  · rename_i i j
    cases hz
    obtain ⟨v, u, rfl, r1, r2⟩ := r.two
    rw [r1.int, r2.int]
    refine ⟨_, _, rfl, ?_⟩
    have e : (if j > i then j else i) = max i j := by split <;> omega
    rw [e]
    exact b.val q (.int _)
  · cases hz
def opInt : S → List PD → Option PD := fun _ ds => match ds with
  | [.int i] => some (.int i)
  | [.bool k] => some (.int (if k then 1 else 0))
  | _ => none
theorem b_int {X : Cx} {K : PySem.W.Frag} {mg : Str → Option Value} (ok : OkX X K mg := by exact ⟨rfl, rfl⟩) : CallR X (.type "int") (fun xs H Q => (∃ i, xs = [.int i] ∧ Q (.int i) H) ∨ ∃ k, xs = [.bl k] ∧ Q (.int (if k then 1 else 0)) H) ∧ BRef K (fun xs H Q => (∃ i, xs = [.int i] ∧ Q (.int i) H) ∨ ∃ k, xs = [.bl k] ∧ Q (.int (if k then 1 else 0)) H) opInt := by
  obtain ⟨rfl, rfl⟩ := ok
  refine ⟨call_int1, fun sa F H st vs ds z Q b r hz q => ?_⟩
  unfold opInt at hz
  split at hz
  · cases hz
    obtain ⟨v, rfl, r1⟩ := r.one
    rw [r1.int]
    exact .inl ⟨_, rfl, b.val q (.int _)⟩
  · cases hz
    obtain ⟨v, rfl, r1⟩ := r.one
    rw [r1.bl]
    exact .inr ⟨_, rfl, b.val q (.int _)⟩
  · cases hz
def asInt : PD → Option Int
  | .int i => some i
  | _ => none
def asBool : PD → Option Bool
  | .bool i => some i
  | _ => none
def asStr : PD → Option Str
  | .str i => some i
  | _ => none
def allInts : List PD → Option (List Int)
  | [] => some []
  | d :: ds => match asInt d, allInts ds with
    | some i, some r => some (i :: r)
    | _, _ => none
def allBools : List PD → Option (List Bool)
  | [] => some []
  | d :: ds => match asBool d, allBools ds with
    | some i, some r => some (i :: r)
    | _, _ => none
def allStrs : List PD → Option (List Str)
  | [] => some []
  | d :: ds => match asStr d, allStrs ds with
    | some i, some r => some (i :: r)
    | _, _ => none
theorem allInts_eq : ∀ {ds : List PD} {ns : List Int}, allInts ds = some ns → ds = ns.map PyData.int
  | [], ns, h => by cases h; rfl
  | d :: ds, ns, h => by
    unfold allInts at h
    split at h
    · rename_i i r e1 e2
      cases h
      rw [allInts_eq e2]
      cases d <;> first | (cases e1; rfl) | cases e1
    · cases h
theorem allBools_eq : ∀ {ds : List PD} {ns : List Bool}, allBools ds = some ns → ds = ns.map PyData.bool
  | [], ns, h => by cases h; rfl
  | d :: ds, ns, h => by
    unfold allBools at h
    split at h
    · rename_i i r e1 e2
      cases h
      rw [allBools_eq e2]
      cases d <;> first | (cases e1; rfl) | cases e1
    · cases h
theorem allStrs_eq : ∀ {ds : List PD} {ns : List Str}, allStrs ds = some ns → ds = ns.map PyData.str
  | [], ns, h => by cases h; rfl
  | d :: ds, ns, h => by
    unfold allStrs at h
    split at h
    · rename_i i r e1 e2
      cases h
      rw [allStrs_eq e2]
      cases d <;> first | (cases e1; rfl) | cases e1
    · cases h
theorem allInts_map (ns : List Int) : allInts (ns.map PyData.int) = some ns := by
  induction ns with
  | nil => rfl
  | cons n ns ih => simp only [List.map_cons, allInts, asInt, ih]
theorem allBools_map (ns : List Bool) : allBools (ns.map PyData.bool) = some ns := by
  induction ns with
  | nil => rfl
  | cons n ns ih => simp only [List.map_cons, allBools, asBool, ih]
theorem allStrs_map (ns : List Str) : allStrs (ns.map PyData.str) = some ns := by
  induction ns with
  | nil => rfl
  | cons n ns ih => simp only [List.map_cons, allStrs, asStr, ih]
theorem DVs.of_bools {K : PySem.W.Frag} {F : Hp} : ∀ {ns : List Bool}, DVs K F (ns.map V.bl) (ns.map PyData.bool)
  | [] => .nil
  | n :: ns => .cons (.bl n) DVs.of_bools
theorem DVs.of_strs {K : PySem.W.Frag} {F : Hp} : ∀ {ns : List Str}, DVs K F (ns.map V.str) (ns.map PyData.str)
  | [] => .nil
  | n :: ns => .cons (.str n) DVs.of_strs
def opSum : S → List PD → Option PD := fun _ ds => match ds with
  | [.list xs] => (allInts xs).map fun ns => .int ns.sum
  | _ => none
theorem b_sum {X : Cx} {K : PySem.W.Frag} {mg : Str → Option Value} (hc : X.calm = true := by rfl) (ok : OkX X K mg := by exact ⟨rfl, rfl⟩) : CallR X (.builtin "sum") (rSum K) ∧ BRef K (rSum K) opSum := by
  obtain ⟨rfl, rfl⟩ := ok
  refine ⟨cr_sum hc, fun sa F H st vs ds z Q b r hz q => ?_⟩
  unfold opSum at hz
  split at hz
  · rename_i xs
    cases e : allInts xs with
    | none => rw [e] at hz; cases hz
    | some ns =>
      rw [e] at hz
      cases hz
      obtain ⟨v, rfl, r1⟩ := r.one
      obtain ⟨a, us, rfl, h1, h2⟩ := RP.lst b r1
      rw [allInts_eq e] at h2
      rw [h2.ints] at h1
      exact ⟨a, ns, rfl, SqL.of h1, b.val q (.int _)⟩
  · cases hz
def opAll : S → List PD → Option PD := fun _ ds => match ds with
  | [.list xs] => (allBools xs).map fun ns => .bool (ns.all id)
  | _ => none
theorem b_all {X : Cx} {K : PySem.W.Frag} {mg : Str → Option Value} (hc : X.calm = true := by rfl) (ok : OkX X K mg := by exact ⟨rfl, rfl⟩) : CallR X (.builtin "all") (rAll K) ∧ BRef K (rAll K) opAll := by
  obtain ⟨rfl, rfl⟩ := ok
  refine ⟨cr_all hc, fun sa F H st vs ds z Q b r hz q => ?_⟩
  unfold opAll at hz
  split at hz
  · rename_i xs
    cases e : allBools xs with
    | none => rw [e] at hz; cases hz
    | some ns =>
      rw [e] at hz
      cases hz
      obtain ⟨v, rfl, r1⟩ := r.one
      obtain ⟨a, us, rfl, h1, h2⟩ := RP.lst b r1
      rw [allBools_eq e] at h2
      rw [h2.bools] at h1
      exact ⟨a, ns, rfl, SqL.of h1, b.val q (.bl _)⟩
  · cases hz
def opTuple : S → List PD → Option PD := fun _ ds => match ds with
  | [.list xs] => some (.tuple xs)
  | [.tuple xs] => some (.tuple xs)
  | _ => none
theorem b_tuple {X : Cx} {K : PySem.W.Frag} {mg : Str → Option Value} (ok : OkX X K mg := by exact ⟨rfl, rfl⟩) : CallR X (.type "tuple") (fun xs H Q => ∃ p ys, xs = [.ref p] ∧ ((SqL K H p ys ∧ ∀ l, H l = none → Q (.ref l) (upd H l (.tup ys))) ∨ (SqT K H p ys ∧ Q (.ref p) H))) ∧
    BRef K (fun xs H Q => ∃ p ys, xs = [.ref p] ∧ ((SqL K H p ys ∧ ∀ l, H l = none → Q (.ref l) (upd H l (.tup ys))) ∨ (SqT K H p ys ∧ Q (.ref p) H))) opTuple := by
  obtain ⟨rfl, rfl⟩ := ok
  refine ⟨call_tuple_of, fun sa F H st vs ds z Q b r hz q => ?_⟩
  unfold opTuple at hz
  split at hz
  · cases hz
    obtain ⟨v, rfl, r1⟩ := r.one
    obtain ⟨a, us, rfl, h1, h2⟩ := RP.lst b r1
    exact ⟨a, us, rfl, .inl ⟨SqL.of h1, fun l hl => b.tuple hl q h2⟩⟩
  · cases hz
    obtain ⟨v, rfl, r1⟩ := r.one
    obtain ⟨a, us, rfl, h1, h2⟩ := r1.tup
    exact ⟨a, us, rfl, .inr ⟨sqT_mono b.sub h1, b.val q (.tup h1 h2)⟩⟩
  · cases hz
def opList : S → List PD → Option (List PD) := fun _ ds => match ds with
  | [.list xs] => some xs
  | [.tuple xs] => some xs
  | _ => none
theorem n_list {X : Cx} {K : PySem.W.Frag} {mg : Str → Option Value} (ok : OkX X K mg := by exact ⟨rfl, rfl⟩) : CallR X (.type "list") (fun xs H Q => ∃ p ys, xs = [.ref p] ∧ (SqL K H p ys ∨ SqT K H p ys) ∧ ∀ l, H l = none → Q (.ref l) (upd H l (.lst ys))) ∧
    NRef K (fun xs H Q => ∃ p ys, xs = [.ref p] ∧ (SqL K H p ys ∨ SqT K H p ys) ∧ ∀ l, H l = none → Q (.ref l) (upd H l (.lst ys))) opList := by
  obtain ⟨rfl, rfl⟩ := ok
  refine ⟨call_list_of, fun sa F H st vs ds z Q b r hz q => ?_⟩
  unfold opList at hz
  split at hz
  · cases hz
    obtain ⟨v, rfl, r1⟩ := r.one
    obtain ⟨a, us, rfl, h1, h2⟩ := RP.lst b r1
    exact ⟨a, us, rfl, .inl (SqL.of h1), fun l hl => q l us hl h2⟩
  · cases hz
    obtain ⟨v, rfl, r1⟩ := r.one
    obtain ⟨a, us, rfl, h1, h2⟩ := r1.tup
    exact ⟨a, us, rfl, .inr (sqT_mono b.sub h1), fun l hl => q l us hl h2⟩
  · cases hz
/-- insertion -/
def ins (n : Int) : List Int → List Int
  | [] => [n]
  | x :: r => if n ≤ x then n :: x :: r else x :: ins n r
def isort : List Int → List Int
  | [] => []
  | n :: r => ins n (isort r)
theorem ins_perm (n : Int) : ∀ l : List Int, (ins n l).Perm (n :: l)
  | [] => .refl _
  | x :: r => by
    unfold ins
    split
    · exact .refl _
    · exact ((ins_perm n r).cons x).trans (.swap n x r)
theorem isort_perm : ∀ l : List Int, (isort l).Perm l
  | [] => .refl _
  | n :: r => (ins_perm n _).trans ((isort_perm r).cons n)
theorem ins_sorted {n : Int} : ∀ {l : List Int}, l.Pairwise (· ≤ ·) → (ins n l).Pairwise (· ≤ ·)
  | [], _ => List.pairwise_singleton _ _
  | x :: r, h => by
    have h' := List.pairwise_cons.mp h
    unfold ins
    split
    · refine List.pairwise_cons.mpr ⟨fun y hy => ?_, h⟩
      rcases List.mem_cons.mp hy with rfl | hy
      · assumption
      · have := h'.1 y hy
        omega
    · refine List.pairwise_cons.mpr ⟨fun y hy => ?_, ins_sorted h'.2⟩
      rcases List.mem_cons.mp ((ins_perm n r).mem_iff.mp hy) with rfl | hy
      · omega
      · exact h'.1 y hy
theorem isort_sorted : ∀ l : List Int, (isort l).Pairwise (· ≤ ·)
  | [] => .nil
  | n :: r => ins_sorted (isort_sorted r)
def opSortI : S → List PD → Option (List PD) := fun _ ds => match ds with
  | [.list xs] => (allInts xs).map fun ns => (isort ns).map .int
  | _ => none
theorem n_sortI {X : Cx} {K : PySem.W.Frag} {mg : Str → Option Value} (ok : OkX X K mg := by exact ⟨rfl, rfl⟩) : CallR X (.builtin "sorted") (rSortedI K) ∧ NRef K (rSortedI K) opSortI := by
  obtain ⟨rfl, rfl⟩ := ok
  refine ⟨cr_sortedI, fun sa F H st vs ds z Q b r hz q => ?_⟩
  unfold opSortI at hz
  split at hz
  · rename_i xs
    cases e : allInts xs with
    | none => rw [e] at hz; cases hz
    | some ns =>
      rw [e] at hz
      cases hz
      obtain ⟨v, rfl, r1⟩ := r.one
      obtain ⟨a, us, rfl, h1, h2⟩ := RP.lst b r1
      rw [allInts_eq e] at h2
      rw [h2.ints] at h1
      refine ⟨a, ns, rfl, SqL.of h1, fun ns' p hp hs hn => ?_⟩
      have e3 : ns' = isort ns := PySem.W.ksm_same (hp.trans (isort_perm ns).symm) hs (isort_sorted ns)
      subst e3
      exact q p _ hn DVs.of_ints
  · cases hz
def opStr : S → List PD → Option PD := fun _ ds => match ds with
  | [.int i] => if i.natAbs.log2 < 1920 then some (.str (toString i)) else none
  | _ => none
theorem b_str {X : Cx} {K : PySem.W.Frag} {mg : Str → Option Value} (ok : OkX X K mg := by exact ⟨rfl, rfl⟩) : CallR X (.type "str") (fun xs H Q => ∃ i, xs = [.int i] ∧ i.natAbs.log2 < 1920 ∧ Q (.str (toString i)) H) ∧ BRef K (fun xs H Q => ∃ i, xs = [.int i] ∧ i.natAbs.log2 < 1920 ∧ Q (.str (toString i)) H) opStr := by
  obtain ⟨rfl, rfl⟩ := ok
  refine ⟨call_str_int, fun sa F H st vs ds z Q b r hz q => ?_⟩
  unfold opStr at hz
  split at hz
  · split at hz
    · rename_i hl
      cases hz
      obtain ⟨v, rfl, r1⟩ := r.one
      rw [r1.int]
      exact ⟨_, rfl, hl, b.val q (.str _)⟩
    · cases hz
  · cases hz

/-! ### tests -/
def tV (f : Env → M PD) : Env → M Bool := fun env st => (f env st).bind fun d s => R.ofO (asBool d) s
def tNotF (f : Env → M Bool) : Env → M Bool := fun env st => (f env st).bind fun b s => .ok (!b) s
def tAndF (f g : Env → M Bool) : Env → M Bool := fun env st => (f env st).bind fun b s => match b with
  | true => g env s
  | false => .ok false s
def tOrF (f g : Env → M Bool) : Env → M Bool := fun env st => (f env st).bind fun b s => match b with
  | true => .ok true s
  | false => g env s
def eAnd (f g : Env → M PD) : Env → M PD := fun env st => (tV f env st).bind fun b s => match b with
  | true => g env s
  | false => .ok (.bool false) s
def eOr (f g : Env → M PD) : Env → M PD := fun env st => (tV f env st).bind fun b s => match b with
  | true => .ok (.bool true) s
  | false => g env s
def eNot (f : Env → M PD) : Env → M PD := fun env st => (tV f env st).bind fun b s => .ok (.bool (!b)) s
def eIf (c : Env → M Bool) (f g : Env → M PD) : Env → M PD := fun env st => (c env st).bind fun b s => match b with
  | true => f env s
  | false => g env s
theorem asBool_eq {d : PD} {b : Bool} (h : asBool d = some b) : d = .bool b := by
  cases d <;> first | (cases h; rfl) | cases h
theorem ref_tV {K : PySem.W.Frag} {mg : Str → Option Value} {W : WX} {t : TE} {f : Env → M PD} (h : Ref K mg W (rE K) t f) : Ref K mg W rT (tB t) (tV f) := fun sa F0 H0 F H σ env st Q s p => by
  refine Ref.bind (ta := t) mono_T h s p fun x F1 H1 d st1 p1 s1 r1 p => ?_
  cases e : asBool d with
  | none => rw [e] at p; exact p.elim
  | some b =>
    rw [e] at p
    rw [asBool_eq e] at r1
    exact ⟨b, r1.bl, p b F1 H1 s1.bs.refl rfl⟩
section
variable {X : Cx} {K : PySem.W.Frag} {mg : Str → Option Value} {W : WX} {a b c : Expr} {rest : List Expr} {ta tb tc : TE} {tA tB' : TT} {fa fb fc : Env → M PD} {gA gB : Env → M Bool} {pos : Pos}
theorem dt_val (h : DE X K mg W a ta fa) (he : ∀ whole, isTrue a X.env whole = (do let v ← whole; standAt a.pos; holding [v] (truthy v)) := by intro _; rfl) (ok : OkX X K mg := by exact ⟨rfl, rfl⟩) : DT X K mg W a (tB ta) (tV fa) := by
  obtain ⟨rfl, rfl⟩ := ok
  exact ⟨pt_val h.pe he, ref_tV h.rf⟩
theorem dt_cmp {op : CmpOp} {r : R2} {dop : S → PD → PD → Option PD} (ho : OpR X (compareOp op) r ∧ OpRef K r dop) (ha : DE X K mg W a ta fa) (hb : DE X K mg W b tb fb) (hm : behindInMarks op b = false) (ok : OkX X K mg := by exact ⟨rfl, rfl⟩) : DT X K mg W (.Compare a [op] [b] pos) (tTest (tOp r ta tb)) (tV (e2 dop fa fb)) := by
  obtain ⟨rfl, rfl⟩ := ok
  exact ⟨pt_cmpR ho.1 ha.pe hb.pe hm, ref_tV (ref_op ho.2 ha.rf hb.rf)⟩
def eChain (op op' : S → PD → PD → Option PD) (fa fb fc : Env → M PD) : Env → M PD := fun env st => (fa env st).bind fun d s1 => (fb env s1).bind fun e s2 => (R.ofO (op s2 d e) s2).bind fun z s3 => (R.ofO (asBool z) s3).bind fun k s4 => match k with
  | true => (fc env s4).bind fun g s5 => R.ofO (op' s5 e g) s5
  | false => .ok (.bool false) s4
theorem ref_chain {K : PySem.W.Frag} {mg : Str → Option Value} {r r' : R2} {op op' : S → PD → PD → Option PD} (ho : OpRef K r op) (ho' : OpRef K r' op') (ha : Ref K mg W (rE K) ta fa) (hb : Ref K mg W (rE K) tb fb) (hc : Ref K mg W (rE K) tc fc) :
    Ref K mg W (rE K) (tChain r r' ta tb tc) (eChain op op' fa fb fc) := fun sa F0 H0 F H σ env st Q s p => by
  refine Ref.bind (ta := ta) mono_E ha s p fun x F1 H1 d st1 p1 s1 r1 p => ?_
  refine Ref.bind (ta := tb) mono_E hb s1 p fun y F2 H2 e st2 p2 s2 r2 p => ?_
  cases hz : op st2 d e with
  | none => rw [hz] at p; exact p.elim
  | some z =>
    rw [hz] at p
    refine ho sa F2 H2 st2 x y d e z _ s2.bs (r1.mono p2.fm) r2 hz fun v F3 H3 p3 rv => ?_
    have s3 := s2.step p3
    cases hk : asBool z with
    | none => rw [R.ofO_some, R.bind_ok, hk] at p; exact p.elim
    | some k =>
      rw [R.ofO_some, R.bind_ok, hk, R.ofO_some, R.bind_ok] at p
      rw [asBool_eq hk] at rv
      refine ⟨k, rv.bl, ?_⟩
      cases k with
      | false => exact iteF (p _ F3 H3 p3 (.inl (.bl _)))
      | true =>
        refine iteT ?_
        refine Ref.bind (ta := tc) mono_E hc s3 (p.shift mono_E p3) fun w F4 H4 g st4 p4 s4 r4 p => ?_
        cases hz' : op' st4 e g with
        | none => rw [hz'] at p; exact p.elim
        | some z' => rw [hz'] at p; exact ho' sa F4 H4 st4 y w e g z' Q s4.bs ((r2.mono p3.fm).mono p4.fm) r4 hz' p
theorem de_chain {op op' : CmpOp} {r r' : R2} {dop dop' : S → PD → PD → Option PD} (ho : OpR X (compareOp op) r ∧ OpRef K r dop) (ho' : OpR X (compareOp op') r' ∧ OpRef K r' dop') (ha : DE X K mg W a ta fa) (hb : DE X K mg W b tb fb) (hc : DE X K mg W c tc fc)
    (hm : lastMarks [op, op'] [b, c] = false := by with_unfolding_all rfl) (ok : OkX X K mg := by exact ⟨rfl, rfl⟩) : DE X K mg W (.Compare a [op, op'] [b, c] pos) (tChain r r' ta tb tc) (eChain dop dop' fa fb fc) := by
  obtain ⟨rfl, rfl⟩ := ok
  exact ⟨pe_chain ho.1 ho'.1 ha.pe hb.pe hc.pe hm, ref_chain ho.2 ho'.2 ha.rf hb.rf hc.rf⟩
theorem dt_chain {op op' : CmpOp} {r r' : R2} {dop dop' : S → PD → PD → Option PD} (ho : OpR X (compareOp op) r ∧ OpRef K r dop) (ho' : OpR X (compareOp op') r' ∧ OpRef K r' dop') (ha : DE X K mg W a ta fa) (hb : DE X K mg W b tb fb) (hc : DE X K mg W c tc fc)
    (hm : lastMarks [op, op'] [b, c] = false := by with_unfolding_all rfl) (ok : OkX X K mg := by exact ⟨rfl, rfl⟩) : DT X K mg W (.Compare a [op, op'] [b, c] pos) (tTest (tChain r r' ta tb tc)) (tV (eChain dop dop' fa fb fc)) := by
  obtain ⟨rfl, rfl⟩ := ok
  exact ⟨pt_chain ho.1 ho'.1 ha.pe hb.pe hc.pe hm, ref_tV (ref_chain ho.2 ho'.2 ha.rf hb.rf hc.rf)⟩
theorem dt_not (h : DT X K mg W a tA gA) (ok : OkX X K mg := by exact ⟨rfl, rfl⟩) : DT X K mg W (.UnaryOp .Not a pos) (tNot tA) (tNotF gA) := by
  obtain ⟨rfl, rfl⟩ := ok
  exact ⟨pt_not h.pe, fun sa F0 H0 F H σ env st Q s p => by
  refine Ref.bind (ta := tA) mono_T h.rf s p fun x F1 H1 d st1 p1 s1 r1 p => ?_
  have r1' : x = d := r1
  subst r1'
  exact p _ F1 H1 s1.bs.refl rfl⟩
theorem dw_and1 (h : DT X K mg W a tA gA) (ok : OkX X K mg := by exact ⟨rfl, rfl⟩) : DW X K mg W (.BoolOp .And [a] pos) tA gA := by
  obtain ⟨rfl, rfl⟩ := ok
  exact ⟨pw_and1 h.pe, h.rf⟩
theorem dw_or1 (h : DT X K mg W a tA gA) (ok : OkX X K mg := by exact ⟨rfl, rfl⟩) : DW X K mg W (.BoolOp .Or [a] pos) tA gA := by
  obtain ⟨rfl, rfl⟩ := ok
  exact ⟨pw_or1 h.pe, h.rf⟩
theorem dw_and (ha : DT X K mg W a tA gA) (hb : DW X K mg W (.BoolOp .And (b :: rest) pos) tB' gB) (ok : OkX X K mg := by exact ⟨rfl, rfl⟩) : DW X K mg W (.BoolOp .And (a :: b :: rest) pos) (tAnd tA tB') (tAndF gA gB) := by
  obtain ⟨rfl, rfl⟩ := ok
  exact ⟨pw_and ha.pe hb.pe, fun sa F0 H0 F H σ env st Q s p => by
  refine Ref.bind (ta := tA) mono_T ha.rf s p fun x F1 H1 d st1 p1 s1 r1 p => ?_
  have r1' : x = d := r1
  subst r1'
  cases x with
  | true => exact iteT (hb.rf sa F0 H0 F1 H1 σ env st1 Q s1 p)
  | false => exact iteF (p _ F1 H1 s1.bs.refl rfl)⟩
theorem dw_or (ha : DT X K mg W a tA gA) (hb : DW X K mg W (.BoolOp .Or (b :: rest) pos) tB' gB) (ok : OkX X K mg := by exact ⟨rfl, rfl⟩) : DW X K mg W (.BoolOp .Or (a :: b :: rest) pos) (tOr tA tB') (tOrF gA gB) := by
  obtain ⟨rfl, rfl⟩ := ok
  exact ⟨pw_or ha.pe hb.pe, fun sa F0 H0 F H σ env st Q s p => by
  refine Ref.bind (ta := tA) mono_T ha.rf s p fun x F1 H1 d st1 p1 s1 r1 p => ?_
  have r1' : x = d := r1
  subst r1'
  cases x with
  | true => exact iteT (p _ F1 H1 s1.bs.refl rfl)
  | false => exact iteF (hb.rf sa F0 H0 F1 H1 σ env st1 Q s1 p)⟩
theorem DW.dt (h : DW X K mg W a tA gA) (ok : OkX X K mg := by exact ⟨rfl, rfl⟩) : DT X K mg W a tA gA := by
  obtain ⟨rfl, rfl⟩ := ok
  exact ⟨h.pe.pt, h.rf⟩
theorem de_one {op} (h : DE X K mg W a ta fa) (ok : OkX X K mg := by exact ⟨rfl, rfl⟩) : DE X K mg W (.BoolOp op [a] pos) ta fa := by
  obtain ⟨rfl, rfl⟩ := ok
  exact ⟨pe_one h.pe, h.rf⟩
theorem de_and (ha : DE X K mg W a ta fa) (hb : DE X K mg W (.BoolOp .And (b :: rest) pos) tb fb) (ok : OkX X K mg := by exact ⟨rfl, rfl⟩) : DE X K mg W (.BoolOp .And (a :: b :: rest) pos) (tAndV ta tb) (eAnd fa fb) := by
  obtain ⟨rfl, rfl⟩ := ok
  exact ⟨pe_and ha.pe hb.pe, fun sa F0 H0 F H σ env st Q s p => by
  refine Ref.bind (ta := tB ta) (Q' := fun c H1 => if c = true then tb σ H1 Q else Q (.bl false) H1) mono_E (ref_tV ha.rf) s p fun x F1 H1 d st1 p1 s1 r1 p => ?_
  have r1' : x = d := r1
  subst r1'
  cases x with
  | true => exact iteT (hb.rf sa F0 H0 F1 H1 σ env st1 Q s1 p)
  | false => exact iteF (p _ F1 H1 s1.bs.refl (.inl (.bl _)))⟩
theorem de_or (ha : DE X K mg W a ta fa) (hb : DE X K mg W (.BoolOp .Or (b :: rest) pos) tb fb) (ok : OkX X K mg := by exact ⟨rfl, rfl⟩) : DE X K mg W (.BoolOp .Or (a :: b :: rest) pos) (tOrV ta tb) (eOr fa fb) := by
  obtain ⟨rfl, rfl⟩ := ok
  exact ⟨pe_or ha.pe hb.pe, fun sa F0 H0 F H σ env st Q s p => by
  refine Ref.bind (ta := tB ta) (Q' := fun c H1 => if c = true then Q (.bl true) H1 else tb σ H1 Q) mono_E (ref_tV ha.rf) s p fun x F1 H1 d st1 p1 s1 r1 p => ?_
  have r1' : x = d := r1
  subst r1'
  cases x with
  | true => exact iteT (p _ F1 H1 s1.bs.refl (.inl (.bl _)))
  | false => exact iteF (hb.rf sa F0 H0 F1 H1 σ env st1 Q s1 p)⟩
theorem de_not (ha : DE X K mg W a ta fa) (ok : OkX X K mg := by exact ⟨rfl, rfl⟩) : DE X K mg W (.UnaryOp .Not a pos) (tNotV ta) (eNot fa) := by
  obtain ⟨rfl, rfl⟩ := ok
  exact ⟨pe_not ha.pe, fun sa F0 H0 F H σ env st Q s p => by
  refine Ref.bind (ta := tB ta) (Q' := fun c H1 => Q (.bl (!c)) H1) mono_E (ref_tV ha.rf) s p fun x F1 H1 d st1 p1 s1 r1 p => ?_
  have r1' : x = d := r1
  subst r1'
  exact p _ F1 H1 s1.bs.refl (.inl (.bl _))⟩
theorem de_if (hc : DT X K mg W c tA gA) (ha : DE X K mg W a ta fa) (hb : DE X K mg W b tb fb) (ok : OkX X K mg := by exact ⟨rfl, rfl⟩) : DE X K mg W (.IfExp c a b pos) (tIf tA ta tb) (eIf gA fa fb) := by
  obtain ⟨rfl, rfl⟩ := ok
  exact ⟨pe_ifExp hc.pe ha.pe hb.pe, fun sa F0 H0 F H σ env st Q s p => by
  refine Ref.bind (ta := tA) mono_E hc.rf s p fun x F1 H1 d st1 p1 s1 r1 p => ?_
  have r1' : x = d := r1
  subst r1'
  cases x with
  | true => exact iteT (ha.rf sa F0 H0 F1 H1 σ env st1 Q s1 p)
  | false => exact iteF (hb.rf sa F0 H0 F1 H1 σ env st1 Q s1 p)⟩
end
end DL
/-! DL4: slices, what is walked, targets, comprehensions. -/
namespace DL
open PySem PySem.Spec PyProof.Rows L2

/-! ### slices -/
abbrev rO : Addr → Hp → Hp → Hp → Option Int → Option Int → Prop := fun _ _ _ _ b c => b = c
theorem mono_O : Mono rO := fun _ _ _ _ _ _ _ _ _ _ _ _ h => h
structure DO (X : Cx) (K : PySem.W.Frag) (mg : Str → Option Value) (W : WX) (e : Option Expr) (t : TO) (f : Env → M (Option Int)) : Prop where
  po : PO X e t
  rf : Ref K mg W rO t f
def oNo : Env → M (Option Int) := fun _ st => .ok none st
def oSo (f : Env → M PD) : Env → M (Option Int) := fun env st => (f env st).bind fun d s => R.ofO ((asInt d).map some) s
theorem asInt_eq {d : PD} {b : Int} (h : asInt d = some b) : d = .int b := by
  cases d <;> first | (cases h; rfl) | cases h
def cutD (xs : List PD) (lo hi : Option Int) : List PD := (xs.drop (HT.sIx xs.length 0 lo)).take (HT.sIx xs.length xs.length hi - HT.sIx xs.length 0 lo)
def opSl (d : PD) (lo hi : Option Int) : Option PD := match d with
  | .list xs => some (.list (cutD xs lo hi))
  | .tuple xs => some (.tuple (cutD xs lo hi))
  | .str z => if z.length ≤ sizeLine then some (.str (cutS z lo hi)) else none
  | _ => none
def eSl (f : Env → M PD) (l h : Env → M (Option Int)) : Env → M PD := fun env st => (f env st).bind fun d s1 => (l env s1).bind fun lo s2 => (h env s2).bind fun hi s3 => R.ofO (opSl d lo hi) s3
theorem DVs.cut {K : PySem.W.Frag} {F : Hp} {vs : List V} {ds : List PD} (h : DVs K F vs ds) (lo hi : Option Int) : DVs K F (cutV vs lo hi) (cutD ds lo hi) := by
  unfold cutV cutD
  rw [h.len]
  exact (h.drop _).take _
theorem cutD_whole {ds : List PD} {lo hi : Option Int} (h : HT.sIx ds.length 0 lo = 0 ∧ HT.sIx ds.length ds.length hi = ds.length) : cutD ds lo hi = ds := by
  unfold cutD
  rw [h.1, h.2, List.drop_zero, Nat.sub_zero, List.take_length]
def rSlD (K : PySem.W.Frag) : V → Option Int → Option Int → Hp → VK → Prop := fun x lo hi H Q => rSlL K x lo hi H Q ∨ rSlA K x lo hi H Q ∨ rSlS x lo hi H Q
section
variable {X : Cx} {K : PySem.W.Frag} {mg : Str → Option Value} {W : WX} {e : Expr} {lo hi : Option Expr} {te : TE} {tl th : TO} {fe : Env → M PD} {fl fh : Env → M (Option Int)} {p2 pos : Pos}
theorem do_no (ok : OkX X K mg := by exact ⟨rfl, rfl⟩) : DO X K mg W none tNoPart oNo := by
  obtain ⟨rfl, rfl⟩ := ok
  exact ⟨po_none, fun sa F0 H0 F H σ env st Q s p => p none F H s.bs.refl rfl⟩
theorem do_so {a : Expr} (h : DE X K mg W a te fe) (ok : OkX X K mg := by exact ⟨rfl, rfl⟩) : DO X K mg W (some a) (tPart te) (oSo fe) := by
  obtain ⟨rfl, rfl⟩ := ok
  exact ⟨po_some h.pe, fun sa F0 H0 F H σ env st Q s p => by
  refine Ref.bind (ta := te) mono_O h.rf s p fun x F1 H1 d st1 p1 s1 r1 p => ?_
  cases e : asInt d with
  | none => rw [e] at p; exact p.elim
  | some i =>
    rw [e] at p
    rw [asInt_eq e] at r1
    exact ⟨i, r1.int, p (some i) F1 H1 s1.bs.refl rfl⟩⟩
theorem de_sl (he : DP X K mg W e te fe) (hl : DO X K mg W lo tl fl) (hu : DO X K mg W hi th fh) (ok : OkX X K mg := by exact ⟨rfl, rfl⟩) : DE X K mg W (.Subscript e (.Slice lo hi none p2) pos) (tSl (rSlD K) te tl th) (eSl fe fl fh) := by
  obtain ⟨rfl, rfl⟩ := ok
  exact ⟨pe_slice (sl_list.or (sl_tupA.or sl_str)) he.pe hl.po hu.po, fun sa F0 H0 F H σ env st Q s p => by
  refine Ref.bind (ta := te) mono_E he.rf s p fun x F1 H1 d st1 p1 s1 r1 p => ?_
  refine Ref.bind (ta := tl) mono_E hl.rf s1 p fun l F2 H2 l' st2 p2 s2 e2 p => ?_
  refine Ref.bind (ta := th) mono_E hu.rf s2 p fun u F3 H3 u' st3 p3 s3 e3 p => ?_
  have e2' : l = l' := e2
  have e3' : u = u' := e3
  subst e2' e3'
  have r3 := RP.step p3 (RP.step p2 r1)
  have b := s3.bs
  show rSlD X.K x l u H3 Q
  cases hz : opSl d l u with
  | none => rw [hz] at p; exact p.elim
  | some z =>
    rw [hz] at p
    unfold opSl at hz
    split at hz
    · cases hz
      obtain ⟨a, us, rfl, h1, h2⟩ := RP.lst b r3
      exact .inl ⟨a, us, rfl, SqL.of h1, fun q hq => b.list hq p (h2.cut l u)⟩
    · cases hz
      obtain ⟨a, us, rfl, h1, h2⟩ := r3.tup
      refine .inr (.inl ⟨a, us, rfl, sqT_mono b.sub h1, fun w => ?_, fun _ q hq => b.tuple hq p (h2.cut l u)⟩)
      rw [h2.len] at w
      rw [cutD_whole w] at p
      exact b.val p (.tup h1 h2)
    · split at hz
      · rename_i hl
        cases hz
        rw [r3.str]
        exact .inr (.inr ⟨_, rfl, hl, b.val p (.str _)⟩)
      · cases hz
    · cases hz⟩
end

/-! ### what is walked -/
def IterOk (K : PySem.W.Frag) (sa : Addr) (J : It) (F : Hp) (ds : List PD) : Prop := ∀ (i : Nat) F1 H1 st, Same F F1 → Bs sa F1 H1 st → (i = ds.length → J.stop i H1) ∧
  ∀ d, ds[i]? = some d → J.go i H1 ∧ ∀ x H', J.yld i H1 x H' → ∃ F', Stp sa F1 H1 F' H' st ∧ RD K sa F' x d
abbrev rIt (K : PySem.W.Frag) : Addr → Hp → Hp → Hp → It → List PD → Prop := fun sa _ F' _ J ds => IterOk K sa J F' ds
theorem mono_I {K : PySem.W.Frag} : Mono (rIt K) := fun _ _ _ _ _ _ _ _ _ _ _ _ h => h
structure DI (X : Cx) (K : PySem.W.Frag) (mg : Str → Option Value) (W : WX) (tg iter : Expr) (wi : TI) (f : Env → M (List PD)) : Prop where
  pi : PI X tg iter wi
  rf : Ref K mg W (rIt K) wi f
section
variable {K : PySem.W.Frag} {sa : Addr} {F H : Hp} {st : S} {a : Addr} {vs : List V} {ds : List PD}
theorem sqL_inj (b : Bs sa F H st) (h : F a = some (.lst vs)) {xs : List V} (h' : H a = some (.lst xs)) : xs = vs := by
  have := b.sub _ _ h
  rw [this] at h'; cases h'; rfl
end
/-- a list that is read at an address has one content (the written part does not speak of tracked addresses: by the heap that holds both) -/
theorem iter_list {K : PySem.W.Frag} {sa : Addr} {F : Hp} {a : Addr} {vs : List V} {ds : List PD} (h : F a = some (.lst vs)) (hd : DVs K F vs ds) : IterOk K sa ⟨fun i H => (∃ xs x, SqL K H a xs ∧ xs[i]? = some x), fun i H x H' => H' = H ∧ ∀ xs, SqL K H a xs → xs[i]? = some x, fun i H => ∃ xs, SqL K H a xs ∧ xs.length ≤ i⟩ F ds := by
  intro i F1 H1 st sm b
  have h1 : H1 a = some (.lst vs) := b.sub _ _ (sm _ _ h)
  refine ⟨fun e => ⟨vs, SqL.of h1, by rw [hd.len]; omega⟩, fun d e => ?_⟩
  obtain ⟨v, e1, e2⟩ := hd.get e
  refine ⟨⟨vs, v, SqL.of h1, e1⟩, fun x H' y => ?_⟩
  obtain ⟨rfl, y⟩ := y
  have := y vs (SqL.of h1)
  rw [e1] at this; cases this
  exact ⟨F1, b.refl, .inl (e2.mono sm)⟩
theorem iter_tup {K : PySem.W.Frag} {sa : Addr} {F : Hp} {a : Addr} {vs : List V} {ds : List PD} (h : SqT K F a vs) (hd : DVs K F vs ds) : IterOk K sa (Itt K a) F ds := by
  intro i F1 H1 st sm b
  have h1 : SqT K H1 a vs := sqT_mono b.sub (sqT_mono sm h)
  refine ⟨fun e => ⟨vs, h1, by rw [hd.len]; omega⟩, fun d e => ?_⟩
  obtain ⟨v, e1, e2⟩ := hd.get e
  refine ⟨⟨vs, v, h1, e1⟩, fun x H' y => ?_⟩
  obtain ⟨rfl, y⟩ := y
  have := y vs h1
  rw [e1] at this; cases this
  exact ⟨F1, b.refl, .inl (e2.mono sm)⟩
def chars (z : Str) : List PD := z.cps.toList.map fun c => .str ⟨#[c]⟩
theorem iter_str {K : PySem.W.Frag} {sa : Addr} {F : Hp} {z : Str} : IterOk K sa (Its z) F (chars z) := by
  intro i F1 H1 st sm b
  have hl : (chars z).length = z.cps.size := by unfold chars; simp
  refine ⟨fun e => by show z.cps.size ≤ i; omega, fun d e => ?_⟩
  unfold chars at e
  rw [List.getElem?_map] at e
  cases q : z.cps.toList[i]? with
  | none => rw [q] at e; cases e
  | some c =>
    rw [q] at e
    cases e
    have q' : z.cps[i]? = some c := by simpa using q
    refine ⟨(Array.getElem?_eq_some_iff.mp q').1, fun x H' y => ?_⟩
    obtain ⟨rfl, c', e1, rfl⟩ := y
    rw [q'] at e1; cases e1
    exact ⟨F1, b.refl, .inl (.str _)⟩
def rangeL (lo c : Int) (n : Nat) : List PD := (List.range n).map fun i : Nat => .int (lo + (i : Int) * c)
theorem rangeL_len (lo c : Int) (n : Nat) : (rangeL lo c n).length = n := by unfold rangeL; simp
theorem rangeL_get {lo c : Int} {n i : Nat} {d : PD} (h : (rangeL lo c n)[i]? = some d) : i < n ∧ d = .int (lo + (i : Int) * c) := by
  unfold rangeL at h
  rw [List.getElem?_map] at h
  by_cases hi : i < n
  · rw [List.getElem?_range hi] at h
    cases h
    exact ⟨hi, rfl⟩
  · rw [List.getElem?_eq_none (by simpa using hi)] at h; cases h
theorem iter_rng {K : PySem.W.Frag} {sa : Addr} {F : Hp} {lo : Int} {n : Nat} : IterOk K sa (Itr lo n) F (rangeL lo 1 n) := by
  intro i F1 H1 st sm b
  refine ⟨fun e => by rw [rangeL_len] at e; exact Nat.le_of_eq e.symm, fun d e => ?_⟩
  obtain ⟨hi, rfl⟩ := rangeL_get e
  refine ⟨hi, fun x H' y => ?_⟩
  obtain ⟨rfl, rfl⟩ := y
  rw [Int.mul_one]
  exact ⟨F1, b.refl, .inl (.int _)⟩
theorem iter_rngC {K : PySem.W.Frag} {sa : Addr} {F : Hp} {lo c : Int} {n : Nat} : IterOk K sa (Itc lo c n) F (rangeL lo c n) := by
  intro i F1 H1 st sm b
  refine ⟨fun e => by rw [rangeL_len] at e; exact Nat.le_of_eq e.symm, fun d e => ?_⟩
  obtain ⟨hi, rfl⟩ := rangeL_get e
  refine ⟨hi, fun x H' y => ?_⟩
  obtain ⟨rfl, rfl⟩ := y
  exact ⟨F1, b.refl, .inl (.int _)⟩
def itemsD : PD → Option (List PD)
  | .list ds => some ds
  | .tuple ds => some ds
  | .str z => some (chars z)
  | _ => none
def iAny (f : Env → M PD) : Env → M (List PD) := fun env st => (f env st).bind fun d s => R.ofO (itemsD d) s
def rngOk (i : Int) : Bool := decide (-(2 ^ 62) ≤ i) && decide (i < 2 ^ 62)
def rng1D : List PD → Option (List PD)
  | [.int j] => if rngOk j = true then some (rangeL 0 1 j.toNat) else none
  | _ => none
def rng2D : List PD → Option (List PD)
  | [.int i, .int j] => if (rngOk i && rngOk j) = true then some (rangeL i 1 (j - i).toNat) else none
  | _ => none
def rng3D : List PD → Option (List PD)
  | [.int i, .int j, .int c] => if c ≠ 0 ∧ c.natAbs < 1073741824 ∧ Builtin.Range.small i j c = true ∧ 0 ≤ Builtin.Range.rangeSize i j c then some (rangeL i c (Builtin.Range.rangeSize i j c).toNat) else none
  | _ => none
def iRng (g : List PD → Option (List PD)) (f : Env → M (List PD)) : Env → M (List PD) := fun env st => (f env st).bind fun ds s => R.ofO (g ds) s
theorem pi_or {X : Cx} {tg iter : Expr} {w1 w2 : TI} (a : PI X tg iter w1) (b : PI X tg iter w2) : PI X tg iter (fun σ H R => w1 σ H R ∨ w2 σ H R) := ⟨fun pins s σ H R I h => by
  rcases h with h | h
  · exact a.run pins s σ H R I h
  · exact b.run pins s σ H R I h⟩
def iAnyT (K : PySem.W.Frag) (t : TE) : TI := fun σ H R => iList K t σ H R ∨ iTup K t σ H R ∨ iStr t σ H R
theorem RDs.one {K : PySem.W.Frag} {sa : Addr} {F : Hp} {vs : List V} {d : PD} (h : RDs K sa F vs [d]) : ∃ v, vs = [v] ∧ RD K sa F v d := by
  cases h with
  | cons h1 h2 => cases h2; exact ⟨_, rfl, h1⟩
theorem rngOk_iff {i : Int} (h : rngOk i = true) : -(2 ^ 62) ≤ i ∧ i < 2 ^ 62 := by
  unfold rngOk at h
  rw [Bool.and_eq_true] at h
  exact ⟨of_decide_eq_true h.1, of_decide_eq_true h.2⟩
section
variable {X : Cx} {K : PySem.W.Frag} {mg : Str → Option Value} {W : WX} {tg e a b c : Expr} {te : TE} {fe : Env → M PD} {ta : TA} {fa : Env → M (List PD)} {p pos : Pos}
theorem di_any (h : DE X K mg W e te fe) (ok : OkX X K mg := by exact ⟨rfl, rfl⟩) : DI X K mg W tg e (iAnyT K te) (iAny fe) := by
  obtain ⟨rfl, rfl⟩ := ok
  exact ⟨pi_or (pi_list h.pe) (pi_or (pi_tup h.pe) (pi_str h.pe)), fun sa F0 H0 F H σ env st R s p => by
  have tryL : Post X.mg W sa σ F H (rE X.K sa) (fe env st) (fun x H1 => ∃ a, x = .ref a ∧ (∃ xs, SqL X.K H1 a xs) ∧ R (Itl X.K a) H1) → iAnyT X.K te σ H R := fun q => .inl (h.rf sa F0 H0 F H σ env st _ s q)
  have tryT : Post X.mg W sa σ F H (rE X.K sa) (fe env st) (fun x H1 => ∃ a, x = .ref a ∧ (∃ xs, SqT X.K H1 a xs) ∧ R (Itt X.K a) H1) → iAnyT X.K te σ H R := fun q => .inr (.inl (h.rf sa F0 H0 F H σ env st _ s q))
  have tryS : Post X.mg W sa σ F H (rE X.K sa) (fe env st) (fun v H1 => ∃ x, v = .str x ∧ R (Its x) H1) → iAnyT X.K te σ H R := fun q => .inr (.inr (h.rf sa F0 H0 F H σ env st _ s q))
  unfold iAny at p
  cases q : fe env st with
  | ex c st' => rw [q] at p tryL; exact tryL p
  | bad => rw [q] at p; exact p.elim
  | ok d st' =>
    rw [q] at p tryL tryT tryS
    cases d with
    | list ds =>
      refine tryL fun v F' H' p1 r1 => ?_
      obtain ⟨a, us, rfl, h1, h2⟩ := r1.lst
      exact ⟨a, rfl, ⟨us, SqL.of (p1.bs.sub _ _ h1)⟩, p _ F' H' p1 (iter_list h1 h2)⟩
    | tuple ds =>
      refine tryT fun v F' H' p1 r1 => ?_
      obtain ⟨a, us, rfl, h1, h2⟩ := r1.tup
      exact ⟨a, rfl, ⟨us, sqT_mono p1.bs.sub h1⟩, p _ F' H' p1 (iter_tup h1 h2)⟩
    | str z => exact tryS fun v F' H' p1 r1 => ⟨z, r1.str, p _ F' H' p1 iter_str⟩
    | none => exact p.elim
    | bool b => exact p.elim
    | int b => exact p.elim
    | dict b => exact p.elim⟩
theorem di_rng1 (hm : mg "range" = none) (ha : DA X K mg W [a] ta fa) (hg : Gl X "range" := by rfl) (hs : starEach [a] X.env = [(false, eval a X.env)] := by rfl) (ok : OkX X K mg := by exact ⟨rfl, rfl⟩) : DI X K mg W tg (.Call (.Name "range" p) [a] [] pos) (iRng1 ta) (iRng rng1D fa) := by
  obtain ⟨rfl, rfl⟩ := ok
  exact ⟨pi_range1 hg hm ha.pe hs, fun sa F0 H0 F H σ env st R s p => by
  refine Ref.bind (ta := ta) mono_I ha.rf s p fun x F1 H1 ds st1 p1 s1 r1 p => ?_
  cases hz : rng1D ds with
  | none => rw [hz] at p; exact p.elim
  | some z =>
    rw [hz] at p
    unfold rng1D at hz
    split at hz
    · split at hz
      · rename_i hk
        cases hz
        obtain ⟨v, rfl, r⟩ := r1.one
        have := rngOk_iff hk
        exact ⟨_, by rw [r.int], this.1, this.2, p _ F1 H1 s1.bs.refl iter_rng⟩
      · cases hz
    · cases hz⟩
theorem di_rng2 (hm : mg "range" = none) (ha : DA X K mg W [a, b] ta fa) (hg : Gl X "range" := by rfl) (hs : starEach [a, b] X.env = [(false, eval a X.env), (false, eval b X.env)] := by rfl) (hs2 : starEach [b] X.env = [(false, eval b X.env)] := by rfl) (ok : OkX X K mg := by exact ⟨rfl, rfl⟩) :
    DI X K mg W tg (.Call (.Name "range" p) [a, b] [] pos) (iRng2 ta) (iRng rng2D fa) := by
  obtain ⟨rfl, rfl⟩ := ok
  exact ⟨pi_range2 hg hm ha.pe hs hs2, fun sa F0 H0 F H σ env st R s p => by
  refine Ref.bind (ta := ta) mono_I ha.rf s p fun x F1 H1 ds st1 p1 s1 r1 p => ?_
  cases hz : rng2D ds with
  | none => rw [hz] at p; exact p.elim
  | some z =>
    rw [hz] at p
    unfold rng2D at hz
    split at hz
    · split at hz
      · rename_i hk
        cases hz
        cases r1 with
        | cons q1 q2 =>
          obtain ⟨v, rfl, r⟩ := q2.one
          rw [Bool.and_eq_true] at hk
          have h1 := rngOk_iff hk.1
          have h2 := rngOk_iff hk.2
          exact ⟨_, _, by rw [q1.int, r.int], ⟨h1.1, h1.2, h2.1, h2.2⟩, p _ F1 H1 s1.bs.refl iter_rng⟩
      · cases hz
    · cases hz⟩
theorem di_rng3 (hm : mg "range" = none) (ha : DA X K mg W [a, b, c] ta fa) (hg : Gl X "range" := by rfl) (hs : starEach [a, b, c] X.env = (false, eval a X.env) :: starEach [b, c] X.env := by rfl) (hpl : (backTo pos (starEach [b, c] X.env)).any (·.1) = false := by rfl) (ok : OkX X K mg := by exact ⟨rfl, rfl⟩) :
    DI X K mg W tg (.Call (.Name "range" p) [a, b, c] [] pos) (iRng3 ta) (iRng rng3D fa) := by
  obtain ⟨rfl, rfl⟩ := ok
  exact ⟨pi_range3 hg hm ha.pe hs hpl, fun sa F0 H0 F H σ env st R s p => by
  refine Ref.bind (ta := ta) mono_I ha.rf s p fun x F1 H1 ds st1 p1 s1 r1 p => ?_
  cases hz : rng3D ds with
  | none => rw [hz] at p; exact p.elim
  | some z =>
    rw [hz] at p
    unfold rng3D at hz
    split at hz
    · split at hz
      · rename_i hk
        cases hz
        cases r1 with
        | cons q1 q2 =>
          cases q2 with
          | cons q2 q3 =>
            obtain ⟨v, rfl, r⟩ := q3.one
            exact ⟨_, _, _, _, by rw [q1.int, q2.int, r.int], ⟨hk.1, hk.2.1, hk.2.2.1, by omega⟩, p _ F1 H1 s1.bs.refl iter_rngC⟩
      · cases hz
    · cases hz⟩
end

/-! ### targets -/
def RefG (K : PySem.W.Frag) (g : TG) (f : PD → Env → Option Env) (sl : List Nat) : Prop := ∀ sa F0 H0 F H σ env st x d (Q : L2.St → Hp → Prop) env', Sim K sa F0 H0 F H σ env st → RD K sa F x d → f d env = some env' →
  (∀ σ', Sim K sa F0 H0 F H σ' env' st → (∀ vs : List Nat, (∀ i ∈ sl, i ∈ vs) → wipe σ' vs = wipe σ vs) → Q σ' H) → g x σ H Q
def RefGs (K : PySem.W.Frag) (g : TGs) (f : List PD → Env → Option Env) (sl : List Nat) : Prop := ∀ sa F0 H0 F H σ env st xs ds (Q : L2.St → Hp → Prop) env', Sim K sa F0 H0 F H σ env st → DVs K F xs ds → f ds env = some env' →
  (∀ σ', Sim K sa F0 H0 F H σ' env' st → (∀ vs : List Nat, (∀ i ∈ sl, i ∈ vs) → wipe σ' vs = wipe σ vs) → Q σ' H) → g xs σ H Q
structure DG (X : Cx) (K : PySem.W.Frag) (tg : Expr) (g : TG) (f : PD → Env → Option Env) (sl : List Nat) : Prop where
  pg : PG X tg g
  rf : RefG K g f sl
structure DGs (X : Cx) (K : PySem.W.Frag) (tg : List Expr) (g : TGs) (f : List PD → Env → Option Env) (sl : List Nat) : Prop where
  pg : PGs X tg g
  rf : RefGs K g f sl
theorem Sim.setV {K : PySem.W.Frag} {sa : Addr} {F0 H0 F H : Hp} {σ : L2.St} {env : Env} {st : S} {i : Nat} {v : V} {d : PD} (s : Sim K sa F0 H0 F H σ env st) (r : RD K sa F v d) : Sim K sa F0 H0 F H (σ.set i (some v)) (env.set i (some (.v d))) st where
  s0 := s.s0
  stp := s.stp
  len := by rw [List.length_set, List.length_set]; exact s.len
  vals := fun j d' e => by
    by_cases hj : i = j
    · subst hj
      by_cases hl : i < env.length
      · rw [List.getElem?_set_self hl] at e
        cases e
        exact ⟨v, List.getElem?_set_self (by rw [← s.len]; exact hl), r⟩
      · rw [List.getElem?_eq_none (by simpa using hl)] at e; cases e
    · rw [List.getElem?_set_ne hj] at e ⊢
      exact s.vals j d' e
  own := fun j xs e => by
    by_cases hj : i = j
    · subst hj
      by_cases hl : i < env.length
      · rw [List.getElem?_set_self hl] at e; cases e
      · rw [List.getElem?_eq_none (by simpa using hl)] at e; cases e
    · rw [List.getElem?_set_ne hj] at e ⊢
      exact s.own j xs e
  dis := fun j k xs ys a e1 e2 e3 e4 => by
    have nj : i ≠ j := fun z => by
      subst z
      by_cases hl : i < env.length
      · rw [List.getElem?_set_self hl] at e1; cases e1
      · rw [List.getElem?_eq_none (by simpa using hl)] at e1; cases e1
    have nk : i ≠ k := fun z => by
      subst z
      by_cases hl : i < env.length
      · rw [List.getElem?_set_self hl] at e2; cases e2
      · rw [List.getElem?_eq_none (by simpa using hl)] at e2; cases e2
    rw [List.getElem?_set_ne nj] at e1 e3
    rw [List.getElem?_set_ne nk] at e2 e4
    exact s.dis j k xs ys a e1 e2 e3 e4
theorem wipe_set {i : Nat} {x : Option V} : ∀ {vs : List Nat} {σ : L2.St}, i ∈ vs → wipe (σ.set i x) vs = wipe σ vs
  | [], _, h => absurd h (by simp)
  | v :: vs, σ, h => by
    show (wipe (σ.set i x) vs).set v none = (wipe σ vs).set v none
    by_cases hm : i ∈ vs
    · rw [wipe_set hm]
    · have e : v = i := by
        rcases List.mem_cons.mp h with e | e
        · exact e.symm
        · exact absurd e hm
      subst e
      have comm : ∀ (us : List Nat) (σ : L2.St), v ∉ us → wipe (σ.set v x) us = (wipe σ us).set v x := by
        intro us
        induction us with
        | nil => intro σ _; rfl
        | cons u us ih =>
          intro σ hn
          show (wipe (σ.set v x) us).set u none = ((wipe σ us).set u none).set v x
          rw [ih σ (fun z => hn (List.mem_cons_of_mem _ z)), List.set_comm _ _ (fun z => hn (by rw [z]; exact List.mem_cons_self))]
      rw [comm vs σ hm, List.set_set]
def tgN (i : Nat) : PD → Env → Option Env := fun d env => some (env.set i (some (.v d)))
def tgsNil : List PD → Env → Option Env := fun ds env => match ds with
  | [] => some env
  | _ :: _ => none
def tgsCons (f : PD → Env → Option Env) (g : List PD → Env → Option Env) : List PD → Env → Option Env := fun ds env => match ds with
  | [] => none
  | d :: r => (f d env).bind fun env1 => g r env1
def tgT (n : Nat) (g : List PD → Env → Option Env) : PD → Env → Option Env := fun d env => match d with
  | .tuple ds => if ds.length = n then g ds env else none
  | .list ds => if ds.length = n then g ds env else none
  | _ => none
def gTL (K : PySem.W.Frag) (n : Nat) (t : TGs) : TG := fun v σ H Q => gTup K n t v σ H Q ∨ gUnl K n t v σ H Q
section
variable {X : Cx} {K : PySem.W.Frag} {mg : Str → Option Value} {pos : Pos}
theorem dg_name {i : Nat} {x : Str} (hN : X.N.Nodup) (hi : X.N[i]? = some x := by rfl) (hx : Loc X.env.scope x := by first | exact Or.inl rfl | exact Or.inr rfl) (hf : X.fn x = true ∨ X.env.scope.names.lookup x = some .local := by first | exact .inl rfl | exact .inr rfl | assumption) (ok : X.K = K := by rfl) :
    DG X K (.Name x pos) (gName i) (tgN i) [i] := by
  subst ok
  exact ⟨pg_name hN hi hx hf, fun sa F0 H0 F H σ env st x d Q env' s r e k => by
  cases e
  exact k _ (s.setV r) fun vs h => wipe_set (h i (by simp))⟩
theorem dgs_nil (ok : X.K = K := by rfl) : DGs X K [] gNil tgsNil [] := by
  subst ok
  exact ⟨pgs_nil, fun sa F0 H0 F H σ env st xs ds Q env' s r e k => by
  unfold tgsNil at e
  split at e
  · cases e
    cases r
    exact ⟨rfl, k σ s fun _ _ => rfl⟩
  · cases e⟩
theorem dgs_cons {a : Expr} {es : List Expr} {t : TG} {u : TGs} {f : PD → Env → Option Env} {g : List PD → Env → Option Env} {sl sr : List Nat} (h1 : DG X K a t f sl) (h2 : DGs X K es u g sr)
    (hs : (assignEach (a :: es) X.env).map (·.2) = assign a X.env :: (assignEach es X.env).map (·.2) := by rfl) (ok : X.K = K := by rfl) : DGs X K (a :: es) (gCons t u) (tgsCons f g) (sl ++ sr) := by
  subst ok
  exact ⟨pgs_cons h1.pg h2.pg hs, fun sa F0 H0 F H σ env st xs ds Q env' s r e k => by
  unfold tgsCons at e
  split at e
  · cases e
  · rename_i d rr
    cases r with
    | cons r1 r2 =>
      cases q : f d env with
      | none => rw [q] at e; cases e
      | some env1 =>
        rw [q] at e
        refine ⟨_, _, rfl, h1.rf sa F0 H0 F H σ env st _ d _ env1 s (.inl r1) q fun σ1 s1 w1 => ?_⟩
        exact h2.rf sa F0 H0 F H σ1 env1 st _ rr Q env' s1 r2 e fun σ2 s2 w2 => k σ2 s2 fun vs h => by
          rw [w2 vs fun i hi => h i (List.mem_append_right _ hi), w1 vs fun i hi => h i (List.mem_append_left _ hi)]⟩
theorem dg_tup {es : List Expr} {kk : Nat} {t : TGs} {n : Nat} {g : List PD → Env → Option Env} {sl : List Nat} (h : DGs X K es t g sl) (hc : X.calm = true := by rfl) (hn : (assignEach es X.env).length = n := by rfl) (hst : (assignEach es X.env).findIdx? (·.1) = none := by rfl) (ok : X.K = K := by rfl) :
    DG X K (.Tuple es kk pos) (gTL K n t) (tgT n g) sl := by
  subst ok
  exact ⟨⟨fun pins s σ H v u Q I r hw => hw.elim ((pg_tup hc h.pg hn hst).run pins s σ H v u Q I r) ((pg_unl hc h.pg hn hst).run pins s σ H v u Q I r)⟩, fun sa F0 H0 F H σ env st x d Q env' s r e k => by
  unfold tgT at e
  split at e
  · split at e
    · rename_i hl
      obtain ⟨a, us, rfl, h1, h2⟩ := r.tup
      exact .inl ⟨a, us, rfl, sqT_mono s.bs.sub h1, by rw [h2.len]; exact hl, h.rf sa F0 H0 F H σ env st us _ Q env' s h2 e k⟩
    · cases e
  · split at e
    · rename_i hl
      obtain ⟨a, us, rfl, h1, h2⟩ := r.lst
      exact .inr ⟨a, us, rfl, SqL.of (s.bs.sub _ _ h1), by rw [h2.len]; exact hl, h.rf sa F0 H0 F H σ env st us _ Q env' s h2 e k⟩
    · cases e
  · cases e⟩
end

/-! ### list comprehensions -/
def wipeE (env : Env) : List Nat → Env
  | [] => env
  | v :: vs => (wipeE env vs).set v none
theorem wipeE_some {env : Env} {i : Nat} {x : Sl} : ∀ {vs : List Nat}, (wipeE env vs)[i]? = some (some x) → env[i]? = some (some x) ∧ i ∉ vs
  | [], h => ⟨h, by simp⟩
  | v :: vs, h => by
    unfold wipeE at h
    by_cases hi : v = i
    · subst hi
      by_cases hv : v < (wipeE env vs).length
      · rw [List.getElem?_set_self hv] at h; cases h
      · rw [List.getElem?_eq_none (by simpa using hv)] at h; cases h
    · rw [List.getElem?_set_ne hi] at h
      obtain ⟨h1, h2⟩ := wipeE_some h
      exact ⟨h1, by simp only [List.mem_cons, not_or]; exact ⟨fun e => hi e.symm, h2⟩⟩
theorem wipeE_length (env : Env) : ∀ vs : List Nat, (wipeE env vs).length = env.length
  | [] => rfl
  | v :: vs => by unfold wipeE; rw [List.length_set, wipeE_length env vs]
theorem wipe_out {σ : L2.St} {i : Nat} : ∀ {vs : List Nat}, i ∉ vs → (wipe σ vs)[i]? = σ[i]?
  | [], _ => rfl
  | v :: vs, h => by
    show ((wipe σ vs).set v none)[i]? = _
    rw [List.getElem?_set_ne (fun z => h (by rw [z]; exact List.mem_cons_self)), wipe_out (fun z => h (List.mem_cons_of_mem _ z))]
theorem wipe_in {σ : L2.St} {i : Nat} : ∀ {vs : List Nat}, i ∈ vs → (wipe σ vs)[i]? = if i < σ.length then some none else none
  | [], h => absurd h (by simp)
  | v :: vs, h => by
    show ((wipe σ vs).set v none)[i]? = _
    by_cases e : v = i
    · subst e
      by_cases hl : v < σ.length
      · rw [if_pos hl, List.getElem?_set_self (by rw [wipe_length]; exact hl)]
      · rw [if_neg hl, List.getElem?_eq_none (by rw [List.length_set, wipe_length]; omega)]
    · rw [List.getElem?_set_ne e, wipe_in (by
        rcases List.mem_cons.mp h with z | z
        · exact absurd z.symm e
        · exact z)]
theorem wipe_idem (σ : L2.St) (vs : List Nat) : wipe (wipe σ vs) vs = wipe σ vs := by
  refine List.ext_getElem? fun i => ?_
  by_cases h : i ∈ vs
  · rw [wipe_in h, wipe_in h, wipe_length]
  · rw [wipe_out h, wipe_out h]
theorem Sim.wipe {K : PySem.W.Frag} {sa : Addr} {F0 H0 F H : Hp} {σ : L2.St} {env : Env} {st : S} (s : Sim K sa F0 H0 F H σ env st) (vs : List Nat) : Sim K sa F0 H0 F H (L2.wipe σ vs) (wipeE env vs) st where
  s0 := s.s0
  stp := s.stp
  len := by rw [wipeE_length, wipe_length]; exact s.len
  vals := fun i d e => by
    obtain ⟨e1, e2⟩ := wipeE_some e
    rw [wipe_out e2]
    exact s.vals i d e1
  own := fun i xs e => by
    obtain ⟨e1, e2⟩ := wipeE_some e
    rw [wipe_out e2]
    exact s.own i xs e1
  dis := fun i j xs ys a e1 e2 e3 e4 => by
    obtain ⟨e1, n1⟩ := wipeE_some e1
    obtain ⟨e2, n2⟩ := wipeE_some e2
    rw [wipe_out n1] at e3
    rw [wipe_out n2] at e4
    exact s.dis i j xs ys a e1 e2 e3 e4
theorem Sim.updFree {K : PySem.W.Frag} {sa : Addr} {F0 H0 F H : Hp} {σ : L2.St} {env : Env} {st : S} {D : Addr} (o : HO) (s : Sim K sa F0 H0 F H σ env st) (hF : F D = none) (h0 : H0 D = none)
    (no : ∀ (i : Nat) (xs : List PD), env[i]? = some (some (.o xs)) → σ[i]? ≠ some (some (.ref D))) : Sim K sa F0 H0 F (upd H D o) σ env st where
  s0 := s.s0
  stp := by
    have ne := s.ne h0
    refine ⟨s.stp.fm, s.stp.fn, fun b x e nb => ?_, fun b x e => ?_, s.bs.fsa, ?_⟩
    · rw [upd_ne (ne_of_none e h0)]; exact s.stp.pr b x e nb
    · rw [upd_ne (ne_of_none e hF)]; exact s.bs.sub b x e
    · obtain ⟨sc, e1, e2⟩ := s.bs.sr
      exact ⟨sc, by rw [upd_ne ne.symm]; exact e1, e2⟩
  len := s.len
  vals := s.vals
  own := fun i xs e => by
    obtain ⟨a, vs, e1, e2, e3, e4, r⟩ := s.own i xs e
    refine ⟨a, vs, e1, ?_, e3, e4, r⟩
    rw [upd_ne fun z => no i xs e (by rw [e1, z])]
    exact e2
  dis := s.dis
def R.noex {α : Type} (r : R α) : R α := match r with
  | .ex _ _ => .bad
  | r => r
@[simp] theorem R.noex_ok {α : Type} (a : α) (s : S) : (R.ok a s).noex = .ok a s := rfl
def compGo (env : Env) (tg : PD → Env → Option Env) (tf : Env → M Bool) (ef : Env → M PD) : List PD → M (List PD)
  | [], s => .ok [] s
  | d :: ds, s => (R.ofO (tg d env) s).bind fun env2 s1 => (tf env2 s1).noex.bind fun b s2 => match b with
    | true => (ef env2 s2).noex.bind fun y s3 => if isD y = true then (compGo env tg tf ef ds s3).bind fun r s4 => .ok (y :: r) s4 else .bad
    | false => compGo env tg tf ef ds s2
def nComp (itf : Env → M (List PD)) (tg : PD → Env → Option Env) (tf : Env → M Bool) (ef : Env → M PD) (vs : List Nat) : Env → M (List PD) := fun env st => (itf env st).bind fun ds s => if ds.length ≤ 10000000 then compGo (wipeE env vs) tg tf ef ds s else .bad
def tYesF : Env → M Bool := fun _ st => .ok true st
structure DTs (X : Cx) (K : PySem.W.Frag) (mg : Str → Option Value) (W : WX) (ifs : List Expr) (t : TT) (f : Env → M Bool) : Prop where
  pt : PTs X ifs t
  rf : Ref K mg W rT t f
theorem dts_nil {X : Cx} {K : PySem.W.Frag} {mg : Str → Option Value} {W : WX} (ok : OkX X K mg := by exact ⟨rfl, rfl⟩) : DTs X K mg W [] tYes tYesF := by
  obtain ⟨rfl, rfl⟩ := ok
  exact ⟨pts_nil, fun sa F0 H0 F H σ env st Q s p => p true F H s.bs.refl rfl⟩
theorem dts_one {X : Cx} {K : PySem.W.Frag} {mg : Str → Option Value} {W : WX} {c : Expr} {t : TT} {f : Env → M Bool} (h : DT X K mg W c t f) (ok : OkX X K mg := by exact ⟨rfl, rfl⟩) : DTs X K mg W [c] t f := by
  obtain ⟨rfl, rfl⟩ := ok
  exact ⟨pts_one h.pe, h.rf⟩
abbrev W0 : WX := fun _ _ _ _ => False
theorem Post.noex {α β : Type} {mg : Str → Option Value} {sa : Addr} {σ : L2.St} {F H : Hp} {rel : Hp → Hp → Hp → β → α → Prop} {r : R α} {Q : β → Hp → Prop} (h : ∀ a s', r = .ok a s' → ∀ v F' H', Stp sa F H F' H' s' → rel H F' H' v a → Q v H') (hn : r.noex ≠ .bad) : Post mg W0 sa σ F H rel r Q := by
  cases r with
  | ok a s' => exact h a s' rfl
  | ex c s' => exact absurd rfl hn
  | bad => exact absurd rfl hn
theorem ref_comp {K : PySem.W.Frag} {mg : Str → Option Value} {W : WX} {wi : TI} {itf : Env → M (List PD)} {g : TG} {tgf : PD → Env → Option Env} {sl : List Nat} {tt : TT} {tf : Env → M Bool} {te : TE} {ef : Env → M PD} {vs : List Nat}
    (hi : Ref K mg W (rIt K) wi itf) (hg : RefG K g tgf sl) (ht : Ref K mg W0 rT tt tf) (he : Ref K mg W0 (rE K) te ef) (hsl : ∀ i ∈ sl, i ∈ vs) : Ref K mg W (rN K) (tLc wi g tt te vs) (nComp itf tgf tf ef vs) := fun sa F0 H0 F H σ env st Q s p => by
  refine Ref.bind (ta := wi) mono_N hi s p fun J F1 H1 ds st1 p1 s1 r1 p => ?_
  intro D hD
  split at p
  · rename_i hlen
    have hD0 : H0 D = none := by
      cases q : H0 D with
      | none => rfl
      | some o =>
        have := s1.stp.pr D o q (s1.bs.ne hD)
        rw [hD] at this; cases this
    have nown : ∀ (i : Nat) (xs : List PD), (wipeE env vs)[i]? = some (some (.o xs)) → (L2.wipe σ vs)[i]? ≠ some (some (.ref D)) := fun i xs e z => by
      obtain ⟨a, us, e1, e2, _⟩ := (s1.wipe vs).own i xs e
      rw [z] at e1; cases e1
      rw [hD] at e2; cases e2
    refine ⟨fun i m H' => ∃ F' st' acc us, m = ds.length - i ∧ i ≤ ds.length ∧ acc.length ≤ i ∧ Sim K sa F0 H0 F' H' (L2.wipe σ vs) (wipeE env vs) st' ∧ Stp sa F1 H1 F' H' st' ∧ H' D = some (.lst us) ∧ F' D = none ∧ DVs K F' us acc ∧
        Post mg W sa σ F1 H1 (rN K sa) ((compGo (wipeE env vs) tgf tf ef (ds.drop i) st').bind fun r s4 => .ok (acc ++ r) s4) Q, ⟨ds.length, F1, st1, [], [], rfl, Nat.zero_le _, Nat.le_refl _, (s1.wipe vs).updFree _ (s1.bs.ff hD) hD0 nown, s1.bs.newU hD _, upd_same, s1.bs.ff hD, .nil, ?_⟩, ?_⟩
    · rw [List.drop_zero]
      cases q : compGo (wipeE env vs) tgf tf ef ds st1 with
      | ok a s' => rw [q] at p; exact p
      | ex c s' => rw [q] at p; exact p
      | bad => rw [q] at p; exact p
    · rintro i m H2 ⟨F2, st2, acc, us, rfl, hi, ha, s2, p2, e1, e2, e3, p⟩
      obtain ⟨stop, go⟩ := r1 i F2 H2 st2 p2.fm s2.bs
      by_cases hlt : i < ds.length
      · obtain ⟨jgo, yld⟩ := go ds[i] (List.getElem?_eq_getElem hlt)
        rw [List.drop_eq_getElem_cons hlt] at p
        unfold compGo at p
        refine .inr ⟨jgo, _, fun H' h => ⟨ds.length - (i + 1), by omega, h⟩, fun x H3 hy => ?_⟩
        obtain ⟨F3, p3, rx⟩ := yld x H3 hy
        have s3 := s2.step p3
        cases q1 : tgf ds[i] (wipeE env vs) with
        | none => rw [q1] at p; exact p.elim
        | some env2 =>
          rw [q1, R.ofO_some, R.bind_ok] at p
          refine hg sa F0 H0 F3 H3 _ _ st2 x ds[i] _ env2 s3 rx q1 fun σ2 s4 w4 => ⟨?_, ?_⟩
          · rw [w4 vs hsl, wipe_idem]
          · refine ht sa F0 H0 F3 H3 σ2 env2 st2 _ s4 ?_
            cases q2 : tf env2 st2 with
            | bad => rw [q2] at p; exact p.elim
            | ex c s' => rw [q2] at p; exact p.elim
            | ok b st4 =>
              rw [q2, R.noex_ok, R.bind_ok] at p
              intro b' F4 H4 p4 eb
              have eb' : b' = b := eb
              subst eb'
              have s5 := s4.step p4
              -- what a turn comes to
              have dn : ∀ {F' H' st'}, Stp sa F3 H3 F' H' st' → Stp sa F2 H2 F' H' st' := fun q => p3.trans q
              have keepD : ∀ {F' H' st'}, Stp sa F3 H3 F' H' st' → H' D = some (.lst us) ∧ F' D = none := fun {F' H' st'} q => by
                have q' := dn q
                have hd : H' D = some (.lst us) := q'.pr D _ e1 (s2.ne hD0)
                refine ⟨hd, ?_⟩
                cases z : F' D with
                | none => rfl
                | some o =>
                  have := q'.fn D e2 (by rw [z]; exact fun y => nomatch y)
                  rw [e1] at this; cases this
              cases b' with
              | false =>
                refine iteF ?_
                obtain ⟨k1, k2⟩ := keepD p4
                exact ⟨F4, st4, acc, us, rfl, hlt, by omega, s2.step (dn p4), p2.trans (dn p4), k1, k2, e3.mono (dn p4).fm, p⟩
              | true =>
                refine iteT ?_
                refine he sa F0 H0 F4 H4 σ2 env2 st4 _ s5 ?_
                cases q3 : ef env2 st4 with
                | bad => rw [q3] at p; exact p.elim
                | ex c s' => rw [q3] at p; exact p.elim
                | ok y st5 =>
                  rw [q3, R.noex_ok, R.bind_ok] at p
                  intro yv F5 H5 p5 ry
                  by_cases hy2 : isD y = true
                  · rw [if_pos hy2] at p
                    have p45 := p4.trans p5
                    obtain ⟨k1, k2⟩ := keepD p45
                    have l1 : us.length = acc.length := e3.len
                    refine ⟨us, k1, by rw [l1, sizeLine_eq]; omega, F5, st5, acc ++ [y], us ++ [yv], rfl, hlt, by rw [List.length_append]; simp; omega, (s2.step (dn p45)).updFree _ k2 hD0 nown, ?_, upd_same, k2, (e3.mono (dn p45).fm).append (.cons (ry.dv' hy2) .nil), ?_⟩
                    · have t := p2.trans (dn p45)
                      refine ⟨t.fm, t.fn, fun b x e nb => ?_, ((s2.step (dn p45)).updFree (.lst (us ++ [yv])) k2 hD0 nown).bs⟩
                      rw [upd_ne (ne_of_none e hD)]
                      exact t.pr b x e nb
                    · cases q4 : compGo (wipeE env vs) tgf tf ef (ds.drop (i + 1)) st5 with
                      | ok a s' =>
                        rw [q4] at p
                        show Post mg W sa σ F1 H1 (rN K sa) (R.ok ((acc ++ [y]) ++ a) s') Q
                        rw [List.append_assoc]
                        exact p
                      | ex c s' => rw [q4] at p; exact p
                      | bad => rw [q4] at p; exact p
                  · rw [if_neg hy2] at p
                    exact p.elim
      · have ei : i = ds.length := by omega
        refine .inl ⟨stop ei, ?_⟩
        rw [ei, List.drop_length] at p
        unfold compGo at p
        rw [R.bind_ok, List.append_nil] at p
        exact p _ F2 H2 p2 ⟨D, us, rfl, e1, e2, hD, e3⟩
  · exact p.elim
section
variable {X : Cx} {K : PySem.W.Frag} {mg : Str → Option Value} {W : WX} {elt tg iter : Expr} {ifs : List Expr} {scope : Scope} {own : List (Str × Nat)} {pos : Pos} {wi : TI} {g : TG} {tt : TT} {te : TE} {itf : Env → M (List PD)} {tgf : PD → Env → Option Env} {sl : List Nat} {tf : Env → M Bool} {ef : Env → M PD}
theorem dn_comp {vs : List Nat} (hN : X.N.Nodup) (ok : BlkOk X.N X.env.scope scope own) (hi : DI X K mg W tg iter wi itf)
    (hg : ∀ (s : Shared) (H : Hp) (C : Addr) (cl : List (Str × Addr)) (fp : List Addr), DG (X.blk s H scope (compEnvC scope cl C X.env) fp) K tg g tgf sl)
    (ht : ∀ (s : Shared) (H : Hp) (C : Addr) (cl : List (Str × Addr)) (fp : List Addr), DTs (X.blk s H scope (compEnvC scope cl C X.env) fp) K mg W0 ifs tt tf)
    (he : ∀ (s : Shared) (H : Hp) (C : Addr) (cl : List (Str × Addr)) (fp : List Addr), DE (X.blk s H scope (compEnvC scope cl C X.env) fp) K mg W0 elt te ef)
    (hsl : ∀ i ∈ sl, i ∈ vs) (inh : Shared) (hvs : own.map (·.2) = vs := by rfl) (hc : X.calm = true := by rfl) (hs : ∀ x, foldedSetIterable iter X.env x = pure x := by intro _; rfl) (ok : OkX X K mg := by exact ⟨rfl, rfl⟩) :
    DN X K mg W (.ListComp elt [⟨tg, iter, ifs, 0⟩] scope pos) (tLc wi g tt te vs) (nComp itf tgf tf ef vs) := by
  obtain ⟨rfl, rfl⟩ := ok
  subst hvs
  exact ⟨pe_lc hc hN hi.pi ok (fun s H C cl fp => (hg s H C cl fp).pg) (fun s H C cl fp => (ht s H C cl fp).pt) (fun s H C cl fp => (he s H C cl fp).pe) hs,
   ref_comp hi.rf (hg inh (fun _ => none) 0 [] []).rf (ht inh (fun _ => none) 0 [] []).rf (he inh (fun _ => none) 0 [] []).rf hsl⟩
end
end DL
/-! DL5: statements and defs. -/
namespace DL
open PySem PySem.Spec PyProof.Rows L2

inductive Out where
  | nx (env : Env)
  | rt (d : PD)
  | bk (env : Env)
  | ct (env : Env)
  | ex (c : Str) (env : Env)
inductive RS where
  | ok (o : Out) (s : S)
  | bad
abbrev MS := Env → S → RS
@[reducible] def RS.of {α : Type} (env : Env) (r : R α) (k : α → S → RS) : RS := match r with
  | .ok a s => k a s
  | .ex c s => .ok (.ex c env) s
  | .bad => .bad
@[simp] theorem RS.of_ok {α : Type} (env : Env) (a : α) (s : S) (k : α → S → RS) : RS.of env (.ok a s) k = k a s := rfl
@[simp] theorem RS.of_ex {α : Type} (env : Env) (c : Str) (s : S) (k : α → S → RS) : RS.of env (.ex c s : R α) k = .ok (.ex c env) s := rfl
@[simp] theorem RS.of_bad {α : Type} (env : Env) (k : α → S → RS) : RS.of env (.bad : R α) k = .bad := rfl

def PostS (K : PySem.W.Frag) (mg : Str → Option Value) (W : WX) (sa : Addr) (F0 H0 : Hp) (D : Ends) (r : RS) : Prop := match r with
  | .ok (.nx env) st => ∀ F H σ, Sim K sa F0 H0 F H σ env st → D.nx σ H
  | .ok (.bk env) st => ∀ F H σ, Sim K sa F0 H0 F H σ env st → D.bk σ H
  | .ok (.ct env) st => ∀ F H σ, Sim K sa F0 H0 F H σ env st → D.ct σ H
  | .ok (.rt d) st => ∀ v F H, Stp sa F0 H0 F H st → RD K sa F v d → D.rt v H
  | .ok (.ex c env) st => ∀ F H σ C, Sim K sa F0 H0 F H σ env st → mg c = some (.ref C) → W (.ref C) none σ H
  | .bad => False
def RefS (K : PySem.W.Frag) (mg : Str → Option Value) (W : WX) (t : TS) (g : MS) : Prop :=
  ∀ sa F0 H0 F H σ env st D, Sim K sa F0 H0 F H σ env st → PostS K mg W sa F0 H0 D (g env st) → t D σ H
structure DS (X : Cx) (K : PySem.W.Frag) (mg : Str → Option Value) (W : WX) (st : Stmt) (t : TS) (g : MS) : Prop where
  ps : PS X st t
  rf : RefS K mg W t g
structure DSs (X : Cx) (K : PySem.W.Frag) (mg : Str → Option Value) (W : WX) (st : List Stmt) (t : TS) (g : MS) : Prop where
  ps : PSs X st t
  rf : RefS K mg W t g
theorem Ref.stm {α β : Type} {K : PySem.W.Frag} {mg : Str → Option Value} {W : WX} {sa : Addr} {F0 H0 F H : Hp} {σ : L2.St} {env : Env} {st : S} {D : Ends} {rel : Addr → Hp → Hp → Hp → β → α → Prop} {ta : L2.St → Hp → (β → Hp → Prop) → Prop} {fa : Env → M α} {k : α → S → RS} {Q' : β → Hp → Prop}
    (ha : Ref K mg W rel ta fa) (s : Sim K sa F0 H0 F H σ env st) (h : PostS K mg W sa F0 H0 D (RS.of env (fa env st) k))
    (hk : ∀ x F1 H1 d st1, Stp sa F H F1 H1 st1 → Sim K sa F0 H0 F1 H1 σ env st1 → rel sa H F1 H1 x d → PostS K mg W sa F0 H0 D (k d st1) → Q' x H1) : ta σ H Q' := by
  refine ha sa F0 H0 F H σ env st Q' s ?_
  cases e : fa env st with
  | ok d st1 =>
    rw [e] at h
    exact fun v F1 H1 p r => hk v F1 H1 d st1 p (s.step p) r h
  | ex c st1 =>
    rw [e] at h
    exact fun F' H' C p hm => h F' H' σ C (s.step p) hm
  | bad => rw [e] at h; exact h

/-! ### blocks and small statements -/
def sSkip : MS := fun env st => .ok (.nx env) st
def sSeq (f g : MS) : MS := fun env st => match f env st with
  | .ok (.nx env') st' => g env' st'
  | r => r
def sSet (i : Nat) (f : Env → M PD) : MS := fun env st => RS.of env (f env st) fun d s => .ok (.nx (env.set i (some (.v d)))) s
def sAsg (f : Env → M PD) (tg : PD → Env → Option Env) : MS := fun env st => RS.of env (f env st) fun d s => match tg d env with
  | some env' => .ok (.nx env') s
  | none => .bad
def sRet (f : Env → M PD) : MS := fun env st => RS.of env (f env st) fun d s => .ok (.rt d) s
def sRetN : MS := fun _ st => .ok (.rt .none) st
def sExpr (f : Env → M PD) : MS := fun env st => RS.of env (f env st) fun _ s => .ok (.nx env) s
def sIf (c : Env → M Bool) (f g : MS) : MS := fun env st => RS.of env (c env st) fun b s => match b with
  | true => f env s
  | false => g env s
def sBrk : MS := fun env st => .ok (.bk env) st
def sCnt : MS := fun env st => .ok (.ct env) st
def sRaise (c : Str) : MS := fun env st => .ok (.ex c env) st
def sNever : MS := fun _ _ => .bad
section
variable {X : Cx} {K : PySem.W.Frag} {mg : Str → Option Value} {W : WX} {st : Stmt} {rest : List Stmt} {t u : TS} {f g : MS} {e : Expr} {te : TE} {fe : Env → M PD} {pos : Pos}
theorem dss_nil (ok : OkX X K mg := by exact ⟨rfl, rfl⟩) : DSs X K mg W [] tNext sSkip := by
  obtain ⟨rfl, rfl⟩ := ok
  exact ⟨pss_nil, fun sa F0 H0 F H σ env st D s p => p F H σ s⟩
theorem refS_seq {K : PySem.W.Frag} {mg : Str → Option Value} (h1 : RefS K mg W t f) (h2 : RefS K mg W u g) : RefS K mg W (tSeq t u) (sSeq f g) := fun sa F0 H0 F H σ env st D s p => by
  refine h1 sa F0 H0 F H σ env st _ s ?_
  unfold sSeq at p
  cases q : f env st with
  | bad => rw [q] at p; exact p
  | ok o st' =>
    rw [q] at p
    cases o with
    | nx env' => exact fun F1 H1 σ1 s1 => h2 sa F0 H0 F1 H1 σ1 env' st' D s1 p
    | bk env' => exact p
    | ct env' => exact p
    | rt d => exact p
    | ex c env' => exact p
theorem dss_cons (h1 : DS X K mg W st t f) (h2 : DSs X K mg W rest u g) (ok : OkX X K mg := by exact ⟨rfl, rfl⟩) : DSs X K mg W (st :: rest) (tSeq t u) (sSeq f g) := by
  obtain ⟨rfl, rfl⟩ := ok
  exact ⟨pss_cons h1.ps h2.ps, refS_seq h1.rf h2.rf⟩
theorem dss_one (h1 : DS X K mg W st t f) (ok : OkX X K mg := by exact ⟨rfl, rfl⟩) : DSs X K mg W [st] t f := by
  obtain ⟨rfl, rfl⟩ := ok
  exact ⟨pss_one h1.ps, h1.rf⟩
theorem dss_never {sts : List Stmt} (ok : OkX X K mg := by exact ⟨rfl, rfl⟩) : DSs X K mg W sts tNever sNever := by
  obtain ⟨rfl, rfl⟩ := ok
  exact ⟨pss_never, fun _ _ _ _ _ _ _ _ _ _ p => p.elim⟩
theorem refS_set {K : PySem.W.Frag} {mg : Str → Option Value} {i : Nat} (he : Ref K mg W (rE K) te fe) : RefS K mg W (tAsg te (gName i)) (sSet i fe) := fun sa F0 H0 F H σ env st D s p => by
  refine Ref.stm (ta := te) he s p fun x F1 H1 d st1 p1 s1 r1 p => ?_
  exact p F1 H1 _ (s1.setV r1)
theorem ds_set {i : Nat} {x : Str} {pos' : Pos} (hN : X.N.Nodup) (he : DE X K mg W e te fe) (hi : X.N[i]? = some x := by rfl) (hx : Loc X.env.scope x := by first | exact Or.inl rfl | exact Or.inr rfl) (hs : swapsWith e (some (.Name x pos')) pos.line X.env = pure false := by rfl)
    (hf : X.fn x = true ∨ X.env.scope.names.lookup x = some .local := by first | exact .inl rfl | exact .inr rfl | assumption) (ok : OkX X K mg := by exact ⟨rfl, rfl⟩) : DS X K mg W (.Assign [.Name x pos'] e pos) (tAsg te (gName i)) (sSet i fe) := by
  obtain ⟨rfl, rfl⟩ := ok
  exact ⟨ps_set hN hi hx he.pe hs hf, refS_set he.rf⟩
theorem ds_asg {tg : Expr} {gg : TG} {tf : PD → Env → Option Env} {sl : List Nat} (he : DE X K mg W e te fe) (hg : DG X K tg gg tf sl) (hs : swapsWithSole [tg] e pos.line X.env = pure false := by rfl) (hw : swappedStores [tg] e X.env = pure none := by rfl)
    (h1 : (assignEach [tg] X.env).map (·.2) = [assign tg X.env] := by rfl) (ok : OkX X K mg := by exact ⟨rfl, rfl⟩) : DS X K mg W (.Assign [tg] e pos) (tAsg te gg) (sAsg fe tf) := by
  obtain ⟨rfl, rfl⟩ := ok
  exact ⟨ps_asg he.pe hg.pg hs hw h1, fun sa F0 H0 F H σ env st D s p => by
  refine Ref.stm (ta := te) he.rf s p fun x F1 H1 d st1 p1 s1 r1 p => ?_
  cases q : tf d env with
  | none => rw [q] at p; exact p.elim
  | some env' =>
    rw [q] at p
    exact hg.rf sa F0 H0 F1 H1 σ env st1 x d _ env' s1 r1 q fun σ' s' _ => p F1 H1 σ' s'⟩
/-- a, b = e1, e2 -/
def sPar2 (i j : Nat) (f : Env → M (List PD)) : MS := fun env st => RS.of env (f env st) fun ds s => match ds with
  | [d, e] => .ok (.nx ((env.set i (some (.v d))).set j (some (.v e)))) s
  | _ => .bad
theorem ds_par2 {i j : Nat} {x y : Str} {a b : Expr} {ta : TA} {fa : Env → M (List PD)} {px py pt : Pos} {kt k2 pt2} (hN : X.N.Nodup) (ha : DA X K mg W [a, b] ta fa) (hij : i ≠ j) (hi : X.N[i]? = some x := by rfl) (hj : X.N[j]? = some y := by rfl) (hc : X.calm = true := by rfl)
    (hx : X.env.scope.names.lookup x = some .local := by rfl) (hy : X.env.scope.names.lookup y = some .local := by rfl)
    (hw : swappedStores [.Tuple [.Name x px, .Name y py] kt pt] (.Tuple [a, b] k2 pt2) X.env = pure (some [x, y]) := by rfl)
    (hs : swapsWithSole [.Tuple [.Name x px, .Name y py] kt pt] (.Tuple [a, b] k2 pt2) pos.line X.env = pure false := by rfl) (ok : OkX X K mg := by exact ⟨rfl, rfl⟩) :
    DS X K mg W (.Assign [.Tuple [.Name x px, .Name y py] kt pt] (.Tuple [a, b] k2 pt2) pos) (tPar i j ta) (sPar2 i j fa) := by
  obtain ⟨rfl, rfl⟩ := ok
  exact ⟨ps_par hc hN hi hj hij hx hy ha.pe hw hs, fun sa F0 H0 F H σ env st D s p => by
  refine Ref.stm (ta := ta) ha.rf s p fun x F1 H1 ds st1 p1 s1 r1 p => ?_
  cases r1 with
  | nil => exact p.elim
  | cons q1 q2 =>
    cases q2 with
    | nil => exact p.elim
    | cons q2 q3 =>
      cases q3 with
      | nil => exact ⟨_, _, rfl, p F1 H1 _ ((s1.setV q1).setV q2)⟩
      | cons _ _ => exact p.elim⟩
def sPar3 (i j l : Nat) (f : Env → M (List PD)) : MS := fun env st => RS.of env (f env st) fun ds s => match ds with
  | [d, e, g] => .ok (.nx (((env.set i (some (.v d))).set j (some (.v e))).set l (some (.v g)))) s
  | _ => .bad
theorem ds_par3 {i j l : Nat} {x y z : Str} {a b c : Expr} {ta : TA} {fa : Env → M (List PD)} {px py pz pt : Pos} {kt k2 pt2} (hN : X.N.Nodup) (ha : DA X K mg W [a, b, c] ta fa) (hij : i ≠ j) (hil : i ≠ l) (hjl : j ≠ l) (hi : X.N[i]? = some x := by rfl) (hj : X.N[j]? = some y := by rfl) (hl : X.N[l]? = some z := by rfl) (hc : X.calm = true := by rfl)
    (hx : X.env.scope.names.lookup x = some .local := by rfl) (hy : X.env.scope.names.lookup y = some .local := by rfl) (hz : X.env.scope.names.lookup z = some .local := by rfl)
    (hw : swappedStores [.Tuple [.Name x px, .Name y py, .Name z pz] kt pt] (.Tuple [a, b, c] k2 pt2) X.env = pure (some [x, y, z]) := by rfl)
    (hs : swapsWithSole [.Tuple [.Name x px, .Name y py, .Name z pz] kt pt] (.Tuple [a, b, c] k2 pt2) pos.line X.env = pure false := by rfl) (ok : OkX X K mg := by exact ⟨rfl, rfl⟩) :
    DS X K mg W (.Assign [.Tuple [.Name x px, .Name y py, .Name z pz] kt pt] (.Tuple [a, b, c] k2 pt2) pos) (tPar3 i j l ta) (sPar3 i j l fa) := by
  obtain ⟨rfl, rfl⟩ := ok
  refine ⟨ps_par3 hc hN hi hj hl hij hil hjl hx hy hz ha.pe hw hs, fun sa F0 H0 F H σ env st D s p => ?_⟩
  refine Ref.stm (ta := ta) ha.rf s p fun x F1 H1 ds st1 p1 s1 r1 p => ?_
  cases r1 with
  | nil => exact p.elim
  | cons q1 q2 =>
    cases q2 with
    | nil => exact p.elim
    | cons q2 q3 =>
      cases q3 with
      | nil => exact p.elim
      | cons q3 q4 =>
        cases q4 with
        | nil => exact ⟨_, _, _, rfl, p F1 H1 _ (((s1.setV q1).setV q2).setV q3)⟩
        | cons _ _ => exact p.elim
/-- name op= e -/
def sAug (i : Nat) (op : S → PD → PD → Option PD) (f : Env → M PD) : MS := fun env st => match env[i]? with
  | some (some (.v d)) => RS.of env (f env st) fun e s => match op s d e with
    | some z => .ok (.nx (env.set i (some (.v z)))) s
    | none => .bad
  | _ => .bad
theorem ds_aug {i : Nat} {x : Str} {op : Operator} {r : R2} {dop : S → PD → PD → Option PD} {pos' : Pos} (hN : X.N.Nodup) (ho : PIp X op r ∧ OpRef K r dop) (he : DE X K mg W e te fe) (hi : X.N[i]? = some x := by rfl) (hx : Loc X.env.scope x := by first | exact Or.inl rfl | exact Or.inr rfl)
    (hf : X.fn x = true ∨ X.env.scope.names.lookup x = some .local := by first | exact .inl rfl | exact .inr rfl | assumption) (ok : OkX X K mg := by exact ⟨rfl, rfl⟩) : DS X K mg W (.AugAssign (.Name x pos') op e pos) (tAug i te r) (sAug i dop fe) := by
  obtain ⟨rfl, rfl⟩ := ok
  exact ⟨ps_aug hN hi hx he.pe ho.1 hf, fun sa F0 H0 F H σ env st D s p => by
  unfold sAug at p
  split at p
  · rename_i d e1
    obtain ⟨v, e2, rv⟩ := s.vals i d e1
    refine ⟨v, e2, ?_⟩
    refine Ref.stm (ta := te) he.rf s p fun y F1 H1 e st1 p1 s1 r1 p => ?_
    cases hz : dop st1 d e with
    | none => rw [hz] at p; exact p.elim
    | some z =>
      rw [hz] at p
      exact ho.2 sa F1 H1 st1 v y d e z _ s1.bs (rv.mono p1.fm) r1 hz fun w F2 H2 p2 rw' => p F2 H2 _ ((s1.step p2).setV rw')
  · exact p.elim⟩
theorem ds_expr (he : DE X K mg W e te fe) (hs : swapsWith e none pos.line X.env = pure false := by rfl) (ok : OkX X K mg := by exact ⟨rfl, rfl⟩) : DS X K mg W (.Expr e pos) (tDrop te) (sExpr fe) := by
  obtain ⟨rfl, rfl⟩ := ok
  exact ⟨ps_expr he.pe hs, fun sa F0 H0 F H σ env st D s p => by
  refine Ref.stm (ta := te) he.rf s p fun y F1 H1 e st1 p1 s1 r1 p => ?_
  exact p F1 H1 σ s1⟩
theorem ds_ret (he : DE X K mg W e te fe) (ok : OkX X K mg := by exact ⟨rfl, rfl⟩) : DS X K mg W (.Return (some e) pos) (tRet te) (sRet fe) := by
  obtain ⟨rfl, rfl⟩ := ok
  exact ⟨ps_ret he.pe, fun sa F0 H0 F H σ env st D s p => by
  refine Ref.stm (ta := te) he.rf s p fun y F1 H1 e st1 p1 s1 r1 p => ?_
  exact p y F1 H1 s1.stp r1⟩
theorem ds_retN (ok : OkX X K mg := by exact ⟨rfl, rfl⟩) : DS X K mg W (.Return none pos) tRetN sRetN := by
  obtain ⟨rfl, rfl⟩ := ok
  exact ⟨ps_retN, fun sa F0 H0 F H σ env st D s p => p .non F H s.stp (.inl .non)⟩
theorem ds_if {c : Expr} {a b : List Stmt} {tc : TT} {fc : Env → M Bool} (hc : DT X K mg W c tc fc) (ha : DSs X K mg W a t f) (hb : DSs X K mg W b u g) (ok : OkX X K mg := by exact ⟨rfl, rfl⟩) : DS X K mg W (.If c a b pos) (tIfS tc t u) (sIf fc f g) := by
  obtain ⟨rfl, rfl⟩ := ok
  exact ⟨ps_if hc.pe ha.ps hb.ps, fun sa F0 H0 F H σ env st D s p => by
  refine Ref.stm (ta := tc) hc.rf s p fun y F1 H1 b st1 p1 s1 r1 p => ?_
  have r1' : y = b := r1
  subst r1'
  cases y with
  | true => exact iteT (ha.rf sa F0 H0 F1 H1 σ env st1 D s1 p)
  | false => exact iteF (hb.rf sa F0 H0 F1 H1 σ env st1 D s1 p)⟩
theorem ds_pass (ok : OkX X K mg := by exact ⟨rfl, rfl⟩) : DS X K mg W (.Pass pos) tNext sSkip := by
  obtain ⟨rfl, rfl⟩ := ok
  exact ⟨ps_pass, fun sa F0 H0 F H σ env st D s p => p F H σ s⟩
theorem ds_brk (ok : OkX X K mg := by exact ⟨rfl, rfl⟩) : DS X K mg W (.Break pos) tBreak sBrk := by
  obtain ⟨rfl, rfl⟩ := ok
  exact ⟨ps_break, fun sa F0 H0 F H σ env st D s p => p F H σ s⟩
theorem ds_cnt (ok : OkX X K mg := by exact ⟨rfl, rfl⟩) : DS X K mg W (.Continue pos) tCont sCnt := by
  obtain ⟨rfl, rfl⟩ := ok
  exact ⟨ps_continue, fun sa F0 H0 F H σ env st D s p => p F H σ s⟩
end
/-! #### op= -/
def rAddA : R2 := fun x y H Q => (rI0 fun i j => .int (i + j)) x y H Q ∨ (∃ i j, x = .str i ∧ y = .str j ∧ i.length + j.length ≤ sizeLine ∧ Q (.str (i ++ j)) H)
def opAddA : S → PD → PD → Option PD := fun _ d e => match d, e with
  | .int i, .int j => some (.int (i + j))
  | .str a, .str b => if a.length + b.length ≤ sizeLine then some (.str (a ++ b)) else none
  | _, _ => none
theorem addARef {K : PySem.W.Frag} : OpRef K rAddA opAddA := by
  intro sa F H st x y d e z Q b rx ry hz q
  unfold opAddA at hz
  split at hz
  · cases hz
    rw [rx.int, ry.int]
    exact .inl ⟨_, _, rfl, rfl, b.val q (.int _)⟩
  · split at hz
    · cases hz
      rw [rx.str, ry.str]
      exact .inr ⟨_, _, rfl, rfl, by assumption, b.val q (.str _)⟩
    · cases hz
  · cases hz
section
variable {X : Cx} {K : PySem.W.Frag} {mg : Str → Option Value}
theorem iop_mulW : OpR X (inplaceOp .Mult) (rI CMulW fun i j => .int (i * j)) := opI fun _ _ _ _ _ _ _ hc q => imul_int q hc.ok
theorem i_add (ok : OkX X K mg := by exact ⟨rfl, rfl⟩) : PIp X .Add rAddA ∧ OpRef K rAddA opAddA := by
  obtain ⟨rfl, rfl⟩ := ok
  exact ⟨iop_add.or iop_add_str, addARef⟩
theorem i_sub (ok : OkX X K mg := by exact ⟨rfl, rfl⟩) : PIp X .Sub (rI0 fun i j => .int (i - j)) ∧ OpRef K (rI0 fun i j => .int (i - j)) opSub := by
  obtain ⟨rfl, rfl⟩ := ok
  exact ⟨iop_sub, subRef⟩
def opMulI : S → PD → PD → Option PD := fun _ d e => match d, e with
  | .int i, .int j => if i.natAbs.log2 + j.natAbs.log2 < 1000000 then some (.int (i * j)) else none
  | _, _ => none
theorem mulIRef {K : PySem.W.Frag} : OpRef K (rI CMulW fun i j => .int (i * j)) opMulI := by
  intro sa F H st x y d e z Q b rx ry hz q
  unfold opMulI at hz
  split at hz
  · split at hz
    · rename_i hl
      cases hz
      rw [rx.int, ry.int]
      exact ⟨_, _, rfl, rfl, hl, b.val q (.int _)⟩
    · cases hz
  · cases hz
theorem i_mul (ok : OkX X K mg := by exact ⟨rfl, rfl⟩) : PIp X .Mult (rI CMulW fun i j => .int (i * j)) ∧ OpRef K (rI CMulW fun i j => .int (i * j)) opMulI := by
  obtain ⟨rfl, rfl⟩ := ok
  exact ⟨iop_mulW, mulIRef⟩
/-- op= // and % with a divisor above 0 -/
def opDivP : S → PD → PD → Option PD := fun _ d e => match d, e with
  | .int i, .int j => if 0 < j ∧ j < 1073741824 then some (.int (i / j)) else none
  | _, _ => none
def opModP : S → PD → PD → Option PD := fun _ d e => match d, e with
  | .int i, .int j => if 0 < j then some (.int (i % j)) else none
  | _, _ => none
theorem divPRef {K : PySem.W.Frag} : OpRef K (rI CDiv fun i j => .int (i / j)) opDivP := by
  intro sa F H st x y d e z Q b rx ry hz q
  unfold opDivP at hz
  split at hz
  · split at hz
    · rename_i hl
      cases hz
      rw [rx.int, ry.int]
      exact ⟨_, _, rfl, rfl, hl, b.val q (.int _)⟩
    · cases hz
  · cases hz
theorem modPRef {K : PySem.W.Frag} : OpRef K (rI (fun _ j => 0 < j) fun i j => .int (i % j)) opModP := by
  intro sa F H st x y d e z Q b rx ry hz q
  unfold opModP at hz
  split at hz
  · split at hz
    · rename_i hl
      cases hz
      rw [rx.int, ry.int]
      exact ⟨_, _, rfl, rfl, hl, b.val q (.int _)⟩
    · cases hz
  · cases hz
theorem i_div (ok : OkX X K mg := by exact ⟨rfl, rfl⟩) : PIp X .FloorDiv (rI CDiv fun i j => .int (i / j)) ∧ OpRef K (rI CDiv fun i j => .int (i / j)) opDivP := by
  obtain ⟨rfl, rfl⟩ := ok
  exact ⟨iop_fdiv, divPRef⟩
theorem i_mod (ok : OkX X K mg := by exact ⟨rfl, rfl⟩) : PIp X .Mod (rI (fun _ j => 0 < j) fun i j => .int (i % j)) ∧ OpRef K (rI (fun _ j => 0 < j) fun i j => .int (i % j)) opModP := by
  obtain ⟨rfl, rfl⟩ := ok
  exact ⟨iop_mod, modPRef⟩
end

/-! ### lists of one's own -/
section
variable {K : PySem.W.Frag} {sa : Addr} {F0 H0 F H : Hp} {σ : L2.St} {env : Env} {st : S} {i : Nat} {xs ys : List PD} {vs : List V} {a : Addr}
theorem Sim.setO (s : Sim K sa F0 H0 F H σ env st) (e1 : H a = some (.lst vs)) (e2 : F a = none) (e3 : H0 a = none) (e4 : DVs K F vs xs) (no : ∀ (j : Nat) (ys : List PD), env[j]? = some (some (.o ys)) → σ[j]? ≠ some (some (.ref a))) :
    Sim K sa F0 H0 F H (σ.set i (some (.ref a))) (env.set i (some (.o xs))) st where
  s0 := s.s0
  stp := s.stp
  len := by rw [List.length_set, List.length_set]; exact s.len
  vals := fun j d e => by
    by_cases hj : i = j
    · subst hj
      by_cases hl : i < env.length
      · rw [List.getElem?_set_self hl] at e; cases e
      · rw [List.getElem?_eq_none (by simpa using hl)] at e; cases e
    · rw [List.getElem?_set_ne hj] at e ⊢
      exact s.vals j d e
  own := fun j zs e => by
    by_cases hj : i = j
    · subst hj
      by_cases hl : i < env.length
      · rw [List.getElem?_set_self hl] at e
        cases e
        exact ⟨a, vs, List.getElem?_set_self (by rw [← s.len]; exact hl), e1, e2, e3, e4⟩
      · rw [List.getElem?_eq_none (by simpa using hl)] at e; cases e
    · rw [List.getElem?_set_ne hj] at e ⊢
      exact s.own j zs e
  dis := fun j k zs ys b h1 h2 h3 h4 => by
    by_cases hj : i = j
    · by_cases hk : i = k
      · exact hj.symm.trans hk
      · subst hj
        rw [List.getElem?_set_ne hk] at h2 h4
        by_cases hl : i < σ.length
        · rw [List.getElem?_set_self hl] at h3
          cases h3
          exact absurd h4 (no k ys h2)
        · rw [List.getElem?_eq_none (by simpa using hl)] at h3; cases h3
    · rw [List.getElem?_set_ne hj] at h1 h3
      by_cases hk : i = k
      · subst hk
        by_cases hl : i < σ.length
        · rw [List.getElem?_set_self hl] at h4
          cases h4
          exact absurd h3 (no j zs h1)
        · rw [List.getElem?_eq_none (by simpa using hl)] at h4; cases h4
      · rw [List.getElem?_set_ne hk] at h2 h4
        exact s.dis j k zs ys b h1 h2 h3 h4
/-- the list in slot i gets another content -/
theorem Sim.updO (s : Sim K sa F0 H0 F H σ env st) (he : env[i]? = some (some (.o xs))) (hs : σ[i]? = some (some (.ref a))) (e4 : DVs K F vs ys) : Sim K sa F0 H0 F (upd H a (.lst vs)) σ (env.set i (some (.o ys))) st := by
  obtain ⟨a', us, h1, h2, h3, h4, h5⟩ := s.own i xs he
  rw [hs] at h1
  cases h1
  have ne := s.ne h4
  have hl : i < env.length := (List.getElem?_eq_some_iff.mp he).1
  refine ⟨s.s0, ⟨s.stp.fm, s.stp.fn, fun b x e nb => ?_, fun b x e => ?_, s.bs.fsa, ?_⟩, by rw [List.length_set]; exact s.len, fun j d e => ?_, fun j zs e => ?_, fun j k zs ws b g1 g2 g3 g4 => ?_⟩
  · rw [upd_ne (ne_of_none e h4)]; exact s.stp.pr b x e nb
  · rw [upd_ne (ne_of_none e h3)]; exact s.bs.sub b x e
  · obtain ⟨sc, e1, e2⟩ := s.bs.sr
    exact ⟨sc, by rw [upd_ne ne.symm]; exact e1, e2⟩
  · by_cases hj : i = j
    · subst hj; rw [List.getElem?_set_self hl] at e; cases e
    · rw [List.getElem?_set_ne hj] at e; exact s.vals j d e
  · by_cases hj : i = j
    · subst hj
      rw [List.getElem?_set_self hl] at e
      cases e
      exact ⟨a, vs, hs, upd_same, h3, h4, e4⟩
    · rw [List.getElem?_set_ne hj] at e
      obtain ⟨b, ws, g1, g2, g3, g4, g5⟩ := s.own j zs e
      refine ⟨b, ws, g1, ?_, g3, g4, g5⟩
      rw [upd_ne fun z => hj (s.dis i j xs zs a he e hs (by rw [g1, z]))]
      exact g2
  · have back : ∀ {j : Nat} {zs : List PD}, (env.set i (some (.o ys)))[j]? = some (some (.o zs)) → ∃ zs', env[j]? = some (some (.o zs')) := fun {j zs} e => by
      by_cases hj : i = j
      · subst hj; exact ⟨xs, he⟩
      · rw [List.getElem?_set_ne hj] at e; exact ⟨zs, e⟩
    obtain ⟨_, q1⟩ := back g1
    obtain ⟨_, q2⟩ := back g2
    exact s.dis j k _ _ b q1 q2 g3 g4
/-- .. is frozen -/
theorem Sim.freeze (s : Sim K sa F0 H0 F H σ env st) (he : env[i]? = some (some (.o xs))) : ∃ F', Same F F' ∧ Sim K sa F0 H0 F' H σ (env.set i (some (.v (.list xs)))) st := by
  obtain ⟨a, us, h1, h2, h3, h4, h5⟩ := s.own i xs he
  have hl : i < env.length := (List.getElem?_eq_some_iff.mp he).1
  have sm : Same F (upd F a (.lst us)) := same_upd h3
  refine ⟨upd F a (.lst us), sm, s.s0, s.stp.freeze h2 h3 h4 (s.ne h4), by rw [List.length_set]; exact s.len, fun j d e => ?_, fun j zs e => ?_, fun j k zs ws b g1 g2 g3 g4 => ?_⟩
  · by_cases hj : i = j
    · subst hj
      rw [List.getElem?_set_self hl] at e
      cases e
      exact ⟨_, h1, .inl (.lst upd_same (h5.mono sm))⟩
    · rw [List.getElem?_set_ne hj] at e
      obtain ⟨v, e1, r⟩ := s.vals j d e
      exact ⟨v, e1, r.mono sm⟩
  · by_cases hj : i = j
    · subst hj; rw [List.getElem?_set_self hl] at e; cases e
    · rw [List.getElem?_set_ne hj] at e
      obtain ⟨b, ws, g1, g2, g3, g4, g5⟩ := s.own j zs e
      refine ⟨b, ws, g1, g2, ?_, g4, g5.mono sm⟩
      rw [upd_ne fun z => hj (s.dis i j xs zs a he e h1 (by rw [g1, z]))]
      exact g3
  · have back : ∀ {j : Nat} {zs : List PD}, (env.set i (some (.v (.list xs))))[j]? = some (some (.o zs)) → env[j]? = some (some (.o zs)) := fun {j zs} e => by
      by_cases hj : i = j
      · subst hj; rw [List.getElem?_set_self hl] at e; cases e
      · rw [List.getElem?_set_ne hj] at e; exact e
    exact s.dis j k _ _ b (back g1) (back g2) g3 g4
end
def sFrz (i : Nat) (g : MS) : MS := fun env st => match env[i]? with
  | some (some (.o xs)) => g (env.set i (some (.v (.list xs)))) st
  | _ => g env st
def sNew (i : Nat) (f : Env → M (List PD)) : MS := fun env st => RS.of env (f env st) fun xs s => .ok (.nx (env.set i (some (.o xs)))) s
def sApp (i : Nat) (f : Env → M PD) : MS := fun env st => match env[i]? with
  | some (some (.o xs)) => RS.of env (f env st) fun d s => if isD d = true ∧ xs.length ≤ 10000000 then .ok (.nx (env.set i (some (.o (xs ++ [d]))))) s else .bad
  | _ => .bad
def sExt (i : Nat) (f : Env → M PD) : MS := fun env st => match env[i]? with
  | some (some (.o xs)) => RS.of env (f env st) fun d s => match d with
    | .list ys => if xs.length + ys.length ≤ 10000000 then .ok (.nx (env.set i (some (.o (xs ++ ys))))) s else .bad
    | _ => .bad
  | _ => .bad
section
variable {X : Cx} {K : PySem.W.Frag} {mg : Str → Option Value} {W : WX} {sts : List Stmt} {t : TS} {g : MS} {e : Expr} {te : TE} {fe : Env → M PD} {fn : Env → M (List PD)} {pos apos cpos p2 pos' : Pos}
theorem dss_frz (i : Nat) (h : DSs X K mg W sts t g) (ok : OkX X K mg := by exact ⟨rfl, rfl⟩) : DSs X K mg W sts t (sFrz i g) := by
  obtain ⟨rfl, rfl⟩ := ok
  exact ⟨h.ps, fun sa F0 H0 F H σ env st D s p => by
  unfold sFrz at p
  split at p
  · rename_i xs he
    obtain ⟨F', _, s'⟩ := s.freeze he
    exact h.rf sa F0 H0 F' H σ _ st D s' p
  · exact h.rf sa F0 H0 F H σ _ st D s p⟩
theorem refS_new {K : PySem.W.Frag} {mg : Str → Option Value} {i : Nat} (he : Ref K mg W (rN K) te fn) : RefS K mg W (tAsg te (gName i)) (sNew i fn) := fun sa F0 H0 F H σ env st D s p => by
  refine Ref.stm (ta := te) he s p fun x F1 H1 d st1 p1 s1 r1 p => ?_
  obtain ⟨a, vs, rfl, e1, e2, e3, e4⟩ := r1
  have h0 : H0 a = none := by
    cases q : H0 a with
    | none => rfl
    | some o =>
      have := s.stp.pr a o q (s.bs.ne e3)
      rw [e3] at this; cases this
  refine p F1 H1 _ (s1.setO e1 e2 h0 e4 fun j ys e z => ?_)
  obtain ⟨b, us, g1, g2, _⟩ := s.own j ys e
  rw [z] at g1; cases g1
  rw [e3] at g2; cases g2
theorem ds_new {i : Nat} {x : Str} (hN : X.N.Nodup) (he : DN X K mg W e te fn) (hi : X.N[i]? = some x := by rfl) (hx : Loc X.env.scope x := by first | exact Or.inl rfl | exact Or.inr rfl) (hs : swapsWith e (some (.Name x pos')) pos.line X.env = pure false := by rfl)
    (hf : X.fn x = true ∨ X.env.scope.names.lookup x = some .local := by first | exact .inl rfl | exact .inr rfl | assumption) (ok : OkX X K mg := by exact ⟨rfl, rfl⟩) : DS X K mg W (.Assign [.Name x pos'] e pos) (tAsg te (gName i)) (sNew i fn) := by
  obtain ⟨rfl, rfl⟩ := ok
  exact ⟨ps_set hN hi hx he.pe hs hf, refS_new he.rf⟩
theorem ds_app (i : Nat) {x : Str} (he : DE X K mg W e te fe) (hN : X.N[i]? = some x := by rfl) (hv : Vis X.env.scope x := by first | exact Or.inl rfl | exact Or.inr (Or.inl rfl) | exact Or.inr (Or.inr rfl)) (hd : (x == ("__debug__" : Str)) = false := by decide) (hcd : (x == ("__classdict__" : Str)) = false := by decide)
    (hbase : attributeBase (.Name x p2) "append" X.env (eval (.Name x p2) X.env) = eval (.Name x p2) X.env := by rfl)
    (hfew : ((backTo cpos (starEach [e] X.env)).all (fun x => !x.1) && (backToKw cpos (keywordEach [] X.env)).all (fun x => x.1.isSome)
      && decide (([e] : List Expr).length + ([] : List Keyword).length + (if ([] : List Keyword).isEmpty then 0 else 1) < 30)) = true := by rfl)
    (hline : (apos.endLine == cpos.line) = true := by rfl) (hs : starEach [e] X.env = (false, eval e X.env) :: starEach [] X.env := by rfl) (hplain : (backTo cpos (starEach [] X.env)).any (·.1) = false := by rfl)
    (hsw : swapsWith (.Call (.Attribute (.Name x p2) "append" apos) [e] [] cpos) none pos.line X.env = pure false := by rfl) (ok : OkX X K mg := by exact ⟨rfl, rfl⟩) :
    DS X K mg W (.Expr (.Call (.Attribute (.Name x p2) "append" apos) [e] [] cpos) pos) (tDrop (tBM K "list" rAppend (tVar i) (tCons te tNil))) (sApp i fe) := by
  obtain ⟨rfl, rfl⟩ := ok
  exact ⟨ps_expr (pe_bm PySem.F.plainAttrs_list PySem.F.slot_list_append PySem.F.type_list_append mt_append (pe_var hN hv hd hcd) (pa_cons he.pe pa_nil hs) hbase hfew hline hs hplain) hsw, fun sa F0 H0 F H σ env st D s p => by
  unfold sApp at p
  split at p
  · rename_i xs h1
    obtain ⟨a, vs, g1, g2, g3, g4, g5⟩ := s.own i xs h1
    refine ⟨_, g1, .inl ⟨rfl, _, SqL.of g2⟩, ?_⟩
    refine Ref.stm (ta := te) he.rf s p fun y F1 H1 d st1 p1 s1 r1 p => ?_
    split at p
    · rename_i hk
      obtain ⟨a', vs', k1, k2, k3, k4, k5⟩ := s1.own i xs h1
      rw [g1] at k1; cases k1
      exact ⟨a, vs', y, rfl, rfl, k2, by rw [k5.len, sizeLine_eq]; omega, p F1 _ σ (s1.updO h1 g1 (k5.append (.cons (r1.dv' hk.1) .nil)))⟩
    · exact p.elim
  · exact p.elim⟩
theorem ds_ext (i : Nat) {x : Str} (he : DE X K mg W e te fe) (hN : X.N[i]? = some x := by rfl) (hv : Vis X.env.scope x := by first | exact Or.inl rfl | exact Or.inr (Or.inl rfl) | exact Or.inr (Or.inr rfl)) (hd : (x == ("__debug__" : Str)) = false := by decide) (hcd : (x == ("__classdict__" : Str)) = false := by decide)
    (hbase : attributeBase (.Name x p2) "extend" X.env (eval (.Name x p2) X.env) = eval (.Name x p2) X.env := by rfl)
    (hfew : ((backTo cpos (starEach [e] X.env)).all (fun x => !x.1) && (backToKw cpos (keywordEach [] X.env)).all (fun x => x.1.isSome)
      && decide (([e] : List Expr).length + ([] : List Keyword).length + (if ([] : List Keyword).isEmpty then 0 else 1) < 30)) = true := by rfl)
    (hline : (apos.endLine == cpos.line) = true := by rfl) (hs : starEach [e] X.env = (false, eval e X.env) :: starEach [] X.env := by rfl) (hplain : (backTo cpos (starEach [] X.env)).any (·.1) = false := by rfl)
    (hsw : swapsWith (.Call (.Attribute (.Name x p2) "extend" apos) [e] [] cpos) none pos.line X.env = pure false := by rfl) (ok : OkX X K mg := by exact ⟨rfl, rfl⟩) :
    DS X K mg W (.Expr (.Call (.Attribute (.Name x p2) "extend" apos) [e] [] cpos) pos) (tDrop (tBM K "list" rExtend (tVar i) (tCons te tNil))) (sExt i fe) := by
  obtain ⟨rfl, rfl⟩ := ok
  exact ⟨ps_expr (pe_bm PySem.F.plainAttrs_list PySem.F.slot_list_extend PySem.F.type_list_extend mt_extend (pe_var hN hv hd hcd) (pa_cons he.pe pa_nil hs) hbase hfew hline hs hplain) hsw, fun sa F0 H0 F H σ env st D s p => by
  unfold sExt at p
  split at p
  · rename_i xs h1
    obtain ⟨a, vs, g1, g2, g3, g4, g5⟩ := s.own i xs h1
    refine ⟨_, g1, .inl ⟨rfl, _, SqL.of g2⟩, ?_⟩
    refine Ref.stm (ta := te) he.rf s p fun y F1 H1 d st1 p1 s1 r1 p => ?_
    split at p
    · rename_i ys
      split at p
      · rename_i hk
        obtain ⟨a', vs', k1, k2, k3, k4, k5⟩ := s1.own i xs h1
        rw [g1] at k1; cases k1
        obtain ⟨b, us, rfl, l1, l2⟩ := r1.lst
        exact ⟨a, b, vs', us, rfl, rfl, k2, s1.bs.sub _ _ l1, by rw [k5.len, l2.len, sizeLine_eq]; omega, p F1 _ σ (s1.updO h1 g1 (k5.append l2))⟩
      · exact p.elim
    · exact p.elim
  · exact p.elim⟩
end
end DL
/-! DL6: loops, exceptions, defs, the law's state. -/
namespace DL
open PySem PySem.Spec PyProof.Rows L2

theorem Stp.leave {sa : Addr} {F0 H0 F1 H1 F H : Hp} {st1 st : S} (p : Stp sa F0 H0 F1 H1 st1) (q : Stp sa F1 H0 F H st) : Stp sa F0 H0 F H st where
  fm := p.fm.trans q.fm
  fn := fun b h n => by
    cases e : F1 b with
    | none => exact q.fn b e n
    | some o => exact p.fn b h (by rw [e]; exact fun z => nomatch z)
  pr := q.pr
  bs := q.bs
section
variable {K : PySem.W.Frag} {sa : Addr} {F0 H0 F1 H1 F H : Hp} {σ : L2.St} {env : Env} {st st1 : S}
theorem Sim.enter (s : Sim K sa F0 H0 F H σ env st) : Sim K sa F H0 F H σ env st := ⟨s.s0, ⟨Same.refl _, fun _ h n => absurd h n, s.stp.pr, s.bs⟩, s.len, s.vals, s.own, s.dis⟩
theorem Sim.leave (p : Stp sa F0 H0 F1 H1 st1) (s : Sim K sa F1 H0 F H σ env st) : Sim K sa F0 H0 F H σ env st := ⟨s.s0, p.leave s.stp, s.len, s.vals, s.own, s.dis⟩
end

/-! ### for -/
def forGo (tg : PD → Env → Option Env) (b : MS) : List PD → MS
  | [], env, st => .ok (.nx env) st
  | d :: ds, env, st => match tg d env with
    | none => .bad
    | some env1 => match b env1 st with
      | .ok (.nx e) s => forGo tg b ds e s
      | .ok (.ct e) s => forGo tg b ds e s
      | .ok (.bk e) s => .ok (.nx e) s
      | r => r
def sFor (itf : Env → M (List PD)) (tg : PD → Env → Option Env) (b : MS) : MS := fun env st => RS.of env (itf env st) fun ds s => forGo tg b ds env s
theorem refS_for {K : PySem.W.Frag} {mg : Str → Option Value} {W : WX} {wi : TI} {itf : Env → M (List PD)} {g : TG} {tgf : PD → Env → Option Env} {sl : List Nat} {tb : TS} {bf : MS}
    (hi : Ref K mg W (rIt K) wi itf) (hg : RefG K g tgf sl) (hb : RefS K mg W tb bf) : RefS K mg W (tFor wi g tb) (sFor itf tgf bf) := fun sa F0 H0 F H σ env st D s p => by
  refine Ref.stm (ta := wi) hi s p fun J F1 H1 ds st1 p1 s1 r1 p => ?_
  refine ⟨fun i m σ' H' => ∃ F' env' st', m = ds.length - i ∧ i ≤ ds.length ∧ Same F1 F' ∧ Sim K sa F0 H0 F' H' σ' env' st' ∧ PostS K mg W sa F0 H0 D (forGo tgf bf (ds.drop i) env' st'), ⟨ds.length, F1, env, st1, rfl, Nat.zero_le _, Same.refl _, s1, by rw [List.drop_zero]; exact p⟩, ?_⟩
  rintro i m σ2 H2 ⟨F2, env2, st2, rfl, hi', sm, s2, p⟩
  obtain ⟨stop, go⟩ := r1 i F2 H2 st2 sm s2.bs
  by_cases hlt : i < ds.length
  · obtain ⟨jgo, yld⟩ := go ds[i] (List.getElem?_eq_getElem hlt)
    rw [List.drop_eq_getElem_cons hlt] at p
    unfold forGo at p
    refine .inr ⟨jgo, fun σ' H' => ∃ F' env' st', i + 1 ≤ ds.length ∧ Same F1 F' ∧ Sim K sa F0 H0 F' H' σ' env' st' ∧ PostS K mg W sa F0 H0 D (forGo tgf bf (ds.drop (i + 1)) env' st'), fun σ' H' ⟨F', env', st', h1, h2, h3, h4⟩ => ⟨ds.length - (i + 1), by omega, F', env', st', rfl, h1, h2, h3, h4⟩, fun x H3 hy => ?_⟩
    obtain ⟨F3, p3, rx⟩ := yld x H3 hy
    have s3 := s2.step p3
    have sm3 : Same F1 F3 := sm.trans p3.fm
    cases q1 : tgf ds[i] env2 with
    | none => rw [q1] at p; exact p.elim
    | some env3 =>
      rw [q1] at p
      dsimp only at p
      refine hg sa F0 H0 F3 H3 _ _ st2 x ds[i] _ env3 s3 rx q1 fun σ4 s4 _ => ?_
      refine hb sa F3 H0 F3 H3 σ4 env3 st2 _ s4.enter ?_
      cases q2 : bf env3 st2 with
      | bad => rw [q2] at p; exact p.elim
      | ok o st5 =>
        rw [q2] at p
        cases o with
        | nx e => exact fun F6 H6 σ6 s6 => ⟨F6, e, st5, hlt, sm3.trans s6.stp.fm, Sim.leave s4.stp s6, p⟩
        | ct e => exact fun F6 H6 σ6 s6 => ⟨F6, e, st5, hlt, sm3.trans s6.stp.fm, Sim.leave s4.stp s6, p⟩
        | bk e => exact fun F6 H6 σ6 s6 => p F6 H6 σ6 (Sim.leave s4.stp s6)
        | rt d => exact fun v F6 H6 s6 r => p v F6 H6 (s4.stp.leave s6) r
        | ex c e => exact fun F6 H6 σ6 C s6 hm => p F6 H6 σ6 C (Sim.leave s4.stp s6) hm
  · have ei : i = ds.length := by omega
    refine .inl ⟨stop ei, ?_⟩
    rw [ei, List.drop_length] at p
    exact p F2 H2 σ2 s2
/-! ### while -/
def whIter (c : Env → M Bool) (b : MS) : Nat → Env → S → Option RS
  | 0, _, _ => none
  | n + 1, env, st => match c env st with
    | .ok true s => (match b env s with
      | .ok (.nx e) s' => whIter c b n e s'
      | .ok (.ct e) s' => whIter c b n e s'
      | .ok (.bk e) s' => some (.ok (.nx e) s')
      | r => some r)
    | .ok false s => some (.ok (.nx env) s)
    | .ex x s => some (.ok (.ex x env) s)
    | .bad => some .bad
theorem whIter_more {c : Env → M Bool} {b : MS} : ∀ {n : Nat} {env : Env} {st : S} {r : RS}, whIter c b n env st = some r → whIter c b (n + 1) env st = some r
  | 0, _, _, _, h => by cases h
  | n + 1, env, st, r, h => by
    unfold whIter at h ⊢
    cases q : c env st with
    | bad => rw [q] at h; exact h
    | ex x s => rw [q] at h; exact h
    | ok k s =>
      rw [q] at h
      cases k with
      | false => exact h
      | true =>
        dsimp only at h ⊢
        cases q2 : b env s with
        | bad => rw [q2] at h; exact h
        | ok o s' =>
          rw [q2] at h
          cases o with
          | nx e => exact whIter_more h
          | ct e => exact whIter_more h
          | bk e => exact h
          | rt d => exact h
          | ex x e => exact h
theorem whIter_le {c : Env → M Bool} {b : MS} {n m : Nat} {env : Env} {st : S} {r : RS} (h : whIter c b n env st = some r) (hm : n ≤ m) : whIter c b m env st = some r := by
  induction hm with
  | refl => exact h
  | step _ ih => exact whIter_more ih
open Classical in
noncomputable def sWhile (c : Env → M Bool) (b : MS) : MS := fun env st => if h : ∃ n r, whIter c b n env st = some r then h.choose_spec.choose else .bad
theorem sWhile_of {c : Env → M Bool} {b : MS} {n : Nat} {env : Env} {st : S} {r : RS} (h : whIter c b n env st = some r) : sWhile c b env st = r := by
  have hx : ∃ n r, whIter c b n env st = some r := ⟨n, r, h⟩
  unfold sWhile
  rw [dif_pos hx]
  have e := hx.choose_spec.choose_spec
  have h1 := whIter_le h (Nat.le_max_left n hx.choose)
  have h2 := whIter_le e (Nat.le_max_right n hx.choose)
  exact Option.some.inj (h2.symm.trans h1)
theorem sWhile_some {c : Env → M Bool} {b : MS} {env : Env} {st : S} (h : sWhile c b env st ≠ .bad) : ∃ n, whIter c b n env st = some (sWhile c b env st) := by
  by_cases hx : ∃ n r, whIter c b n env st = some r
  · obtain ⟨n, r, e⟩ := hx
    exact ⟨n, by rw [sWhile_of e]; exact e⟩
  · unfold sWhile at h
    rw [dif_neg hx] at h
    exact absurd rfl h
theorem sWhile_false {c : Env → M Bool} {b : MS} {env : Env} {st s : S} (h : c env st = .ok false s) : sWhile c b env st = .ok (.nx env) s := sWhile_of (n := 1) (by unfold whIter; rw [h])
theorem sWhile_true {c : Env → M Bool} {b : MS} {env e : Env} {st s s' : S} (h : c env st = .ok true s) (h2 : b env s = .ok (.nx e) s') : sWhile c b env st = sWhile c b e s' := by
  by_cases hx : ∃ n r, whIter c b n e s' = some r
  · obtain ⟨n, r, e1⟩ := hx
    rw [sWhile_of e1]
    refine sWhile_of (n := n + 1) ?_
    unfold whIter
    rw [h]
    dsimp only
    rw [h2]
    exact e1
  · have hy : ¬ ∃ n r, whIter c b n env st = some r := by
      rintro ⟨n, r, e1⟩
      cases n with
      | zero => cases e1
      | succ n =>
        unfold whIter at e1
        rw [h] at e1
        dsimp only at e1
        rw [h2] at e1
        exact hx ⟨n, r, e1⟩
    unfold sWhile
    rw [dif_neg hx, dif_neg hy]
theorem refS_while {K : PySem.W.Frag} {mg : Str → Option Value} {W : WX} {tc : TT} {cf : Env → M Bool} {tb : TS} {bf : MS} (hc : Ref K mg W rT tc cf) (hb : RefS K mg W tb bf) : RefS K mg W (tWhile tc tb) (sWhile cf bf) := fun sa F0 H0 F H σ env st D s p => by
  have hn : sWhile cf bf env st ≠ .bad := fun z => by rw [z] at p; exact p
  obtain ⟨n, e⟩ := sWhile_some hn
  refine ⟨fun m σ' H' => ∃ F' env' st' r, Sim K sa F0 H0 F' H' σ' env' st' ∧ whIter cf bf m env' st' = some r ∧ PostS K mg W sa F0 H0 D r, ⟨n, F, env, st, _, s, e, p⟩, ?_⟩
  rintro m σ2 H2 ⟨F2, env2, st2, r, s2, e2, p⟩
  cases m with
  | zero => cases e2
  | succ m =>
    unfold whIter at e2
    refine hc sa F0 H0 F2 H2 σ2 env2 st2 _ s2 ?_
    cases q : cf env2 st2 with
    | bad =>
      rw [q] at e2
      cases e2
      exact p
    | ex x st3 =>
      rw [q] at e2
      cases e2
      exact fun F' H' C p1 hm => p F' H' σ2 C (s2.step p1) hm
    | ok k st3 =>
      rw [q] at e2
      intro k' F3 H3 p3 ek
      have ek' : k' = k := ek
      subst ek'
      have s3 := s2.step p3
      cases k' with
      | false =>
        cases e2
        exact iteF (p F3 H3 σ2 s3)
      | true =>
        dsimp only at e2
        refine iteT ⟨fun σ' H' => ∃ F' env' st', Sim K sa F0 H0 F' H' σ' env' st' ∧ ∃ r, whIter cf bf m env' st' = some r ∧ PostS K mg W sa F0 H0 D r, fun σ' H' ⟨F', env', st', h1, r, h2, h3⟩ => ⟨m, Nat.lt_succ_self m, F', env', st', r, h1, h2, h3⟩, ?_⟩
        refine hb sa F0 H0 F3 H3 σ2 env2 st3 _ s3 ?_
        cases q2 : bf env2 st3 with
        | bad =>
          rw [q2] at e2
          cases e2
          exact p
        | ok o st4 =>
          rw [q2] at e2
          cases o with
          | nx e' => exact fun F4 H4 σ4 s4 => ⟨F4, e', st4, s4, r, e2, p⟩
          | ct e' => exact fun F4 H4 σ4 s4 => ⟨F4, e', st4, s4, r, e2, p⟩
          | bk e' => cases e2; exact p
          | rt d => cases e2; exact p
          | ex x e' => cases e2; exact p
section
variable {X : Cx} {K : PySem.W.Frag} {mg : Str → Option Value} {W : WX} {tg iter c : Expr} {body : List Stmt} {wi : TI} {itf : Env → M (List PD)} {g : TG} {tgf : PD → Env → Option Env} {sl : List Nat} {tb : TS} {bf : MS} {tc : TT} {cf : Env → M Bool} {pos : Pos}
theorem ds_for (hp : PassesOwn (model X.prog X.w) X.A X.env X.xe) (hi : DI X K mg W tg iter wi itf) (hg : DG X K tg g tgf sl) (hb : DSs X K mg W body tb bf) (hc : X.calm = true := by rfl) (hs : ∀ x, foldedSetIterable iter X.env x = pure x := by intro _; rfl) (ok : OkX X K mg := by exact ⟨rfl, rfl⟩) :
    DS X K mg W (.For tg iter body [] pos) (tFor wi g tb) (sFor itf tgf bf) := by
  obtain ⟨rfl, rfl⟩ := ok
  exact ⟨ps_for hp hc hi.pi hg.pg hb.ps hs, refS_for hi.rf hg.rf hb.rf⟩
theorem ds_while (hp : PassesOwn (model X.prog X.w) X.A X.env X.xe) (hc : DT X K mg W c tc cf) (hb : DSs X K mg W body tb bf) (ok : OkX X K mg := by exact ⟨rfl, rfl⟩) : DS X K mg W (.While c body [] pos) (tWhile tc tb) (sWhile cf bf) := by
  obtain ⟨rfl, rfl⟩ := ok
  exact ⟨ps_while hp hc.pe hb.ps, refS_while hc.rf hb.rf⟩
end

/-! ### y = [..] -/
section
variable {X : Cx} {K : PySem.W.Frag} {mg : Str → Option Value} {W : WX} {i : Nat} {y : Str} {py : Pos} {elt tg iter : Expr} {ifs : List Expr} {scope : Scope} {own : List (Str × Nat)} {pos spos : Pos} {wi : TI} {g : TG} {tt : TT} {te : TE} {itf : Env → M (List PD)} {tgf : PD → Env → Option Env} {sl : List Nat} {tf : Env → M Bool} {ef : Env → M PD}
theorem ps_setC (hN : X.N.Nodup) (hy : X.N[i]? = some y) (hyl : X.env.scope.names.lookup y = some .local) (hsw : swapsWith (.ListComp elt [⟨tg, iter, ifs, 0⟩] scope pos) (some (.Name y py)) spos.line X.env = pure true) (ok : BlkOk X.N X.env.scope scope own) (hi : DI X K mg W tg iter wi itf)
    (hg : ∀ (s : Shared) (H : Hp) (C : Addr) (cl : List (Str × Addr)) (fp : List Addr), DG (X.blk s H scope (compEnvC scope cl C X.env) fp) K tg g tgf sl)
    (ht : ∀ (s : Shared) (H : Hp) (C : Addr) (cl : List (Str × Addr)) (fp : List Addr), DTs (X.blk s H scope (compEnvC scope cl C X.env) fp) K mg W0 ifs tt tf)
    (he : ∀ (s : Shared) (H : Hp) (C : Addr) (cl : List (Str × Addr)) (fp : List Addr), DE (X.blk s H scope (compEnvC scope cl C X.env) fp) K mg W0 elt te ef) (hc : X.calm = true) (hs : ∀ x, foldedSetIterable iter X.env x = pure x) (ok : OkX X K mg := by exact ⟨rfl, rfl⟩) :
    PS X (.Assign [.Name y py] (.ListComp elt [⟨tg, iter, ifs, 0⟩] scope pos) spos) (tAsg (tLc wi g tt te (own.map (·.2))) (gName i)) := by
  obtain ⟨rfl, rfl⟩ := ok
  exact ps_setLc hc hN hy hyl hsw hi.pi ok (fun s H C cl fp => (hg s H C cl fp).pg) (fun s H C cl fp => (ht s H C cl fp).pt) (fun s H C cl fp => (he s H C cl fp).pe) hs
/-- .. a list of one's own -/
theorem ds_newC {vs : List Nat} (hN : X.N.Nodup) (ok : BlkOk X.N X.env.scope scope own) (hi : DI X K mg W tg iter wi itf)
    (hg : ∀ (s : Shared) (H : Hp) (C : Addr) (cl : List (Str × Addr)) (fp : List Addr), DG (X.blk s H scope (compEnvC scope cl C X.env) fp) K tg g tgf sl)
    (ht : ∀ (s : Shared) (H : Hp) (C : Addr) (cl : List (Str × Addr)) (fp : List Addr), DTs (X.blk s H scope (compEnvC scope cl C X.env) fp) K mg W0 ifs tt tf)
    (he : ∀ (s : Shared) (H : Hp) (C : Addr) (cl : List (Str × Addr)) (fp : List Addr), DE (X.blk s H scope (compEnvC scope cl C X.env) fp) K mg W0 elt te ef)
    (hsl : ∀ i ∈ sl, i ∈ vs) (inh : Shared) (hvs : own.map (·.2) = vs := by rfl) (hy : X.N[i]? = some y := by rfl) (hyl : X.env.scope.names.lookup y = some .local := by rfl) (hsw : swapsWith (.ListComp elt [⟨tg, iter, ifs, 0⟩] scope pos) (some (.Name y py)) spos.line X.env = pure true := by exact sw_true rfl rfl rfl (by decide +kernel)) (hc : X.calm = true := by rfl) (hs : ∀ x, foldedSetIterable iter X.env x = pure x := by intro _; rfl) (ok : OkX X K mg := by exact ⟨rfl, rfl⟩) :
    DS X K mg W (.Assign [.Name y py] (.ListComp elt [⟨tg, iter, ifs, 0⟩] scope pos) spos) (tAsg (tLc wi g tt te vs) (gName i)) (sNew i (nComp itf tgf tf ef vs)) := by
  obtain ⟨rfl, rfl⟩ := ok
  subst hvs
  exact
  ⟨ps_setC hN hy hyl hsw ok hi hg ht he hc hs, refS_new (ref_comp hi.rf (hg inh (fun _ => none) 0 [] []).rf (ht inh (fun _ => none) 0 [] []).rf (he inh (fun _ => none) 0 [] []).rf hsl)⟩
theorem ref_eL {K : PySem.W.Frag} {mg : Str → Option Value} {t : TE} {f : Env → M (List PD)} (h : Ref K mg W (rN K) t f) : Ref K mg W (rE K) t (eL f) := fun sa F0 H0 F H σ env st Q s p => by
  refine h sa F0 H0 F H σ env st Q s ?_
  unfold eL at p
  cases q : f env st with
  | ok xs st' =>
    rw [q] at p
    refine fun v F' H' p1 r1 => ?_
    obtain ⟨a, vs, rfl, e1, e2, e3, e4⟩ := r1
    have fz := p1.freeze e1 e2 e3 (s.bs.ne e3)
    exact p _ _ _ fz (.inl (.lst upd_same (e4.mono (same_upd e2))))
  | ex c st' => rw [q] at p; exact p
  | bad => rw [q] at p; exact p
/-- .. frozen at once -/
theorem ds_setC {vs : List Nat} (hN : X.N.Nodup) (ok : BlkOk X.N X.env.scope scope own) (hi : DI X K mg W tg iter wi itf)
    (hg : ∀ (s : Shared) (H : Hp) (C : Addr) (cl : List (Str × Addr)) (fp : List Addr), DG (X.blk s H scope (compEnvC scope cl C X.env) fp) K tg g tgf sl)
    (ht : ∀ (s : Shared) (H : Hp) (C : Addr) (cl : List (Str × Addr)) (fp : List Addr), DTs (X.blk s H scope (compEnvC scope cl C X.env) fp) K mg W0 ifs tt tf)
    (he : ∀ (s : Shared) (H : Hp) (C : Addr) (cl : List (Str × Addr)) (fp : List Addr), DE (X.blk s H scope (compEnvC scope cl C X.env) fp) K mg W0 elt te ef)
    (hsl : ∀ i ∈ sl, i ∈ vs) (inh : Shared) (hvs : own.map (·.2) = vs := by rfl) (hy : X.N[i]? = some y := by rfl) (hyl : X.env.scope.names.lookup y = some .local := by rfl) (hsw : swapsWith (.ListComp elt [⟨tg, iter, ifs, 0⟩] scope pos) (some (.Name y py)) spos.line X.env = pure true := by exact sw_true rfl rfl rfl (by decide +kernel)) (hc : X.calm = true := by rfl) (hs : ∀ x, foldedSetIterable iter X.env x = pure x := by intro _; rfl) (ok : OkX X K mg := by exact ⟨rfl, rfl⟩) :
    DS X K mg W (.Assign [.Name y py] (.ListComp elt [⟨tg, iter, ifs, 0⟩] scope pos) spos) (tAsg (tLc wi g tt te vs) (gName i)) (sSet i (eL (nComp itf tgf tf ef vs))) := by
  obtain ⟨rfl, rfl⟩ := ok
  subst hvs
  exact
  ⟨ps_setC hN hy hyl hsw ok hi hg ht he hc hs, refS_set (ref_eL (ref_comp hi.rf (hg inh (fun _ => none) 0 [] []).rf (ht inh (fun _ => none) 0 [] []).rf (he inh (fun _ => none) 0 [] []).rf hsl))⟩
end

/-! ### the state's fields stored -/
def stSet (st : S) (i : Int) (d : PD) : Option S :=
  if i = 1 then (asInt d).map fun n => { st with pos := n } else if i = 2 then (asInt d).map fun n => { st with cell := n } else if i = 3 then (asInt d).map fun n => { st with left := n } else if i = 4 then (asBool d).map fun n => { st with big := n } else none
/-- state[k] = e, k written -/
def sSt (i : Nat) (k : Int) (f : Env → M PD) : MS := fun env st => RS.of env (f env st) fun d s => match env[i]? with
  | some (some (.v (.dict []))) => (match stSet s k d with
    | some s' => .ok (.nx env) s'
    | none => .bad)
  | _ => .bad
theorem Sim.stW {K : PySem.W.Frag} {sa : Addr} {F0 H0 F H : Hp} {σ : L2.St} {env : Env} {st st' : S} {sc : Addr} (s : Sim K sa F0 H0 F H σ env st) (hc : F sc = some (.lst (st'.cells.map V.int))) : Sim K sa F0 H0 F (upd H sa (.lst (stV sc st'))) σ env st' where
  s0 := s.s0
  stp := by
    refine ⟨s.stp.fm, s.stp.fn, fun b x e nb => by rw [upd_ne nb]; exact s.stp.pr b x e nb, fun b x e => ?_, s.bs.fsa, sc, upd_same, hc⟩
    rw [upd_ne (ne_of_none e s.bs.fsa)]; exact s.bs.sub b x e
  len := s.len
  vals := s.vals
  own := fun i xs e => by
    obtain ⟨a, vs, e1, e2, e3, e4, r⟩ := s.own i xs e
    exact ⟨a, vs, e1, by rw [upd_ne (s.ne e4)]; exact e2, e3, e4, r⟩
  dis := s.dis
section
variable {X : Cx} {K : PySem.W.Frag} {mg : Str → Option Value} {W : WX} {e : Expr} {te : TE} {fe : Env → M PD} {pos px ps pk : Pos}
theorem ds_st (i : Nat) {x : Str} {k : Int} {j : Nat} (he : DE X K mg W e te fe) (hN : X.N[i]? = some x := by rfl) (hv : Vis X.env.scope x := by first | exact Or.inl rfl | exact Or.inr (Or.inl rfl) | exact Or.inr (Or.inr rfl)) (hd : (x == ("__debug__" : Str)) = false := by decide) (hcd : (x == ("__classdict__" : Str)) = false := by decide)
    (ha : ∀ v, assign (.Subscript (.Name x px) (.Constant (.int k) j pk) ps) X.env v = (do
      let ov ← holding [v] (eval (.Name x px) X.env)
      let iv ← holding [v, ov] (eval (.Constant (.int k) j pk) X.env)
      standAt ps
      holding [v, ov, iv] (setItem ov iv v)
      release [v, ov, iv] []) := by intro _; rfl)
    (hs : swapsWithSole [.Subscript (.Name x px) (.Constant (.int k) j pk) ps] e pos.line X.env = pure false := by rfl) (hw : swappedStores [.Subscript (.Name x px) (.Constant (.int k) j pk) ps] e X.env = pure none := by rfl)
    (h1 : (assignEach [.Subscript (.Name x px) (.Constant (.int k) j pk) ps] X.env).map (·.2) = [assign (.Subscript (.Name x px) (.Constant (.int k) j pk) ps) X.env] := by rfl) (ok : OkX X K mg := by exact ⟨rfl, rfl⟩) :
    DS X K mg W (.Assign [.Subscript (.Name x px) (.Constant (.int k) j pk) ps] e pos) (tAsg te (gSub (tVar i) (tC (.int k)) rSetL)) (sSt i k fe) := by
  obtain ⟨rfl, rfl⟩ := ok
  exact ⟨ps_asg he.pe (pg_sub (pe_var hN hv hd hcd) pe_int set_list ha) hs hw h1, fun sa F0 H0 F H σ env st D s p => by
  refine Ref.stm (ta := te) he.rf s p fun y F1 H1 d st1 p1 s1 r1 p => ?_
  split at p
  · rename_i e1
    obtain ⟨v, e2, rv⟩ := s1.vals i _ e1
    rw [rv.stt] at e2
    refine ⟨_, e2, ?_⟩
    obtain ⟨sc, g1, g2⟩ := s1.bs.sr
    unfold stSet at p
    have go : ∀ (jj : Nat) (st' : S), k = (jj : Int) → jj < 6 → st'.cells = st1.cells → (stV sc st1).set jj y = stV sc st' → PostS X.K X.mg W sa F0 H0 D (.ok (.nx env) st') →
        (∃ p xs k' j', V.ref sa = .ref p ∧ V.int k = .int k' ∧ H1 p = some (.lst xs) ∧ ixN xs.length k' = some j' ∧ D.nx σ (upd H1 p (.lst (xs.set j' y)))) := fun jj st' h1 h2 h3 h4 h5 => by
      subst h1
      refine ⟨sa, _, _, jj, rfl, rfl, g1, ?_, ?_⟩
      · unfold ixN
        rw [if_pos (by omega), if_pos (by show (jj : Int) < ((6 : Nat) : Int); omega)]
        simp
      · rw [h4]
        exact h5 F1 _ σ (s1.stW (by rw [h3]; exact g2))
    split at p
    · rename_i st' e3
      have int_of : ∀ {f : Int → S}, (asInt d).map f = some st' → ∃ n, y = .int n ∧ st' = f n := fun {f} h => by
        cases q : asInt d with
        | none => rw [q] at h; cases h
        | some n =>
          rw [q] at h
          cases h
          rw [asInt_eq q] at r1
          exact ⟨n, r1.int, rfl⟩
      split at e3
      · obtain ⟨n, rfl, rfl⟩ := int_of e3
        exact go 1 { st1 with pos := n } (by assumption) (by decide) rfl rfl p
      · split at e3
        · obtain ⟨n, rfl, rfl⟩ := int_of e3
          exact go 2 { st1 with cell := n } (by assumption) (by decide) rfl rfl p
        · split at e3
          · obtain ⟨n, rfl, rfl⟩ := int_of e3
            exact go 3 { st1 with left := n } (by assumption) (by decide) rfl rfl p
          · split at e3
            · cases q : asBool d with
              | none => rw [q] at e3; cases e3
              | some n =>
                rw [q] at e3
                cases e3
                rw [asBool_eq q] at r1
                have hy := r1.bl
                subst hy
                exact go 4 { st1 with big := n } (by assumption) (by decide) rfl rfl p
            · cases e3
    · exact p.elim
  · exact p.elim⟩
end

/-! ### own errors -/
structure ErrC (K : PySem.W.Frag) (mg : Str → Option Value) (x : Str) (C : Addr) : Prop where
  gC : mg x = some (.ref C)
  xC : PySem.W.excIn K C [.type "ValueError", .type "Exception", .type "BaseException", .type "object"] "ValueError.__new__" = true
  kC : PySem.W.keepIn K (.ref C) = true
  bC : PySem.W.subIn K (.ref C) (.type "BaseException") = some true
  tC : PySem.W.typeIn K (.ref C) = some (.type "type")
section
variable {X : Cx} {K : PySem.W.Frag} {mg : Str → Option Value} {W : WX} {x m : Str} {C : Addr} {j : Nat} {p p2 cpos pos : Pos}
def tRaise (W : WX) (C : Addr) : TS := fun _ σ H => W (.ref C) none σ H
theorem ds_raise (E : ErrC K mg x C) (tk : Takes X W) (hc : X.calm = true := by rfl) (hg : Gl X x := by rfl) (hdb : (x == ("__debug__" : Str)) = false := by decide) (ok : OkX X K mg := by exact ⟨rfl, rfl⟩) :
    DS X K mg W (.Raise (some (.Call (.Name x p) [.Constant (.str m) j p2] [] cpos)) none pos) (tRaise W C) (sRaise x) := by
  obtain ⟨rfl, rfl⟩ := ok
  exact ⟨ps_raise hc tk (pmk_own PySem.F.excBase_ValueError E.xC E.gC E.kC (raises_own E.bC E.tC) hg hdb), fun sa F0 H0 F H σ env st D s p => p F H σ C s E.gC⟩
end
end DL
/-! DL7: try, defs, the law's end. -/
namespace DL
open PySem PySem.Spec PyProof.Rows L2

/-! ### try .. except X: .. except Y: .. -/
def RS.noex : RS → RS
  | .ok (.ex _ _) _ => .bad
  | r => r
def sCatch (known : List Str) : List (Str × MS) → Str → Env → S → RS
  | [], c, env, s => .ok (.ex c env) s
  | (h, g) :: r, c, env, s => if c ∈ known then (if c = h then (g env s).noex else sCatch known r c env s) else .bad
def sTry (known : List Str) (b : MS) (hs : List (Str × MS)) : MS := fun env st => match b env st with
  | .ok (.ex c env') s => sCatch known hs c env' s
  | r => r
inductive HdD (X : Cx) (K : PySem.W.Frag) (mg : Str → Option Value) (known : List Str) : List ExceptHandler → List (Value × (Addr → Value → Option Addr → TS)) → List (Str × MS) → Prop
  | nil : HdD X K mg known [] [] []
  | cons {x : Str} {C : Addr} {t : TS} {g : MS} {b₀ : Stmt} {suite : List Stmt} {np pos' : Pos} {hds : List ExceptHandler} {l : List (Value × (Addr → Value → Option Addr → TS))} {gs : List (Str × MS)} (hg : Gl X x) (hdb : (x == ("__debug__" : Str)) = false) (hm : mg x = some (.ref C))
      (hex : ∀ c ∈ known, ∀ C', mg c = some (.ref C') → PySem.W.exmOne K (.ref C') (.ref C) = some (decide (c = x)))
      (hsu : ∀ (a : Addr) (oe : Obj) (pn : List (Addr × Obj)), DSs (X.suite a ((a, oe) :: pn)) K mg W0 (b₀ :: suite) t g) (r : HdD X K mg known hds l gs) :
      HdD X K mg known (.ExceptHandler (some (.Name x np)) none (b₀ :: suite) pos' :: hds) ((.ref C, fun _ _ _ => t) :: l) ((x, g) :: gs)
theorem HdD.ok {X : Cx} {K : PySem.W.Frag} {mg : Str → Option Value} {known : List Str} {hds : List ExceptHandler} {l : List (Value × (Addr → Value → Option Addr → TS))} {gs : List (Str × MS)} (h : HdD X K mg known hds l gs) : X.mg = mg → HdsOk X hds l := by
  intro e
  subst e
  induction h with
  | nil => exact .nil
  | cons hg hdb hm hex hsu _ ih => exact .cons ⟨hg, hdb, .inl hm⟩ (fun a oe cls d pn _ _ => (hsu a oe pn).ps) ih
theorem HdD.catch {X : Cx} {K : PySem.W.Frag} {mg : Str → Option Value} {known : List Str} {hds : List ExceptHandler} {l : List (Value × (Addr → Value → Option Addr → TS))} {gs : List (Str × MS)} {W : WX} {sa : Addr} {F0 H0 F H : Hp} {σ : L2.St} {env : Env} {st : S} {D : Ends} {c : Str} {C : Addr} (h : HdD X K mg known hds l gs) (s : Sim K sa F0 H0 F H σ env st)
    (hm : mg c = some (.ref C)) (p : PostS K mg W sa F0 H0 D (sCatch known gs c env st)) : wMany K W D l (.ref C) none σ H := by
  induction h with
  | nil => exact p F H σ C s hm
  | @cons x Cx t g b₀ suite np pos' hds l gs hg hdb hm' hex hsu _ ih =>
    unfold sCatch at p
    split at p
    · rename_i hk
      refine ⟨_, hex c hk C hm, fun e a ha => ?_, fun e => ?_⟩
      · rw [if_pos (of_decide_eq_true e)] at p
        refine (hsu a ⟨.none, none, .fields #[], #[]⟩ []).rf sa F0 H0 F H σ env st D s ?_
        cases q : g env st with
        | bad => rw [q] at p; exact p
        | ok o s' =>
          rw [q] at p
          cases o with
          | ex _ _ => exact p.elim
          | nx e => exact p
          | rt e => exact p
          | bk e => exact p
          | ct e => exact p
      · rw [if_neg (of_decide_eq_false e)] at p
        exact ih p
    · exact p.elim
section
variable {X : Cx} {K : PySem.W.Frag} {mg : Str → Option Value} {W : WX} {known : List Str} {body : List Stmt} {h₀ : ExceptHandler} {hds : List ExceptHandler} {l : List (Value × (Addr → Value → Option Addr → TS))} {gs : List (Str × MS)} {pos : Pos} {tb : WX → TS} {bf : MS}
theorem ds_try (tk : Takes X W) (hb : ∀ (W : WX) (pn : List (Addr × Obj)) (xe : Value → Shared → Prop), Takes (X.tr pn xe) W → PassesOwn (model X.prog X.w) X.A X.env xe → DSs (X.tr pn xe) K mg W body (tb W) bf) (hh : HdD X K mg known (h₀ :: hds) l gs)
    (hs : X.stack = X.env :: X.outer := by rfl) (hf : X.env.frame = some X.env.locals := by rfl) (hex : X.ex = [] := by rfl) (ok : OkX X K mg := by exact ⟨rfl, rfl⟩) : DS X K mg W (.Try body (h₀ :: hds) [] [] pos) (fun D σ H => tb (wMany K W D l) D σ H) (sTry known bf gs) := by
  obtain ⟨rfl, rfl⟩ := ok
  exact ⟨ps_try_many hs hf tk (fun W pn xe t p => (hb W pn xe t p).ps) (hh.ok rfl), fun sa F0 H0 F H σ env st D s p => by
  have rb : RefS X.K X.mg (wMany X.K W D l) (tb (wMany X.K W D l)) bf := (hb (wMany X.K W D l) [] (fun e s' => wpAny (model X.prog X.w) X.A (leaving X.env e) (fun _ s'' => L2.CX X.prog X.w X.outer X.H_0 X.s_0 (fun _ _ _ => True) e s'') (fun _ _ => True) s')
    (Takes.imp (takes_of (X := X.tr [] _) (E := fun _ _ _ => True) hs hf hex rfl) fun _ _ _ _ _ => trivial) (passes_of (X := X.tr [] _) rfl)).rf
  refine rb sa F0 H0 F H σ env st D s ?_
  unfold sTry at p
  cases q : bf env st with
  | bad => rw [q] at p; exact p
  | ok o s' =>
    rw [q] at p
    cases o with
    | ex c e => exact fun F' H' σ' C s1 hm => hh.catch s1 hm p
    | nx e => exact p
    | rt e => exact p
    | bk e => exact p
    | ct e => exact p⟩
end

structure ErrT (K : PySem.W.Frag) (mg : Str → Option Value) (known : List Str) : Prop where
  t : ∀ c ∈ known, ∀ h ∈ known, ∀ C Ch, mg c = some (.ref C) → mg h = some (.ref Ch) → PySem.W.exmOne K (.ref C) (.ref Ch) = some (decide (c = h))
theorem exc_of {K : PySem.W.Frag} {mg : Str → Option Value} {known : List Str} {x : Str} {C : Addr} (xx : ErrT K mg known) (hm : mg x = some (.ref C)) (hk : x ∈ known) :
    ∀ c ∈ known, ∀ C', mg c = some (.ref C') → PySem.W.exmOne K (.ref C') (.ref C) = some (decide (c = x)) := fun c hc C' h => xx.t c hc x hk C' C h hm

/-! ### defs -/
def R.ofRS : RS → R PD
  | .ok (.nx _) s => .ok .none s
  | .ok (.rt d) s => .ok d s
  | .ok (.ex c _) s => .ex c s
  | _ => .bad
def startE (N : Nat) (ds : List PD) : Env := ds.map (fun d => some (.v d)) ++ List.replicate (N - ds.length) none
def runFn (n N : Nat) (g : MS) : List PD → M PD := fun ds st => if ds.length = n then R.ofRS (g (startE N ds) st) else .bad
theorem RDs.get {K : PySem.W.Frag} {sa : Addr} {F : Hp} {vs : List V} {ds : List PD} (h : RDs K sa F vs ds) : ∀ {i : Nat} {d : PD}, ds[i]? = some d → ∃ v, vs[i]? = some v ∧ RD K sa F v d := by
  induction h with
  | nil => intro i d e; simp at e
  | cons h1 _ ih =>
    intro i d e
    cases i with
    | zero => simp at e; subst e; exact ⟨_, rfl, h1⟩
    | succ i =>
      obtain ⟨v, e1, e2⟩ := ih (i := i) (d := d) (by simpa using e)
      exact ⟨v, by simpa using e1, e2⟩
theorem startE_get {N : Nat} {ds : List PD} {i : Nat} {sl : Sl} (h : (startE N ds)[i]? = some (some sl)) : ∃ d, ds[i]? = some d ∧ sl = .v d := by
  unfold startE at h
  by_cases hi : i < ds.length
  · rw [List.getElem?_append_left (by simpa using hi), List.getElem?_map, List.getElem?_eq_getElem hi] at h
    cases h
    exact ⟨_, List.getElem?_eq_getElem hi, rfl⟩
  · rw [List.getElem?_append_right (by simpa using hi), List.getElem?_replicate] at h
    split at h <;> cases h
theorem sim_start {K : PySem.W.Frag} {sa : Addr} {F H : Hp} {st : S} {N : List Str} {vs : List V} {ds : List PD} (b : Bs sa F H st) (r : RDs K sa F vs ds) : Sim K sa F H F H (L2.start N vs) (startE N.length ds) st where
  s0 := b.hsa
  stp := b.refl
  len := by
    unfold L2.start startE
    rw [List.length_append, List.length_append, List.length_map, List.length_map, List.length_replicate, List.length_replicate, r.len]
  vals := fun i d e => by
    obtain ⟨d', e1, e2⟩ := startE_get e
    cases e2
    obtain ⟨v, g1, g2⟩ := r.get e1
    refine ⟨v, ?_, g2⟩
    have hi : i < vs.length := (List.getElem?_eq_some_iff.mp g1).1
    unfold L2.start
    rw [List.getElem?_append_left (by simpa using hi), List.getElem?_map, g1]
    rfl
  own := fun i xs e => by
    obtain ⟨d', e1, e2⟩ := startE_get e
    cases e2
  dis := fun i j xs ys a e _ _ _ => by
    obtain ⟨d', e1, e2⟩ := startE_get e
    cases e2
section
variable {P : Program} {w : World} {K : PySem.W.Frag} {mg : Str → Option Value} {base : Heap}
theorem fn_ok {x qual : Str} {st : Stmt} {f : Addr} {fd : FuncData} {N ps : List Str} {k : Nat} {g : MS} (F : Fun K x qual st f fd) (S : FnScope N ps (defScope st))
    (body : ∀ (cdv : Value) (A : Around) (outer : List PySem.Env) (s : Shared) (H : Hp) (E : XK), Room k (A.deeper (envOfC qual (defScope st) s.heap.objs.size f cdv)) →
      ∃ t, DSs (cxOf (L2.CX P w) P w K mg base N qual (defScope st) f cdv A outer s H E) K mg (fun c d _ H' => E c d H') (defBody st) t g) :
    FnOk P w K mg base (L2.CX P w) (k + 1) f fd ps (spD K mg ps.length (runFn ps.length N.length g)) := by
  refine F.okX S (fun vs H Q E h => ?_) (fun cdv A outer s H vs Q E hr h => ?_)
  · obtain ⟨sa, F, ds, st', h1, h2, h3, _⟩ := h
    rw [h3.len, h1]
  · obtain ⟨sa, F, ds, st', h1, h2, h3, p⟩ := h
    obtain ⟨t, d⟩ := body cdv A outer s H E hr
    refine ⟨t, d.ps, d.rf sa F H F H (L2.start N vs) (startE N.length ds) st' _ (sim_start h2 h3) ?_⟩
    unfold runFn at p
    rw [if_pos h1] at p
    show PostS K mg (fun c d _ H' => E c d H') sa F H { nx := fun _ H' => Q .non H', rt := Q } (g (startE N.length ds) st')
    cases q : g (startE N.length ds) st' with
    | bad => rw [q] at p; exact p.elim
    | ok o s' =>
      rw [q] at p
      cases o with
      | nx e => exact fun F' H' σ' s1 => p .non F' H' s1.stp (.inl .non)
      | rt d => exact p
      | ex c e => exact fun F' H' σ' C s1 hm => p F' H' C s1.stp hm
      | bk e => exact p.elim
      | ct e => exact p.elim
theorem cal_ok {x qual : Str} {st : Stmt} {f : Addr} {fd : FuncData} {N ps : List Str} {k : Nat} {g : MS} (F : Fun K x qual st f fd) (hm : mg x = some (.ref f)) (hb : Binds K fd ps []) (S : FnScope N ps (defScope st))
    (body : ∀ (cdv : Value) (A : Around) (outer : List PySem.Env) (s : Shared) (H : Hp) (E : XK), Room k (A.deeper (envOfC qual (defScope st) s.heap.objs.size f cdv)) →
      ∃ t, DSs (cxOf (L2.CX P w) P w K mg base N qual (defScope st) f cdv A outer s H E) K mg (fun c d _ H' => E c d H') (defBody st) t g) :
    Cal P w K mg base (k + 1) x ps (runFn ps.length N.length g) := ⟨f, fd, fn_ok F S body, hm, F.kp, hb⟩

/-! ### the law's own def: it makes the state, then goes on -/
def spState (K : PySem.W.Frag) : Sp := fun vs H Q _ => ∃ (a : Addr) (ns : List Int), vs = [.ref a] ∧ SqL K H a (ns.map V.int) ∧ ns.length ≤ 1000 ∧
  ∀ sc sa H', sc ≠ sa → H' sc = some (.lst (ns.map V.int)) → H' sa = some (.lst (stV sc ⟨ns, 0, 0, 0, false⟩)) → Q (.ref sa) H'
def spLaw (K : PySem.W.Frag) (n : Nat) : Sp := fun vs H Q _ => ∃ (a : Addr) (ns : List Int), vs = [.ref a] ∧ SqL K H a (ns.map V.int) ∧ ns.length ≤ n ∧ ∀ H', Q (.bl true) H'
theorem state_red {vs : List V} {H : Hp} {Q : VK} {E : XK} {N : List Str} (h : spState K vs H Q E) {r : List V → Hp → VK → Prop} (hr : r = fun xs H Q => ∃ p ys, xs = [.ref p] ∧ (SqL K H p ys ∨ SqT K H p ys) ∧ ∀ l, H l = none → Q (.ref l) (upd H l (.lst ys))) :
    tRet (tLst (tCons (tCB r (tCons (tVar 0) tNil)) (tCons (tC (.int 0)) (tCons (tC (.int 0)) (tCons (tC (.int 0)) (tCons (tC (.bl false)) (tCons (tC (.int 500)) tNil))))))) { nx := fun _ H' => Q .non H', rt := Q } (L2.start N vs) H := by
  subst hr
  obtain ⟨a, ns, rfl, hS, hl, q⟩ := h
  refine ⟨.ref a, rfl, a, _, rfl, .inl hS, fun sc hsc => ⟨by show 6 ≤ sizeLine; rw [sizeLine_eq]; decide, fun sa hsa => ?_⟩⟩
  have ne : sc ≠ sa := fun z => by subst z; rw [upd_same] at hsa; cases hsa
  exact q sc sa _ ne (by rw [upd_ne ne, upd_same]) upd_same
theorem law_red {vs : List V} {H : Hp} {Q : VK} {E : XK} {N : List Str} {n : Nat} {W : WX} {E' : L2.St → XK} {t : TS} {g : MS} (h : spLaw K n vs H Q E) (hn : n ≤ 1000) (hN : 2 ≤ N.length) (rf : RefS K mg W t g)
    (hl : ∀ ns : List Int, ns.length ≤ n → ∃ st', g ((List.replicate N.length none).set 1 (some (.v STT))) ⟨ns, 0, 0, 0, false⟩ = .ok (.rt (.bool true)) st') :
    tSeq (tAsg (tCallS (spState K) E' (tCons (tVar 0) tNil)) (gName 1)) t { nx := fun _ H' => Q .non H', rt := Q } (L2.start N vs) H := by
  obtain ⟨a, ns, rfl, hS, hln, q⟩ := h
  refine ⟨.ref a, rfl, a, ns, rfl, hS, by omega, fun sc sa H' ne e1 e2 => ?_⟩
  obtain ⟨st', e⟩ := hl ns hln
  have hF : ∀ b o, upd (fun _ => none) sc (.lst (ns.map V.int)) b = some o → b = sc ∧ o = .lst (ns.map V.int) := fun b o z => by
    by_cases c : b = sc
    · subst c; rw [upd_same] at z; cases z; exact ⟨rfl, rfl⟩
    · rw [upd_ne c] at z; cases z
  have b : Bs sa (upd (fun _ => none) sc (.lst (ns.map V.int))) H' ⟨ns, 0, 0, 0, false⟩ := by
    refine ⟨fun b o z => ?_, upd_ne ne.symm, sc, e2, upd_same⟩
    obtain ⟨rfl, rfl⟩ := hF b o z
    exact e1
  have slen : (L2.start N [V.ref a]).length = N.length := by unfold L2.start; simp; omega
  have hel : 1 < (List.replicate N.length (none : Option Sl)).length := by rw [List.length_replicate]; omega
  refine rf sa _ H' _ H' ((L2.start N [V.ref a]).set 1 (some (.ref sa))) ((List.replicate N.length none).set 1 (some (.v STT))) ⟨ns, 0, 0, 0, false⟩ _ ⟨b.hsa, b.refl, by rw [List.length_set, List.length_replicate, List.length_set, slen], fun i d z => ?_, fun i xs z => ?_, fun i j xs ys b z => ?_⟩ (by rw [e]; exact fun v F1 H1 _ r => by rw [r.bl]; exact q H1)
  · by_cases c : 1 = i
    · subst c
      rw [List.getElem?_set_self hel] at z
      cases z
      exact ⟨_, List.getElem?_set_self (by rw [slen]; omega), .inr ⟨rfl, rfl⟩⟩
    · rw [List.getElem?_set_ne c, List.getElem?_replicate] at z
      split at z <;> cases z
  · by_cases c : 1 = i
    · subst c
      rw [List.getElem?_set_self hel] at z
      cases z
    · rw [List.getElem?_set_ne c, List.getElem?_replicate] at z
      split at z <;> cases z
  · by_cases c : 1 = i
    · subst c
      rw [List.getElem?_set_self hel] at z
      cases z
    · rw [List.getElem?_set_ne c, List.getElem?_replicate] at z
      split at z <;> cases z
end
end DL
/-! DL8: how the functions of data evaluate. -/
namespace DL
open PySem PySem.Spec PyProof.Rows L2

/-! each combinator hands its first part's result to a constant that waits for it: so that simp goes from the left -/
section
variable {α : Type} {env : Env} {st : S}
@[simp] theorem eC_ap (d : PD) : eC d env st = .ok d st := rfl
def e2b (op : S → PD → PD → Option PD) (d : PD) (r : R PD) : R PD := r.bind fun e s => R.ofO (op s d e) s
def e2a (op : S → PD → PD → Option PD) (g : Env → M PD) (env : Env) (r : R PD) : R PD := r.bind fun d s => e2b op d (g env s)
@[simp] theorem e2_ap (op : S → PD → PD → Option PD) (f g : Env → M PD) : e2 op f g env st = e2a op g env (f env st) := rfl
@[simp] theorem e2a_ok (op : S → PD → PD → Option PD) (g : Env → M PD) (d : PD) : e2a op g env (.ok d st) = e2b op d (g env st) := rfl
@[simp] theorem e2b_ok (op : S → PD → PD → Option PD) (d e : PD) : e2b op d (.ok e st) = R.ofO (op st d e) st := rfl
@[simp] theorem e2a_ex (op : S → PD → PD → Option PD) (g : Env → M PD) (c : Str) : e2a op g env (.ex c st) = .ex c st := rfl
@[simp] theorem e2b_ex (op : S → PD → PD → Option PD) (d : PD) (c : Str) : e2b op d (.ex c st) = .ex c st := rfl
def e1a (op : S → PD → Option PD) (r : R PD) : R PD := r.bind fun d s => R.ofO (op s d) s
@[simp] theorem e1_ap (op : S → PD → Option PD) (f : Env → M PD) : e1 op f env st = e1a op (f env st) := rfl
@[simp] theorem e1a_ok (op : S → PD → Option PD) (d : PD) : e1a op (.ok d st) = R.ofO (op st d) st := rfl
def eBa (op : S → List PD → Option PD) (r : R (List PD)) : R PD := r.bind fun d s => R.ofO (op s d) s
@[simp] theorem eB_ap (op : S → List PD → Option PD) (f : Env → M (List PD)) : eB op f env st = eBa op (f env st) := rfl
@[simp] theorem eBa_ok (op : S → List PD → Option PD) (d : List PD) : eBa op (.ok d st) = R.ofO (op st d) st := rfl
@[simp] theorem eBa_ex (op : S → List PD → Option PD) (c : Str) : eBa op (.ex c st) = .ex c st := rfl
def nBa (op : S → List PD → Option (List PD)) (r : R (List PD)) : R (List PD) := r.bind fun d s => R.ofO (op s d) s
@[simp] theorem nB_ap (op : S → List PD → Option (List PD)) (f : Env → M (List PD)) : nB op f env st = nBa op (f env st) := rfl
@[simp] theorem nBa_ok (op : S → List PD → Option (List PD)) (d : List PD) : nBa op (.ok d st) = R.ofO (op st d) st := rfl
@[simp] theorem aNil_ap : aNil env st = .ok [] st := rfl
def aCb (d : PD) (r : R (List PD)) : R (List PD) := r.bind fun ds s => .ok (d :: ds) s
def aCa (g : Env → M (List PD)) (env : Env) (r : R PD) : R (List PD) := r.bind fun d s => aCb d (g env s)
@[simp] theorem aCons_ap (f : Env → M PD) (g : Env → M (List PD)) : aCons f g env st = aCa g env (f env st) := rfl
@[simp] theorem aCa_ok (g : Env → M (List PD)) (d : PD) : aCa g env (.ok d st) = aCb d (g env st) := rfl
@[simp] theorem aCb_ok (d : PD) (ds : List PD) : aCb d (.ok ds st) = .ok (d :: ds) st := rfl
@[simp] theorem aCa_ex (g : Env → M (List PD)) (c : Str) : aCa g env (.ex c st) = .ex c st := rfl
@[simp] theorem aCb_ex (d : PD) (c : Str) : aCb d (.ex c st) = .ex c st := rfl
def eTa (r : R (List PD)) : R PD := r.bind fun ds s => if (ds.all isD && decide (ds.length ≤ 10000)) = true then .ok (.tuple ds) s else .bad
@[simp] theorem eTup_ap (f : Env → M (List PD)) : eTup f env st = eTa (f env st) := rfl
theorem eTa_ok {ds : List PD} (h : (ds.all isD && decide (ds.length ≤ 10000)) = true) : eTa (.ok ds st) = .ok (.tuple ds) st := if_pos h
@[simp] theorem eTa_2 (a b : PD) : eTa (.ok [a, b] st) = if (isD a && (isD b && true)) = true then .ok (.tuple [a, b]) st else .bad := by
  show (if (([a, b] : List PD).all isD && decide (([a, b] : List PD).length ≤ 10000)) = true then R.ok (PyData.tuple [a, b]) st else .bad) = _
  simp
@[simp] theorem eTa_3 (a b c : PD) : eTa (.ok [a, b, c] st) = if (isD a && (isD b && (isD c && true))) = true then .ok (.tuple [a, b, c]) st else .bad := by
  show (if (([a, b, c] : List PD).all isD && decide (([a, b, c] : List PD).length ≤ 10000)) = true then R.ok (PyData.tuple [a, b, c]) st else .bad) = _
  simp
@[simp] theorem eTa_4 (a b c d : PD) : eTa (.ok [a, b, c, d] st) = if (isD a && (isD b && (isD c && (isD d && true)))) = true then .ok (.tuple [a, b, c, d]) st else .bad := by
  show (if (([a, b, c, d] : List PD).all isD && decide (([a, b, c, d] : List PD).length ≤ 10000)) = true then R.ok (PyData.tuple [a, b, c, d]) st else .bad) = _
  simp
def nLa (r : R (List PD)) : R (List PD) := r.bind fun ds s => if (ds.all isD && decide (ds.length ≤ 10000)) = true then .ok ds s else .bad
@[simp] theorem nLst_ap (f : Env → M (List PD)) : nLst f env st = nLa (f env st) := rfl
theorem nLa_ok {ds : List PD} (h : (ds.all isD && decide (ds.length ≤ 10000)) = true) : nLa (.ok ds st) = .ok ds st := if_pos h
@[simp] theorem nLa_0 : nLa (.ok [] st) = .ok [] st := rfl
@[simp] theorem nLa_1 (a : PD) : nLa (.ok [a] st) = if (isD a && true) = true then .ok [a] st else .bad := by
  show (if (([a] : List PD).all isD && decide (([a] : List PD).length ≤ 10000)) = true then R.ok [a] st else .bad) = _
  simp
@[simp] theorem nLa_2 (a b : PD) : nLa (.ok [a, b] st) = if (isD a && (isD b && true)) = true then .ok [a, b] st else .bad := by
  show (if (([a, b] : List PD).all isD && decide (([a, b] : List PD).length ≤ 10000)) = true then R.ok [a, b] st else .bad) = _
  simp
@[simp] theorem nLa_3 (a b c : PD) : nLa (.ok [a, b, c] st) = if (isD a && (isD b && (isD c && true))) = true then .ok [a, b, c] st else .bad := by
  show (if (([a, b, c] : List PD).all isD && decide (([a, b, c] : List PD).length ≤ 10000)) = true then R.ok [a, b, c] st else .bad) = _
  simp
def eLa (r : R (List PD)) : R PD := r.bind fun xs s => .ok (.list xs) s
@[simp] theorem eL_ap (f : Env → M (List PD)) : eL f env st = eLa (f env st) := rfl
@[simp] theorem eLa_ok (xs : List PD) : eLa (.ok xs st) = .ok (.list xs) st := rfl
def callA (n : Nat) (m : List PD → M PD) (r : R (List PD)) : R PD := r.bind fun ds s => if ds.length = n then m ds s else .bad
@[simp] theorem callF_ap (n : Nat) (m : List PD → M PD) (f : Env → M (List PD)) : callF n m f env st = callA n m (f env st) := Eq.trans rfl rfl
@[simp] theorem callA_1 (m : List PD → M PD) (a : PD) : callA 1 m (.ok [a] st) = m [a] st := Eq.trans rfl rfl
@[simp] theorem callA_2 (m : List PD → M PD) (a b : PD) : callA 2 m (.ok [a, b] st) = m [a, b] st := Eq.trans rfl rfl
@[simp] theorem callA_3 (m : List PD → M PD) (a b c : PD) : callA 3 m (.ok [a, b, c] st) = m [a, b, c] st := Eq.trans rfl rfl
@[simp] theorem callA_4 (m : List PD → M PD) (a b c d : PD) : callA 4 m (.ok [a, b, c, d] st) = m [a, b, c, d] st := Eq.trans rfl rfl
@[simp] theorem callA_ex (n : Nat) (m : List PD → M PD) (c : Str) : callA n m (.ex c st) = .ex c st := rfl
def tVa (r : R PD) : R Bool := r.bind fun d s => R.ofO (asBool d) s
@[simp] theorem tV_ap (f : Env → M PD) : tV f env st = tVa (f env st) := rfl
@[simp] theorem tVa_ok (b : Bool) : tVa (.ok (.bool b) st) = .ok b st := rfl
@[simp] theorem tVa_ex (c : Str) : tVa (.ex c st) = .ex c st := rfl
def tNa (r : R Bool) : R Bool := r.bind fun b s => .ok (!b) s
@[simp] theorem tNotF_ap (f : Env → M Bool) : tNotF f env st = tNa (f env st) := rfl
@[simp] theorem tNa_ok (b : Bool) : tNa (.ok b st) = .ok (!b) st := rfl
@[simp] theorem tNa_ex (c : Str) : tNa (.ex c st) = .ex c st := rfl
def tAa (g : Env → M Bool) (env : Env) (r : R Bool) : R Bool := r.bind fun b s => match b with | true => g env s | false => .ok false s
@[simp] theorem tAndF_ap (f g : Env → M Bool) : tAndF f g env st = tAa g env (f env st) := rfl
@[simp] theorem tAa_t (g : Env → M Bool) : tAa g env (.ok true st) = g env st := rfl
@[simp] theorem tAa_f (g : Env → M Bool) : tAa g env (.ok false st) = .ok false st := rfl
@[simp] theorem tAa_ex (g : Env → M Bool) (c : Str) : tAa g env (.ex c st) = .ex c st := rfl
def tOa (g : Env → M Bool) (env : Env) (r : R Bool) : R Bool := r.bind fun b s => match b with | true => .ok true s | false => g env s
@[simp] theorem tOrF_ap (f g : Env → M Bool) : tOrF f g env st = tOa g env (f env st) := rfl
@[simp] theorem tOa_t (g : Env → M Bool) : tOa g env (.ok true st) = .ok true st := rfl
@[simp] theorem tOa_f (g : Env → M Bool) : tOa g env (.ok false st) = g env st := rfl
@[simp] theorem tOa_ex (g : Env → M Bool) (c : Str) : tOa g env (.ex c st) = .ex c st := rfl
def eAa (g : Env → M PD) (env : Env) (r : R Bool) : R PD := r.bind fun b s => match b with | true => g env s | false => .ok (.bool false) s
@[simp] theorem eAnd_ap (f g : Env → M PD) : eAnd f g env st = eAa g env (tVa (f env st)) := rfl
@[simp] theorem eAa_t (g : Env → M PD) : eAa g env (.ok true st) = g env st := rfl
@[simp] theorem eAa_f (g : Env → M PD) : eAa g env (.ok false st) = .ok (.bool false) st := rfl
def eOa (g : Env → M PD) (env : Env) (r : R Bool) : R PD := r.bind fun b s => match b with | true => .ok (.bool true) s | false => g env s
@[simp] theorem eOr_ap (f g : Env → M PD) : eOr f g env st = eOa g env (tVa (f env st)) := rfl
@[simp] theorem eOa_t (g : Env → M PD) : eOa g env (.ok true st) = .ok (.bool true) st := rfl
@[simp] theorem eOa_f (g : Env → M PD) : eOa g env (.ok false st) = g env st := rfl
def eNa (r : R Bool) : R PD := r.bind fun b s => .ok (.bool (!b)) s
@[simp] theorem eNot_ap (f : Env → M PD) : eNot f env st = eNa (tVa (f env st)) := rfl
@[simp] theorem eNa_ok (b : Bool) : eNa (.ok b st) = .ok (.bool (!b)) st := rfl
def eIa (f g : Env → M PD) (env : Env) (r : R Bool) : R PD := r.bind fun b s => match b with | true => f env s | false => g env s
@[simp] theorem eIf_ap (c : Env → M Bool) (f g : Env → M PD) : eIf c f g env st = eIa f g env (c env st) := rfl
@[simp] theorem eIa_t (f g : Env → M PD) : eIa f g env (.ok true st) = f env st := rfl
@[simp] theorem eIa_f (f g : Env → M PD) : eIa f g env (.ok false st) = g env st := rfl
def eCd (op' : S → PD → PD → Option PD) (e : PD) (r : R PD) : R PD := r.bind fun g s => R.ofO (op' s e g) s
def eCc (op' : S → PD → PD → Option PD) (fc : Env → M PD) (env : Env) (e : PD) (r : R Bool) : R PD := r.bind fun k s => match k with | true => eCd op' e (fc env s) | false => .ok (.bool false) s
def eCb (op op' : S → PD → PD → Option PD) (fc : Env → M PD) (env : Env) (d : PD) (r : R PD) : R PD := r.bind fun e s => eCc op' fc env e ((R.ofO (op s d e) s).bind fun z s3 => R.ofO (asBool z) s3)
def eCa (op op' : S → PD → PD → Option PD) (fb fc : Env → M PD) (env : Env) (r : R PD) : R PD := r.bind fun d s => eCb op op' fc env d (fb env s)
theorem eChain_ap (op op' : S → PD → PD → Option PD) (fa fb fc : Env → M PD) : eChain op op' fa fb fc env st = eCa op op' fb fc env (fa env st) := by
  show (fa env st).bind _ = (fa env st).bind _
  cases fa env st with
  | bad => rfl
  | ex c s => rfl
  | ok d s1 =>
    show (fb env s1).bind _ = (fb env s1).bind _
    cases fb env s1 with
    | bad => rfl
    | ex c s => rfl
    | ok e s2 =>
      show (R.ofO (op s2 d e) s2).bind _ = eCc op' fc env e ((R.ofO (op s2 d e) s2).bind _)
      cases op s2 d e with
      | none => rfl
      | some z =>
        show (R.ofO (asBool z) s2).bind _ = eCc op' fc env e (R.ofO (asBool z) s2)
        cases asBool z with
        | none => rfl
        | some k => cases k <;> rfl
@[simp] theorem oNo_ap : oNo env st = .ok none st := rfl
def oSa (r : R PD) : R (Option Int) := r.bind fun d s => R.ofO ((asInt d).map some) s
@[simp] theorem oSo_ap (f : Env → M PD) : oSo f env st = oSa (f env st) := rfl
@[simp] theorem oSa_ok (i : Int) : oSa (.ok (.int i) st) = .ok (some i) st := rfl
def eSc (d : PD) (lo : Option Int) (r : R (Option Int)) : R PD := r.bind fun hi s => R.ofO (opSl d lo hi) s
def eSb (h : Env → M (Option Int)) (env : Env) (d : PD) (r : R (Option Int)) : R PD := r.bind fun lo s => eSc d lo (h env s)
def eSa (l h : Env → M (Option Int)) (env : Env) (r : R PD) : R PD := r.bind fun d s => eSb h env d (l env s)
@[simp] theorem eSl_ap (f : Env → M PD) (l h : Env → M (Option Int)) : eSl f l h env st = eSa l h env (f env st) := rfl
@[simp] theorem eSa_ok (l h : Env → M (Option Int)) (d : PD) : eSa l h env (.ok d st) = eSb h env d (l env st) := rfl
@[simp] theorem eSb_ok (h : Env → M (Option Int)) (d : PD) (lo : Option Int) : eSb h env d (.ok lo st) = eSc d lo (h env st) := rfl
@[simp] theorem eSc_ok (d : PD) (lo hi : Option Int) : eSc d lo (.ok hi st) = R.ofO (opSl d lo hi) st := rfl
def iAa (r : R PD) : R (List PD) := r.bind fun d s => R.ofO (itemsD d) s
@[simp] theorem iAny_ap (f : Env → M PD) : iAny f env st = iAa (f env st) := rfl
@[simp] theorem iAa_ok (d : PD) : iAa (.ok d st) = R.ofO (itemsD d) st := rfl
def iRa (g : List PD → Option (List PD)) (r : R (List PD)) : R (List PD) := r.bind fun d s => R.ofO (g d) s
@[simp] theorem iRng_ap (g : List PD → Option (List PD)) (f : Env → M (List PD)) : iRng g f env st = iRa g (f env st) := rfl
@[simp] theorem iRa_ok (g : List PD → Option (List PD)) (d : List PD) : iRa g (.ok d st) = R.ofO (g d) st := rfl
@[simp] theorem tYesF_ap : tYesF env st = .ok true st := rfl
def nCa (tg : PD → Env → Option Env) (tf : Env → M Bool) (ef : Env → M PD) (env : Env) (r : R (List PD)) : R (List PD) := r.bind fun ds s => if ds.length ≤ 10000000 then compGo env tg tf ef ds s else .bad
@[simp] theorem nComp_ap (itf : Env → M (List PD)) (tg : PD → Env → Option Env) (tf : Env → M Bool) (ef : Env → M PD) (vs : List Nat) : nComp itf tg tf ef vs env st = nCa tg tf ef (wipeE env vs) (itf env st) := rfl
theorem nCa_ok {tg : PD → Env → Option Env} {tf : Env → M Bool} {ef : Env → M PD} {ds : List PD} (h : ds.length ≤ 10000000) : nCa tg tf ef env (.ok ds st) = compGo env tg tf ef ds st := if_pos h
@[simp] theorem wipeE_nil : wipeE env [] = env := rfl
@[simp] theorem wipeE_cons (v : Nat) (vs : List Nat) : wipeE env (v :: vs) = (wipeE env vs).set v none := rfl
@[simp] theorem tgN_ap (i : Nat) (d : PD) : tgN i d env = some (env.set i (some (.v d))) := rfl
@[simp] theorem tgsNil_ap : tgsNil [] env = some env := rfl
@[simp] theorem tgsCons_ap (f : PD → Env → Option Env) (g : List PD → Env → Option Env) (d : PD) (r : List PD) : tgsCons f g (d :: r) env = (f d env).bind (g r) := rfl
@[simp] theorem tgT_2 (g : List PD → Env → Option Env) (a b : PD) : tgT 2 g (.tuple [a, b]) env = g [a, b] env := rfl
@[simp] theorem tgT_3 (g : List PD → Env → Option Env) (a b c : PD) : tgT 3 g (.tuple [a, b, c]) env = g [a, b, c] env := rfl
@[simp] theorem tgT_4 (g : List PD → Env → Option Env) (a b c d : PD) : tgT 4 g (.tuple [a, b, c, d]) env = g [a, b, c, d] env := rfl
/-! statements -/
@[simp] theorem sSkip_ap : sSkip env st = .ok (.nx env) st := rfl
def RS.seq (r : RS) (g : MS) : RS := match r with
  | .ok (.nx env') st' => g env' st'
  | r => r
@[simp] theorem sSeq_ap (f g : MS) : sSeq f g env st = RS.seq (f env st) g := rfl
@[simp] theorem RS.seq_nx (e : Env) (s : S) (g : MS) : RS.seq (.ok (.nx e) s) g = g e s := rfl
@[simp] theorem RS.seq_rt (d : PD) (s : S) (g : MS) : RS.seq (.ok (.rt d) s) g = .ok (.rt d) s := rfl
@[simp] theorem RS.seq_ex (c : Str) (e : Env) (s : S) (g : MS) : RS.seq (.ok (.ex c e) s) g = .ok (.ex c e) s := rfl
@[simp] theorem RS.seq_bk (e : Env) (s : S) (g : MS) : RS.seq (.ok (.bk e) s) g = .ok (.bk e) s := rfl
@[simp] theorem RS.seq_ct (e : Env) (s : S) (g : MS) : RS.seq (.ok (.ct e) s) g = .ok (.ct e) s := rfl
def setA (i : Nat) (env : Env) (r : R PD) : RS := RS.of env r fun d s => .ok (.nx (env.set i (some (.v d)))) s
@[simp] theorem sSet_ap (i : Nat) (f : Env → M PD) : sSet i f env st = setA i env (f env st) := rfl
@[simp] theorem setA_ok (i : Nat) (d : PD) : setA i env (.ok d st) = .ok (.nx (env.set i (some (.v d)))) st := rfl
@[simp] theorem setA_ex (i : Nat) (c : Str) : setA i env (.ex c st) = .ok (.ex c env) st := rfl
def oS (o : Option Env) (s : S) : RS := match o with
  | some env' => .ok (.nx env') s
  | none => .bad
@[simp] theorem oS_some (e : Env) (s : S) : oS (some e) s = .ok (.nx e) s := rfl
def asgA (tg : PD → Env → Option Env) (env : Env) (r : R PD) : RS := RS.of env r fun d s => oS (tg d env) s
@[simp] theorem sAsg_ap (f : Env → M PD) (tg : PD → Env → Option Env) : sAsg f tg env st = asgA tg env (f env st) := rfl
@[simp] theorem asgA_ok (tg : PD → Env → Option Env) (d : PD) : asgA tg env (.ok d st) = oS (tg d env) st := rfl
@[simp] theorem asgA_ex (tg : PD → Env → Option Env) (c : Str) : asgA tg env (.ex c st) = .ok (.ex c env) st := rfl
def retA (env : Env) (r : R PD) : RS := RS.of env r fun d s => .ok (.rt d) s
@[simp] theorem sRet_ap (f : Env → M PD) : sRet f env st = retA env (f env st) := rfl
@[simp] theorem retA_ok (d : PD) : retA env (.ok d st) = .ok (.rt d) st := rfl
@[simp] theorem retA_ex (c : Str) : retA env (.ex c st) = .ok (.ex c env) st := rfl
@[simp] theorem sRetN_ap : sRetN env st = .ok (.rt .none) st := rfl
def exprA (env : Env) (r : R PD) : RS := RS.of env r fun _ s => .ok (.nx env) s
@[simp] theorem sExpr_ap (f : Env → M PD) : sExpr f env st = exprA env (f env st) := rfl
@[simp] theorem exprA_ok (d : PD) : exprA env (.ok d st) = .ok (.nx env) st := rfl
@[simp] theorem exprA_ex (c : Str) : exprA env (.ex c st) = .ok (.ex c env) st := rfl
def ifA (f g : MS) (env : Env) (r : R Bool) : RS := RS.of env r fun b s => match b with | true => f env s | false => g env s
@[simp] theorem sIf_ap (c : Env → M Bool) (f g : MS) : sIf c f g env st = ifA f g env (c env st) := rfl
@[simp] theorem ifA_t (f g : MS) : ifA f g env (.ok true st) = f env st := rfl
@[simp] theorem ifA_f (f g : MS) : ifA f g env (.ok false st) = g env st := rfl
@[simp] theorem ifA_ex (f g : MS) (c : Str) : ifA f g env (.ex c st) = .ok (.ex c env) st := rfl
@[simp] theorem sBrk_ap : sBrk env st = .ok (.bk env) st := rfl
@[simp] theorem sCnt_ap : sCnt env st = .ok (.ct env) st := rfl
@[simp] theorem sRaise_ap (c : Str) : sRaise c env st = .ok (.ex c env) st := rfl
def par2A (i j : Nat) (env : Env) (r : R (List PD)) : RS := RS.of env r fun ds s => match ds with | [d, e] => .ok (.nx ((env.set i (some (.v d))).set j (some (.v e)))) s | _ => .bad
@[simp] theorem sPar2_ap (i j : Nat) (f : Env → M (List PD)) : sPar2 i j f env st = par2A i j env (f env st) := rfl
@[simp] theorem par2A_ok (i j : Nat) (a b : PD) : par2A i j env (.ok [a, b] st) = .ok (.nx ((env.set i (some (.v a))).set j (some (.v b)))) st := rfl
def par3A (i j l : Nat) (env : Env) (r : R (List PD)) : RS := RS.of env r fun ds s => match ds with | [d, e, g] => .ok (.nx (((env.set i (some (.v d))).set j (some (.v e))).set l (some (.v g)))) s | _ => .bad
@[simp] theorem sPar3_ap (i j l : Nat) (f : Env → M (List PD)) : sPar3 i j l f env st = par3A i j l env (f env st) := rfl
@[simp] theorem par3A_ok (i j l : Nat) (a b c : PD) : par3A i j l env (.ok [a, b, c] st) = .ok (.nx (((env.set i (some (.v a))).set j (some (.v b))).set l (some (.v c)))) st := rfl
def newA (i : Nat) (env : Env) (r : R (List PD)) : RS := RS.of env r fun xs s => .ok (.nx (env.set i (some (.o xs)))) s
@[simp] theorem sNew_ap (i : Nat) (f : Env → M (List PD)) : sNew i f env st = newA i env (f env st) := rfl
@[simp] theorem newA_ok (i : Nat) (xs : List PD) : newA i env (.ok xs st) = .ok (.nx (env.set i (some (.o xs)))) st := rfl
def forA (tg : PD → Env → Option Env) (b : MS) (env : Env) (r : R (List PD)) : RS := RS.of env r fun ds s => forGo tg b ds env s
@[simp] theorem sFor_ap (itf : Env → M (List PD)) (tg : PD → Env → Option Env) (b : MS) : sFor itf tg b env st = forA tg b env (itf env st) := rfl
@[simp] theorem forA_ok (tg : PD → Env → Option Env) (b : MS) (ds : List PD) : forA tg b env (.ok ds st) = forGo tg b ds env st := rfl
@[simp] theorem forGo_nil (tg : PD → Env → Option Env) (b : MS) : forGo tg b [] env st = .ok (.nx env) st := rfl
def RS.tryc (r : RS) (known : List Str) (hs : List (Str × MS)) : RS := match r with
  | .ok (.ex c env') s => sCatch known hs c env' s
  | r => r
@[simp] theorem sTry_ap (known : List Str) (b : MS) (hs : List (Str × MS)) : sTry known b hs env st = RS.tryc (b env st) known hs := rfl
@[simp] theorem RS.tryc_ex (c : Str) (e : Env) (s : S) (k : List Str) (hs : List (Str × MS)) : RS.tryc (.ok (.ex c e) s) k hs = sCatch k hs c e s := rfl
@[simp] theorem RS.tryc_nx (e : Env) (s : S) (k : List Str) (hs : List (Str × MS)) : RS.tryc (.ok (.nx e) s) k hs = .ok (.nx e) s := rfl
@[simp] theorem RS.tryc_rt (d : PD) (s : S) (k : List Str) (hs : List (Str × MS)) : RS.tryc (.ok (.rt d) s) k hs = .ok (.rt d) s := rfl
@[simp] theorem RS.noex_rt (d : PD) (s : S) : (RS.ok (.rt d) s).noex = .ok (.rt d) s := rfl
@[simp] theorem RS.noex_nx (d : Env) (s : S) : (RS.ok (.nx d) s).noex = .ok (.nx d) s := rfl
end
section
variable {env : Env} {st : S}
def oS2 (o : Option S) (env : Env) : RS := match o with
  | some s' => .ok (.nx env) s'
  | none => .bad
@[simp] theorem oS2_some (e : Env) (s : S) : oS2 (some s) e = .ok (.nx e) s := rfl
def stA (k : Int) (env : Env) (r : R PD) : RS := RS.of env r fun d s => oS2 (stSet s k d) env
@[simp] theorem sSt_ap (k : Int) (f : Env → M PD) (r : Env) : sSt 0 k f (some (.v STT) :: r) st = stA k (some (.v STT) :: r) (f (some (.v STT) :: r) st) := rfl
@[simp] theorem stA_ok (k : Int) (d : PD) : stA k env (.ok d st) = oS2 (stSet st k d) env := rfl
@[simp] theorem stSet_1 (n : Int) : stSet st 1 (.int n) = some { st with pos := n } := rfl
@[simp] theorem stSet_2 (n : Int) : stSet st 2 (.int n) = some { st with cell := n } := rfl
@[simp] theorem stSet_3 (n : Int) : stSet st 3 (.int n) = some { st with left := n } := rfl
@[simp] theorem stSet_4 (n : Bool) : stSet st 4 (.bool n) = some { st with big := n } := rfl
theorem eV_at {i : Nat} {d : PD} (h : env[i]? = some (some (.v d))) : eV i env st = .ok d st := by
  unfold eV; rw [h]
theorem ePk_v {i : Nat} {d : PD} (h : env[i]? = some (some (.v d))) : ePk i env st = .ok d st := by
  unfold ePk; rw [h]
theorem ePk_o {i : Nat} {d : List PD} (h : env[i]? = some (some (.o d))) : ePk i env st = .ok (.list d) st := by
  unfold ePk; rw [h]
end
@[simp] theorem eV_0 {r : Env} {st : S} (d : PD) : eV 0 (some (.v d) :: r) st = .ok d st := rfl
@[simp] theorem ePv_0 {r : Env} {st : S} (d : PD) : ePk 0 (some (.v d) :: r) st = .ok d st := rfl
@[simp] theorem ePo_0 {r : Env} {st : S} (d : List PD) : ePk 0 (some (.o d) :: r) st = .ok (.list d) st := rfl
@[simp] theorem eV_1 {x0 : Option Sl} {r : Env} {st : S} (d : PD) : eV 1 (x0 :: some (.v d) :: r) st = .ok d st := rfl
@[simp] theorem ePv_1 {x0 : Option Sl} {r : Env} {st : S} (d : PD) : ePk 1 (x0 :: some (.v d) :: r) st = .ok d st := rfl
@[simp] theorem ePo_1 {x0 : Option Sl} {r : Env} {st : S} (d : List PD) : ePk 1 (x0 :: some (.o d) :: r) st = .ok (.list d) st := rfl
@[simp] theorem eV_2 {x0 x1 : Option Sl} {r : Env} {st : S} (d : PD) : eV 2 (x0 :: x1 :: some (.v d) :: r) st = .ok d st := rfl
@[simp] theorem ePv_2 {x0 x1 : Option Sl} {r : Env} {st : S} (d : PD) : ePk 2 (x0 :: x1 :: some (.v d) :: r) st = .ok d st := rfl
@[simp] theorem ePo_2 {x0 x1 : Option Sl} {r : Env} {st : S} (d : List PD) : ePk 2 (x0 :: x1 :: some (.o d) :: r) st = .ok (.list d) st := rfl
@[simp] theorem eV_3 {x0 x1 x2 : Option Sl} {r : Env} {st : S} (d : PD) : eV 3 (x0 :: x1 :: x2 :: some (.v d) :: r) st = .ok d st := rfl
@[simp] theorem ePv_3 {x0 x1 x2 : Option Sl} {r : Env} {st : S} (d : PD) : ePk 3 (x0 :: x1 :: x2 :: some (.v d) :: r) st = .ok d st := rfl
@[simp] theorem ePo_3 {x0 x1 x2 : Option Sl} {r : Env} {st : S} (d : List PD) : ePk 3 (x0 :: x1 :: x2 :: some (.o d) :: r) st = .ok (.list d) st := rfl
@[simp] theorem eV_4 {x0 x1 x2 x3 : Option Sl} {r : Env} {st : S} (d : PD) : eV 4 (x0 :: x1 :: x2 :: x3 :: some (.v d) :: r) st = .ok d st := rfl
@[simp] theorem ePv_4 {x0 x1 x2 x3 : Option Sl} {r : Env} {st : S} (d : PD) : ePk 4 (x0 :: x1 :: x2 :: x3 :: some (.v d) :: r) st = .ok d st := rfl
@[simp] theorem ePo_4 {x0 x1 x2 x3 : Option Sl} {r : Env} {st : S} (d : List PD) : ePk 4 (x0 :: x1 :: x2 :: x3 :: some (.o d) :: r) st = .ok (.list d) st := rfl
@[simp] theorem eV_5 {x0 x1 x2 x3 x4 : Option Sl} {r : Env} {st : S} (d : PD) : eV 5 (x0 :: x1 :: x2 :: x3 :: x4 :: some (.v d) :: r) st = .ok d st := rfl
@[simp] theorem ePv_5 {x0 x1 x2 x3 x4 : Option Sl} {r : Env} {st : S} (d : PD) : ePk 5 (x0 :: x1 :: x2 :: x3 :: x4 :: some (.v d) :: r) st = .ok d st := rfl
@[simp] theorem ePo_5 {x0 x1 x2 x3 x4 : Option Sl} {r : Env} {st : S} (d : List PD) : ePk 5 (x0 :: x1 :: x2 :: x3 :: x4 :: some (.o d) :: r) st = .ok (.list d) st := rfl
@[simp] theorem eV_6 {x0 x1 x2 x3 x4 x5 : Option Sl} {r : Env} {st : S} (d : PD) : eV 6 (x0 :: x1 :: x2 :: x3 :: x4 :: x5 :: some (.v d) :: r) st = .ok d st := rfl
@[simp] theorem ePv_6 {x0 x1 x2 x3 x4 x5 : Option Sl} {r : Env} {st : S} (d : PD) : ePk 6 (x0 :: x1 :: x2 :: x3 :: x4 :: x5 :: some (.v d) :: r) st = .ok d st := rfl
@[simp] theorem ePo_6 {x0 x1 x2 x3 x4 x5 : Option Sl} {r : Env} {st : S} (d : List PD) : ePk 6 (x0 :: x1 :: x2 :: x3 :: x4 :: x5 :: some (.o d) :: r) st = .ok (.list d) st := rfl
@[simp] theorem eV_7 {x0 x1 x2 x3 x4 x5 x6 : Option Sl} {r : Env} {st : S} (d : PD) : eV 7 (x0 :: x1 :: x2 :: x3 :: x4 :: x5 :: x6 :: some (.v d) :: r) st = .ok d st := rfl
@[simp] theorem ePv_7 {x0 x1 x2 x3 x4 x5 x6 : Option Sl} {r : Env} {st : S} (d : PD) : ePk 7 (x0 :: x1 :: x2 :: x3 :: x4 :: x5 :: x6 :: some (.v d) :: r) st = .ok d st := rfl
@[simp] theorem ePo_7 {x0 x1 x2 x3 x4 x5 x6 : Option Sl} {r : Env} {st : S} (d : List PD) : ePk 7 (x0 :: x1 :: x2 :: x3 :: x4 :: x5 :: x6 :: some (.o d) :: r) st = .ok (.list d) st := rfl
@[simp] theorem eV_8 {x0 x1 x2 x3 x4 x5 x6 x7 : Option Sl} {r : Env} {st : S} (d : PD) : eV 8 (x0 :: x1 :: x2 :: x3 :: x4 :: x5 :: x6 :: x7 :: some (.v d) :: r) st = .ok d st := rfl
@[simp] theorem ePv_8 {x0 x1 x2 x3 x4 x5 x6 x7 : Option Sl} {r : Env} {st : S} (d : PD) : ePk 8 (x0 :: x1 :: x2 :: x3 :: x4 :: x5 :: x6 :: x7 :: some (.v d) :: r) st = .ok d st := rfl
@[simp] theorem ePo_8 {x0 x1 x2 x3 x4 x5 x6 x7 : Option Sl} {r : Env} {st : S} (d : List PD) : ePk 8 (x0 :: x1 :: x2 :: x3 :: x4 :: x5 :: x6 :: x7 :: some (.o d) :: r) st = .ok (.list d) st := rfl
@[simp] theorem eV_9 {x0 x1 x2 x3 x4 x5 x6 x7 x8 : Option Sl} {r : Env} {st : S} (d : PD) : eV 9 (x0 :: x1 :: x2 :: x3 :: x4 :: x5 :: x6 :: x7 :: x8 :: some (.v d) :: r) st = .ok d st := rfl
@[simp] theorem ePv_9 {x0 x1 x2 x3 x4 x5 x6 x7 x8 : Option Sl} {r : Env} {st : S} (d : PD) : ePk 9 (x0 :: x1 :: x2 :: x3 :: x4 :: x5 :: x6 :: x7 :: x8 :: some (.v d) :: r) st = .ok d st := rfl
@[simp] theorem ePo_9 {x0 x1 x2 x3 x4 x5 x6 x7 x8 : Option Sl} {r : Env} {st : S} (d : List PD) : ePk 9 (x0 :: x1 :: x2 :: x3 :: x4 :: x5 :: x6 :: x7 :: x8 :: some (.o d) :: r) st = .ok (.list d) st := rfl
@[simp] theorem eV_10 {x0 x1 x2 x3 x4 x5 x6 x7 x8 x9 : Option Sl} {r : Env} {st : S} (d : PD) : eV 10 (x0 :: x1 :: x2 :: x3 :: x4 :: x5 :: x6 :: x7 :: x8 :: x9 :: some (.v d) :: r) st = .ok d st := rfl
@[simp] theorem ePv_10 {x0 x1 x2 x3 x4 x5 x6 x7 x8 x9 : Option Sl} {r : Env} {st : S} (d : PD) : ePk 10 (x0 :: x1 :: x2 :: x3 :: x4 :: x5 :: x6 :: x7 :: x8 :: x9 :: some (.v d) :: r) st = .ok d st := rfl
@[simp] theorem ePo_10 {x0 x1 x2 x3 x4 x5 x6 x7 x8 x9 : Option Sl} {r : Env} {st : S} (d : List PD) : ePk 10 (x0 :: x1 :: x2 :: x3 :: x4 :: x5 :: x6 :: x7 :: x8 :: x9 :: some (.o d) :: r) st = .ok (.list d) st := rfl
@[simp] theorem eV_11 {x0 x1 x2 x3 x4 x5 x6 x7 x8 x9 x10 : Option Sl} {r : Env} {st : S} (d : PD) : eV 11 (x0 :: x1 :: x2 :: x3 :: x4 :: x5 :: x6 :: x7 :: x8 :: x9 :: x10 :: some (.v d) :: r) st = .ok d st := rfl
@[simp] theorem ePv_11 {x0 x1 x2 x3 x4 x5 x6 x7 x8 x9 x10 : Option Sl} {r : Env} {st : S} (d : PD) : ePk 11 (x0 :: x1 :: x2 :: x3 :: x4 :: x5 :: x6 :: x7 :: x8 :: x9 :: x10 :: some (.v d) :: r) st = .ok d st := rfl
@[simp] theorem ePo_11 {x0 x1 x2 x3 x4 x5 x6 x7 x8 x9 x10 : Option Sl} {r : Env} {st : S} (d : List PD) : ePk 11 (x0 :: x1 :: x2 :: x3 :: x4 :: x5 :: x6 :: x7 :: x8 :: x9 :: x10 :: some (.o d) :: r) st = .ok (.list d) st := rfl
@[simp] theorem eV_12 {x0 x1 x2 x3 x4 x5 x6 x7 x8 x9 x10 x11 : Option Sl} {r : Env} {st : S} (d : PD) : eV 12 (x0 :: x1 :: x2 :: x3 :: x4 :: x5 :: x6 :: x7 :: x8 :: x9 :: x10 :: x11 :: some (.v d) :: r) st = .ok d st := rfl
@[simp] theorem ePv_12 {x0 x1 x2 x3 x4 x5 x6 x7 x8 x9 x10 x11 : Option Sl} {r : Env} {st : S} (d : PD) : ePk 12 (x0 :: x1 :: x2 :: x3 :: x4 :: x5 :: x6 :: x7 :: x8 :: x9 :: x10 :: x11 :: some (.v d) :: r) st = .ok d st := rfl
@[simp] theorem ePo_12 {x0 x1 x2 x3 x4 x5 x6 x7 x8 x9 x10 x11 : Option Sl} {r : Env} {st : S} (d : List PD) : ePk 12 (x0 :: x1 :: x2 :: x3 :: x4 :: x5 :: x6 :: x7 :: x8 :: x9 :: x10 :: x11 :: some (.o d) :: r) st = .ok (.list d) st := rfl
@[simp] theorem eV_13 {x0 x1 x2 x3 x4 x5 x6 x7 x8 x9 x10 x11 x12 : Option Sl} {r : Env} {st : S} (d : PD) : eV 13 (x0 :: x1 :: x2 :: x3 :: x4 :: x5 :: x6 :: x7 :: x8 :: x9 :: x10 :: x11 :: x12 :: some (.v d) :: r) st = .ok d st := rfl
@[simp] theorem ePv_13 {x0 x1 x2 x3 x4 x5 x6 x7 x8 x9 x10 x11 x12 : Option Sl} {r : Env} {st : S} (d : PD) : ePk 13 (x0 :: x1 :: x2 :: x3 :: x4 :: x5 :: x6 :: x7 :: x8 :: x9 :: x10 :: x11 :: x12 :: some (.v d) :: r) st = .ok d st := rfl
@[simp] theorem ePo_13 {x0 x1 x2 x3 x4 x5 x6 x7 x8 x9 x10 x11 x12 : Option Sl} {r : Env} {st : S} (d : List PD) : ePk 13 (x0 :: x1 :: x2 :: x3 :: x4 :: x5 :: x6 :: x7 :: x8 :: x9 :: x10 :: x11 :: x12 :: some (.o d) :: r) st = .ok (.list d) st := rfl
@[simp] theorem eV_14 {x0 x1 x2 x3 x4 x5 x6 x7 x8 x9 x10 x11 x12 x13 : Option Sl} {r : Env} {st : S} (d : PD) : eV 14 (x0 :: x1 :: x2 :: x3 :: x4 :: x5 :: x6 :: x7 :: x8 :: x9 :: x10 :: x11 :: x12 :: x13 :: some (.v d) :: r) st = .ok d st := rfl
@[simp] theorem ePv_14 {x0 x1 x2 x3 x4 x5 x6 x7 x8 x9 x10 x11 x12 x13 : Option Sl} {r : Env} {st : S} (d : PD) : ePk 14 (x0 :: x1 :: x2 :: x3 :: x4 :: x5 :: x6 :: x7 :: x8 :: x9 :: x10 :: x11 :: x12 :: x13 :: some (.v d) :: r) st = .ok d st := rfl
@[simp] theorem ePo_14 {x0 x1 x2 x3 x4 x5 x6 x7 x8 x9 x10 x11 x12 x13 : Option Sl} {r : Env} {st : S} (d : List PD) : ePk 14 (x0 :: x1 :: x2 :: x3 :: x4 :: x5 :: x6 :: x7 :: x8 :: x9 :: x10 :: x11 :: x12 :: x13 :: some (.o d) :: r) st = .ok (.list d) st := rfl
@[simp] theorem eV_15 {x0 x1 x2 x3 x4 x5 x6 x7 x8 x9 x10 x11 x12 x13 x14 : Option Sl} {r : Env} {st : S} (d : PD) : eV 15 (x0 :: x1 :: x2 :: x3 :: x4 :: x5 :: x6 :: x7 :: x8 :: x9 :: x10 :: x11 :: x12 :: x13 :: x14 :: some (.v d) :: r) st = .ok d st := rfl
@[simp] theorem ePv_15 {x0 x1 x2 x3 x4 x5 x6 x7 x8 x9 x10 x11 x12 x13 x14 : Option Sl} {r : Env} {st : S} (d : PD) : ePk 15 (x0 :: x1 :: x2 :: x3 :: x4 :: x5 :: x6 :: x7 :: x8 :: x9 :: x10 :: x11 :: x12 :: x13 :: x14 :: some (.v d) :: r) st = .ok d st := rfl
@[simp] theorem ePo_15 {x0 x1 x2 x3 x4 x5 x6 x7 x8 x9 x10 x11 x12 x13 x14 : Option Sl} {r : Env} {st : S} (d : List PD) : ePk 15 (x0 :: x1 :: x2 :: x3 :: x4 :: x5 :: x6 :: x7 :: x8 :: x9 :: x10 :: x11 :: x12 :: x13 :: x14 :: some (.o d) :: r) st = .ok (.list d) st := rfl
@[simp] theorem eV_16 {x0 x1 x2 x3 x4 x5 x6 x7 x8 x9 x10 x11 x12 x13 x14 x15 : Option Sl} {r : Env} {st : S} (d : PD) : eV 16 (x0 :: x1 :: x2 :: x3 :: x4 :: x5 :: x6 :: x7 :: x8 :: x9 :: x10 :: x11 :: x12 :: x13 :: x14 :: x15 :: some (.v d) :: r) st = .ok d st := rfl
@[simp] theorem ePv_16 {x0 x1 x2 x3 x4 x5 x6 x7 x8 x9 x10 x11 x12 x13 x14 x15 : Option Sl} {r : Env} {st : S} (d : PD) : ePk 16 (x0 :: x1 :: x2 :: x3 :: x4 :: x5 :: x6 :: x7 :: x8 :: x9 :: x10 :: x11 :: x12 :: x13 :: x14 :: x15 :: some (.v d) :: r) st = .ok d st := rfl
@[simp] theorem ePo_16 {x0 x1 x2 x3 x4 x5 x6 x7 x8 x9 x10 x11 x12 x13 x14 x15 : Option Sl} {r : Env} {st : S} (d : List PD) : ePk 16 (x0 :: x1 :: x2 :: x3 :: x4 :: x5 :: x6 :: x7 :: x8 :: x9 :: x10 :: x11 :: x12 :: x13 :: x14 :: x15 :: some (.o d) :: r) st = .ok (.list d) st := rfl
@[simp] theorem eV_17 {x0 x1 x2 x3 x4 x5 x6 x7 x8 x9 x10 x11 x12 x13 x14 x15 x16 : Option Sl} {r : Env} {st : S} (d : PD) : eV 17 (x0 :: x1 :: x2 :: x3 :: x4 :: x5 :: x6 :: x7 :: x8 :: x9 :: x10 :: x11 :: x12 :: x13 :: x14 :: x15 :: x16 :: some (.v d) :: r) st = .ok d st := rfl
@[simp] theorem ePv_17 {x0 x1 x2 x3 x4 x5 x6 x7 x8 x9 x10 x11 x12 x13 x14 x15 x16 : Option Sl} {r : Env} {st : S} (d : PD) : ePk 17 (x0 :: x1 :: x2 :: x3 :: x4 :: x5 :: x6 :: x7 :: x8 :: x9 :: x10 :: x11 :: x12 :: x13 :: x14 :: x15 :: x16 :: some (.v d) :: r) st = .ok d st := rfl
@[simp] theorem ePo_17 {x0 x1 x2 x3 x4 x5 x6 x7 x8 x9 x10 x11 x12 x13 x14 x15 x16 : Option Sl} {r : Env} {st : S} (d : List PD) : ePk 17 (x0 :: x1 :: x2 :: x3 :: x4 :: x5 :: x6 :: x7 :: x8 :: x9 :: x10 :: x11 :: x12 :: x13 :: x14 :: x15 :: x16 :: some (.o d) :: r) st = .ok (.list d) st := rfl
@[simp] theorem eV_18 {x0 x1 x2 x3 x4 x5 x6 x7 x8 x9 x10 x11 x12 x13 x14 x15 x16 x17 : Option Sl} {r : Env} {st : S} (d : PD) : eV 18 (x0 :: x1 :: x2 :: x3 :: x4 :: x5 :: x6 :: x7 :: x8 :: x9 :: x10 :: x11 :: x12 :: x13 :: x14 :: x15 :: x16 :: x17 :: some (.v d) :: r) st = .ok d st := rfl
@[simp] theorem ePv_18 {x0 x1 x2 x3 x4 x5 x6 x7 x8 x9 x10 x11 x12 x13 x14 x15 x16 x17 : Option Sl} {r : Env} {st : S} (d : PD) : ePk 18 (x0 :: x1 :: x2 :: x3 :: x4 :: x5 :: x6 :: x7 :: x8 :: x9 :: x10 :: x11 :: x12 :: x13 :: x14 :: x15 :: x16 :: x17 :: some (.v d) :: r) st = .ok d st := rfl
@[simp] theorem ePo_18 {x0 x1 x2 x3 x4 x5 x6 x7 x8 x9 x10 x11 x12 x13 x14 x15 x16 x17 : Option Sl} {r : Env} {st : S} (d : List PD) : ePk 18 (x0 :: x1 :: x2 :: x3 :: x4 :: x5 :: x6 :: x7 :: x8 :: x9 :: x10 :: x11 :: x12 :: x13 :: x14 :: x15 :: x16 :: x17 :: some (.o d) :: r) st = .ok (.list d) st := rfl
@[simp] theorem eV_19 {x0 x1 x2 x3 x4 x5 x6 x7 x8 x9 x10 x11 x12 x13 x14 x15 x16 x17 x18 : Option Sl} {r : Env} {st : S} (d : PD) : eV 19 (x0 :: x1 :: x2 :: x3 :: x4 :: x5 :: x6 :: x7 :: x8 :: x9 :: x10 :: x11 :: x12 :: x13 :: x14 :: x15 :: x16 :: x17 :: x18 :: some (.v d) :: r) st = .ok d st := rfl
@[simp] theorem ePv_19 {x0 x1 x2 x3 x4 x5 x6 x7 x8 x9 x10 x11 x12 x13 x14 x15 x16 x17 x18 : Option Sl} {r : Env} {st : S} (d : PD) : ePk 19 (x0 :: x1 :: x2 :: x3 :: x4 :: x5 :: x6 :: x7 :: x8 :: x9 :: x10 :: x11 :: x12 :: x13 :: x14 :: x15 :: x16 :: x17 :: x18 :: some (.v d) :: r) st = .ok d st := rfl
@[simp] theorem ePo_19 {x0 x1 x2 x3 x4 x5 x6 x7 x8 x9 x10 x11 x12 x13 x14 x15 x16 x17 x18 : Option Sl} {r : Env} {st : S} (d : List PD) : ePk 19 (x0 :: x1 :: x2 :: x3 :: x4 :: x5 :: x6 :: x7 :: x8 :: x9 :: x10 :: x11 :: x12 :: x13 :: x14 :: x15 :: x16 :: x17 :: x18 :: some (.o d) :: r) st = .ok (.list d) st := rfl
@[simp] theorem eV_20 {x0 x1 x2 x3 x4 x5 x6 x7 x8 x9 x10 x11 x12 x13 x14 x15 x16 x17 x18 x19 : Option Sl} {r : Env} {st : S} (d : PD) : eV 20 (x0 :: x1 :: x2 :: x3 :: x4 :: x5 :: x6 :: x7 :: x8 :: x9 :: x10 :: x11 :: x12 :: x13 :: x14 :: x15 :: x16 :: x17 :: x18 :: x19 :: some (.v d) :: r) st = .ok d st := rfl
@[simp] theorem ePv_20 {x0 x1 x2 x3 x4 x5 x6 x7 x8 x9 x10 x11 x12 x13 x14 x15 x16 x17 x18 x19 : Option Sl} {r : Env} {st : S} (d : PD) : ePk 20 (x0 :: x1 :: x2 :: x3 :: x4 :: x5 :: x6 :: x7 :: x8 :: x9 :: x10 :: x11 :: x12 :: x13 :: x14 :: x15 :: x16 :: x17 :: x18 :: x19 :: some (.v d) :: r) st = .ok d st := rfl
@[simp] theorem ePo_20 {x0 x1 x2 x3 x4 x5 x6 x7 x8 x9 x10 x11 x12 x13 x14 x15 x16 x17 x18 x19 : Option Sl} {r : Env} {st : S} (d : List PD) : ePk 20 (x0 :: x1 :: x2 :: x3 :: x4 :: x5 :: x6 :: x7 :: x8 :: x9 :: x10 :: x11 :: x12 :: x13 :: x14 :: x15 :: x16 :: x17 :: x18 :: x19 :: some (.o d) :: r) st = .ok (.list d) st := rfl
@[simp] theorem eV_21 {x0 x1 x2 x3 x4 x5 x6 x7 x8 x9 x10 x11 x12 x13 x14 x15 x16 x17 x18 x19 x20 : Option Sl} {r : Env} {st : S} (d : PD) : eV 21 (x0 :: x1 :: x2 :: x3 :: x4 :: x5 :: x6 :: x7 :: x8 :: x9 :: x10 :: x11 :: x12 :: x13 :: x14 :: x15 :: x16 :: x17 :: x18 :: x19 :: x20 :: some (.v d) :: r) st = .ok d st := rfl
@[simp] theorem ePv_21 {x0 x1 x2 x3 x4 x5 x6 x7 x8 x9 x10 x11 x12 x13 x14 x15 x16 x17 x18 x19 x20 : Option Sl} {r : Env} {st : S} (d : PD) : ePk 21 (x0 :: x1 :: x2 :: x3 :: x4 :: x5 :: x6 :: x7 :: x8 :: x9 :: x10 :: x11 :: x12 :: x13 :: x14 :: x15 :: x16 :: x17 :: x18 :: x19 :: x20 :: some (.v d) :: r) st = .ok d st := rfl
@[simp] theorem ePo_21 {x0 x1 x2 x3 x4 x5 x6 x7 x8 x9 x10 x11 x12 x13 x14 x15 x16 x17 x18 x19 x20 : Option Sl} {r : Env} {st : S} (d : List PD) : ePk 21 (x0 :: x1 :: x2 :: x3 :: x4 :: x5 :: x6 :: x7 :: x8 :: x9 :: x10 :: x11 :: x12 :: x13 :: x14 :: x15 :: x16 :: x17 :: x18 :: x19 :: x20 :: some (.o d) :: r) st = .ok (.list d) st := rfl
@[simp] theorem eV_22 {x0 x1 x2 x3 x4 x5 x6 x7 x8 x9 x10 x11 x12 x13 x14 x15 x16 x17 x18 x19 x20 x21 : Option Sl} {r : Env} {st : S} (d : PD) : eV 22 (x0 :: x1 :: x2 :: x3 :: x4 :: x5 :: x6 :: x7 :: x8 :: x9 :: x10 :: x11 :: x12 :: x13 :: x14 :: x15 :: x16 :: x17 :: x18 :: x19 :: x20 :: x21 :: some (.v d) :: r) st = .ok d st := rfl
@[simp] theorem ePv_22 {x0 x1 x2 x3 x4 x5 x6 x7 x8 x9 x10 x11 x12 x13 x14 x15 x16 x17 x18 x19 x20 x21 : Option Sl} {r : Env} {st : S} (d : PD) : ePk 22 (x0 :: x1 :: x2 :: x3 :: x4 :: x5 :: x6 :: x7 :: x8 :: x9 :: x10 :: x11 :: x12 :: x13 :: x14 :: x15 :: x16 :: x17 :: x18 :: x19 :: x20 :: x21 :: some (.v d) :: r) st = .ok d st := rfl
@[simp] theorem ePo_22 {x0 x1 x2 x3 x4 x5 x6 x7 x8 x9 x10 x11 x12 x13 x14 x15 x16 x17 x18 x19 x20 x21 : Option Sl} {r : Env} {st : S} (d : List PD) : ePk 22 (x0 :: x1 :: x2 :: x3 :: x4 :: x5 :: x6 :: x7 :: x8 :: x9 :: x10 :: x11 :: x12 :: x13 :: x14 :: x15 :: x16 :: x17 :: x18 :: x19 :: x20 :: x21 :: some (.o d) :: r) st = .ok (.list d) st := rfl
@[simp] theorem eV_23 {x0 x1 x2 x3 x4 x5 x6 x7 x8 x9 x10 x11 x12 x13 x14 x15 x16 x17 x18 x19 x20 x21 x22 : Option Sl} {r : Env} {st : S} (d : PD) : eV 23 (x0 :: x1 :: x2 :: x3 :: x4 :: x5 :: x6 :: x7 :: x8 :: x9 :: x10 :: x11 :: x12 :: x13 :: x14 :: x15 :: x16 :: x17 :: x18 :: x19 :: x20 :: x21 :: x22 :: some (.v d) :: r) st = .ok d st := rfl
@[simp] theorem ePv_23 {x0 x1 x2 x3 x4 x5 x6 x7 x8 x9 x10 x11 x12 x13 x14 x15 x16 x17 x18 x19 x20 x21 x22 : Option Sl} {r : Env} {st : S} (d : PD) : ePk 23 (x0 :: x1 :: x2 :: x3 :: x4 :: x5 :: x6 :: x7 :: x8 :: x9 :: x10 :: x11 :: x12 :: x13 :: x14 :: x15 :: x16 :: x17 :: x18 :: x19 :: x20 :: x21 :: x22 :: some (.v d) :: r) st = .ok d st := rfl
@[simp] theorem ePo_23 {x0 x1 x2 x3 x4 x5 x6 x7 x8 x9 x10 x11 x12 x13 x14 x15 x16 x17 x18 x19 x20 x21 x22 : Option Sl} {r : Env} {st : S} (d : List PD) : ePk 23 (x0 :: x1 :: x2 :: x3 :: x4 :: x5 :: x6 :: x7 :: x8 :: x9 :: x10 :: x11 :: x12 :: x13 :: x14 :: x15 :: x16 :: x17 :: x18 :: x19 :: x20 :: x21 :: x22 :: some (.o d) :: r) st = .ok (.list d) st := rfl
@[simp] theorem eV_24 {x0 x1 x2 x3 x4 x5 x6 x7 x8 x9 x10 x11 x12 x13 x14 x15 x16 x17 x18 x19 x20 x21 x22 x23 : Option Sl} {r : Env} {st : S} (d : PD) : eV 24 (x0 :: x1 :: x2 :: x3 :: x4 :: x5 :: x6 :: x7 :: x8 :: x9 :: x10 :: x11 :: x12 :: x13 :: x14 :: x15 :: x16 :: x17 :: x18 :: x19 :: x20 :: x21 :: x22 :: x23 :: some (.v d) :: r) st = .ok d st := rfl
@[simp] theorem ePv_24 {x0 x1 x2 x3 x4 x5 x6 x7 x8 x9 x10 x11 x12 x13 x14 x15 x16 x17 x18 x19 x20 x21 x22 x23 : Option Sl} {r : Env} {st : S} (d : PD) : ePk 24 (x0 :: x1 :: x2 :: x3 :: x4 :: x5 :: x6 :: x7 :: x8 :: x9 :: x10 :: x11 :: x12 :: x13 :: x14 :: x15 :: x16 :: x17 :: x18 :: x19 :: x20 :: x21 :: x22 :: x23 :: some (.v d) :: r) st = .ok d st := rfl
@[simp] theorem ePo_24 {x0 x1 x2 x3 x4 x5 x6 x7 x8 x9 x10 x11 x12 x13 x14 x15 x16 x17 x18 x19 x20 x21 x22 x23 : Option Sl} {r : Env} {st : S} (d : List PD) : ePk 24 (x0 :: x1 :: x2 :: x3 :: x4 :: x5 :: x6 :: x7 :: x8 :: x9 :: x10 :: x11 :: x12 :: x13 :: x14 :: x15 :: x16 :: x17 :: x18 :: x19 :: x20 :: x21 :: x22 :: x23 :: some (.o d) :: r) st = .ok (.list d) st := rfl
@[simp] theorem eV_25 {x0 x1 x2 x3 x4 x5 x6 x7 x8 x9 x10 x11 x12 x13 x14 x15 x16 x17 x18 x19 x20 x21 x22 x23 x24 : Option Sl} {r : Env} {st : S} (d : PD) : eV 25 (x0 :: x1 :: x2 :: x3 :: x4 :: x5 :: x6 :: x7 :: x8 :: x9 :: x10 :: x11 :: x12 :: x13 :: x14 :: x15 :: x16 :: x17 :: x18 :: x19 :: x20 :: x21 :: x22 :: x23 :: x24 :: some (.v d) :: r) st = .ok d st := rfl
@[simp] theorem ePv_25 {x0 x1 x2 x3 x4 x5 x6 x7 x8 x9 x10 x11 x12 x13 x14 x15 x16 x17 x18 x19 x20 x21 x22 x23 x24 : Option Sl} {r : Env} {st : S} (d : PD) : ePk 25 (x0 :: x1 :: x2 :: x3 :: x4 :: x5 :: x6 :: x7 :: x8 :: x9 :: x10 :: x11 :: x12 :: x13 :: x14 :: x15 :: x16 :: x17 :: x18 :: x19 :: x20 :: x21 :: x22 :: x23 :: x24 :: some (.v d) :: r) st = .ok d st := rfl
@[simp] theorem ePo_25 {x0 x1 x2 x3 x4 x5 x6 x7 x8 x9 x10 x11 x12 x13 x14 x15 x16 x17 x18 x19 x20 x21 x22 x23 x24 : Option Sl} {r : Env} {st : S} (d : List PD) : ePk 25 (x0 :: x1 :: x2 :: x3 :: x4 :: x5 :: x6 :: x7 :: x8 :: x9 :: x10 :: x11 :: x12 :: x13 :: x14 :: x15 :: x16 :: x17 :: x18 :: x19 :: x20 :: x21 :: x22 :: x23 :: x24 :: some (.o d) :: r) st = .ok (.list d) st := rfl
@[simp] theorem eV_26 {x0 x1 x2 x3 x4 x5 x6 x7 x8 x9 x10 x11 x12 x13 x14 x15 x16 x17 x18 x19 x20 x21 x22 x23 x24 x25 : Option Sl} {r : Env} {st : S} (d : PD) : eV 26 (x0 :: x1 :: x2 :: x3 :: x4 :: x5 :: x6 :: x7 :: x8 :: x9 :: x10 :: x11 :: x12 :: x13 :: x14 :: x15 :: x16 :: x17 :: x18 :: x19 :: x20 :: x21 :: x22 :: x23 :: x24 :: x25 :: some (.v d) :: r) st = .ok d st := rfl
@[simp] theorem ePv_26 {x0 x1 x2 x3 x4 x5 x6 x7 x8 x9 x10 x11 x12 x13 x14 x15 x16 x17 x18 x19 x20 x21 x22 x23 x24 x25 : Option Sl} {r : Env} {st : S} (d : PD) : ePk 26 (x0 :: x1 :: x2 :: x3 :: x4 :: x5 :: x6 :: x7 :: x8 :: x9 :: x10 :: x11 :: x12 :: x13 :: x14 :: x15 :: x16 :: x17 :: x18 :: x19 :: x20 :: x21 :: x22 :: x23 :: x24 :: x25 :: some (.v d) :: r) st = .ok d st := rfl
@[simp] theorem ePo_26 {x0 x1 x2 x3 x4 x5 x6 x7 x8 x9 x10 x11 x12 x13 x14 x15 x16 x17 x18 x19 x20 x21 x22 x23 x24 x25 : Option Sl} {r : Env} {st : S} (d : List PD) : ePk 26 (x0 :: x1 :: x2 :: x3 :: x4 :: x5 :: x6 :: x7 :: x8 :: x9 :: x10 :: x11 :: x12 :: x13 :: x14 :: x15 :: x16 :: x17 :: x18 :: x19 :: x20 :: x21 :: x22 :: x23 :: x24 :: x25 :: some (.o d) :: r) st = .ok (.list d) st := rfl
@[simp] theorem eV_27 {x0 x1 x2 x3 x4 x5 x6 x7 x8 x9 x10 x11 x12 x13 x14 x15 x16 x17 x18 x19 x20 x21 x22 x23 x24 x25 x26 : Option Sl} {r : Env} {st : S} (d : PD) : eV 27 (x0 :: x1 :: x2 :: x3 :: x4 :: x5 :: x6 :: x7 :: x8 :: x9 :: x10 :: x11 :: x12 :: x13 :: x14 :: x15 :: x16 :: x17 :: x18 :: x19 :: x20 :: x21 :: x22 :: x23 :: x24 :: x25 :: x26 :: some (.v d) :: r) st = .ok d st := rfl
@[simp] theorem ePv_27 {x0 x1 x2 x3 x4 x5 x6 x7 x8 x9 x10 x11 x12 x13 x14 x15 x16 x17 x18 x19 x20 x21 x22 x23 x24 x25 x26 : Option Sl} {r : Env} {st : S} (d : PD) : ePk 27 (x0 :: x1 :: x2 :: x3 :: x4 :: x5 :: x6 :: x7 :: x8 :: x9 :: x10 :: x11 :: x12 :: x13 :: x14 :: x15 :: x16 :: x17 :: x18 :: x19 :: x20 :: x21 :: x22 :: x23 :: x24 :: x25 :: x26 :: some (.v d) :: r) st = .ok d st := rfl
@[simp] theorem ePo_27 {x0 x1 x2 x3 x4 x5 x6 x7 x8 x9 x10 x11 x12 x13 x14 x15 x16 x17 x18 x19 x20 x21 x22 x23 x24 x25 x26 : Option Sl} {r : Env} {st : S} (d : List PD) : ePk 27 (x0 :: x1 :: x2 :: x3 :: x4 :: x5 :: x6 :: x7 :: x8 :: x9 :: x10 :: x11 :: x12 :: x13 :: x14 :: x15 :: x16 :: x17 :: x18 :: x19 :: x20 :: x21 :: x22 :: x23 :: x24 :: x25 :: x26 :: some (.o d) :: r) st = .ok (.list d) st := rfl
@[simp] theorem eV_28 {x0 x1 x2 x3 x4 x5 x6 x7 x8 x9 x10 x11 x12 x13 x14 x15 x16 x17 x18 x19 x20 x21 x22 x23 x24 x25 x26 x27 : Option Sl} {r : Env} {st : S} (d : PD) : eV 28 (x0 :: x1 :: x2 :: x3 :: x4 :: x5 :: x6 :: x7 :: x8 :: x9 :: x10 :: x11 :: x12 :: x13 :: x14 :: x15 :: x16 :: x17 :: x18 :: x19 :: x20 :: x21 :: x22 :: x23 :: x24 :: x25 :: x26 :: x27 :: some (.v d) :: r) st = .ok d st := rfl
@[simp] theorem ePv_28 {x0 x1 x2 x3 x4 x5 x6 x7 x8 x9 x10 x11 x12 x13 x14 x15 x16 x17 x18 x19 x20 x21 x22 x23 x24 x25 x26 x27 : Option Sl} {r : Env} {st : S} (d : PD) : ePk 28 (x0 :: x1 :: x2 :: x3 :: x4 :: x5 :: x6 :: x7 :: x8 :: x9 :: x10 :: x11 :: x12 :: x13 :: x14 :: x15 :: x16 :: x17 :: x18 :: x19 :: x20 :: x21 :: x22 :: x23 :: x24 :: x25 :: x26 :: x27 :: some (.v d) :: r) st = .ok d st := rfl
@[simp] theorem ePo_28 {x0 x1 x2 x3 x4 x5 x6 x7 x8 x9 x10 x11 x12 x13 x14 x15 x16 x17 x18 x19 x20 x21 x22 x23 x24 x25 x26 x27 : Option Sl} {r : Env} {st : S} (d : List PD) : ePk 28 (x0 :: x1 :: x2 :: x3 :: x4 :: x5 :: x6 :: x7 :: x8 :: x9 :: x10 :: x11 :: x12 :: x13 :: x14 :: x15 :: x16 :: x17 :: x18 :: x19 :: x20 :: x21 :: x22 :: x23 :: x24 :: x25 :: x26 :: x27 :: some (.o d) :: r) st = .ok (.list d) st := rfl
@[simp] theorem eV_29 {x0 x1 x2 x3 x4 x5 x6 x7 x8 x9 x10 x11 x12 x13 x14 x15 x16 x17 x18 x19 x20 x21 x22 x23 x24 x25 x26 x27 x28 : Option Sl} {r : Env} {st : S} (d : PD) : eV 29 (x0 :: x1 :: x2 :: x3 :: x4 :: x5 :: x6 :: x7 :: x8 :: x9 :: x10 :: x11 :: x12 :: x13 :: x14 :: x15 :: x16 :: x17 :: x18 :: x19 :: x20 :: x21 :: x22 :: x23 :: x24 :: x25 :: x26 :: x27 :: x28 :: some (.v d) :: r) st = .ok d st := rfl
@[simp] theorem ePv_29 {x0 x1 x2 x3 x4 x5 x6 x7 x8 x9 x10 x11 x12 x13 x14 x15 x16 x17 x18 x19 x20 x21 x22 x23 x24 x25 x26 x27 x28 : Option Sl} {r : Env} {st : S} (d : PD) : ePk 29 (x0 :: x1 :: x2 :: x3 :: x4 :: x5 :: x6 :: x7 :: x8 :: x9 :: x10 :: x11 :: x12 :: x13 :: x14 :: x15 :: x16 :: x17 :: x18 :: x19 :: x20 :: x21 :: x22 :: x23 :: x24 :: x25 :: x26 :: x27 :: x28 :: some (.v d) :: r) st = .ok d st := rfl
@[simp] theorem ePo_29 {x0 x1 x2 x3 x4 x5 x6 x7 x8 x9 x10 x11 x12 x13 x14 x15 x16 x17 x18 x19 x20 x21 x22 x23 x24 x25 x26 x27 x28 : Option Sl} {r : Env} {st : S} (d : List PD) : ePk 29 (x0 :: x1 :: x2 :: x3 :: x4 :: x5 :: x6 :: x7 :: x8 :: x9 :: x10 :: x11 :: x12 :: x13 :: x14 :: x15 :: x16 :: x17 :: x18 :: x19 :: x20 :: x21 :: x22 :: x23 :: x24 :: x25 :: x26 :: x27 :: x28 :: some (.o d) :: r) st = .ok (.list d) st := rfl
@[simp] theorem eV_30 {x0 x1 x2 x3 x4 x5 x6 x7 x8 x9 x10 x11 x12 x13 x14 x15 x16 x17 x18 x19 x20 x21 x22 x23 x24 x25 x26 x27 x28 x29 : Option Sl} {r : Env} {st : S} (d : PD) : eV 30 (x0 :: x1 :: x2 :: x3 :: x4 :: x5 :: x6 :: x7 :: x8 :: x9 :: x10 :: x11 :: x12 :: x13 :: x14 :: x15 :: x16 :: x17 :: x18 :: x19 :: x20 :: x21 :: x22 :: x23 :: x24 :: x25 :: x26 :: x27 :: x28 :: x29 :: some (.v d) :: r) st = .ok d st := rfl
@[simp] theorem ePv_30 {x0 x1 x2 x3 x4 x5 x6 x7 x8 x9 x10 x11 x12 x13 x14 x15 x16 x17 x18 x19 x20 x21 x22 x23 x24 x25 x26 x27 x28 x29 : Option Sl} {r : Env} {st : S} (d : PD) : ePk 30 (x0 :: x1 :: x2 :: x3 :: x4 :: x5 :: x6 :: x7 :: x8 :: x9 :: x10 :: x11 :: x12 :: x13 :: x14 :: x15 :: x16 :: x17 :: x18 :: x19 :: x20 :: x21 :: x22 :: x23 :: x24 :: x25 :: x26 :: x27 :: x28 :: x29 :: some (.v d) :: r) st = .ok d st := rfl
@[simp] theorem ePo_30 {x0 x1 x2 x3 x4 x5 x6 x7 x8 x9 x10 x11 x12 x13 x14 x15 x16 x17 x18 x19 x20 x21 x22 x23 x24 x25 x26 x27 x28 x29 : Option Sl} {r : Env} {st : S} (d : List PD) : ePk 30 (x0 :: x1 :: x2 :: x3 :: x4 :: x5 :: x6 :: x7 :: x8 :: x9 :: x10 :: x11 :: x12 :: x13 :: x14 :: x15 :: x16 :: x17 :: x18 :: x19 :: x20 :: x21 :: x22 :: x23 :: x24 :: x25 :: x26 :: x27 :: x28 :: x29 :: some (.o d) :: r) st = .ok (.list d) st := rfl
@[simp] theorem eV_31 {x0 x1 x2 x3 x4 x5 x6 x7 x8 x9 x10 x11 x12 x13 x14 x15 x16 x17 x18 x19 x20 x21 x22 x23 x24 x25 x26 x27 x28 x29 x30 : Option Sl} {r : Env} {st : S} (d : PD) : eV 31 (x0 :: x1 :: x2 :: x3 :: x4 :: x5 :: x6 :: x7 :: x8 :: x9 :: x10 :: x11 :: x12 :: x13 :: x14 :: x15 :: x16 :: x17 :: x18 :: x19 :: x20 :: x21 :: x22 :: x23 :: x24 :: x25 :: x26 :: x27 :: x28 :: x29 :: x30 :: some (.v d) :: r) st = .ok d st := rfl
@[simp] theorem ePv_31 {x0 x1 x2 x3 x4 x5 x6 x7 x8 x9 x10 x11 x12 x13 x14 x15 x16 x17 x18 x19 x20 x21 x22 x23 x24 x25 x26 x27 x28 x29 x30 : Option Sl} {r : Env} {st : S} (d : PD) : ePk 31 (x0 :: x1 :: x2 :: x3 :: x4 :: x5 :: x6 :: x7 :: x8 :: x9 :: x10 :: x11 :: x12 :: x13 :: x14 :: x15 :: x16 :: x17 :: x18 :: x19 :: x20 :: x21 :: x22 :: x23 :: x24 :: x25 :: x26 :: x27 :: x28 :: x29 :: x30 :: some (.v d) :: r) st = .ok d st := rfl
@[simp] theorem ePo_31 {x0 x1 x2 x3 x4 x5 x6 x7 x8 x9 x10 x11 x12 x13 x14 x15 x16 x17 x18 x19 x20 x21 x22 x23 x24 x25 x26 x27 x28 x29 x30 : Option Sl} {r : Env} {st : S} (d : List PD) : ePk 31 (x0 :: x1 :: x2 :: x3 :: x4 :: x5 :: x6 :: x7 :: x8 :: x9 :: x10 :: x11 :: x12 :: x13 :: x14 :: x15 :: x16 :: x17 :: x18 :: x19 :: x20 :: x21 :: x22 :: x23 :: x24 :: x25 :: x26 :: x27 :: x28 :: x29 :: x30 :: some (.o d) :: r) st = .ok (.list d) st := rfl
section
variable {env env' : Env} {st st' s : S} {f g : MS} {c : Str} {d : PD}
theorem seq_nx (h : f env st = .ok (.nx env') st') : sSeq f g env st = g env' st' := by
  unfold sSeq; rw [h]
theorem seq_rt (h : f env st = .ok (.rt d) st') : sSeq f g env st = .ok (.rt d) st' := by
  unfold sSeq; rw [h]
theorem seq_ex (h : f env st = .ok (.ex c env') st') : sSeq f g env st = .ok (.ex c env') st' := by
  unfold sSeq; rw [h]
theorem if_T {c : Env → M Bool} (h : c env st = .ok true st') : sIf c f g env st = f env st' := by
  unfold sIf; rw [h]
theorem if_F {c : Env → M Bool} (h : c env st = .ok false st') : sIf c f g env st = g env st' := by
  unfold sIf; rw [h]
theorem set_ok {i : Nat} {f : Env → M PD} (h : f env st = .ok d s) : sSet i f env st = .ok (.nx (env.set i (some (.v d)))) s := by
  unfold sSet; rw [h]
theorem ret_ok {f : Env → M PD} (h : f env st = .ok d s) : sRet f env st = .ok (.rt d) s := by
  unfold sRet; rw [h]
end

/-! ### operators upon known kinds -/
section
variable {st : S}
@[simp] theorem opAdd_int (i j : Int) : opAdd st (.int i) (.int j) = some (.int (i + j)) := rfl
@[simp] theorem opAddA_int (i j : Int) : opAddA st (.int i) (.int j) = some (.int (i + j)) := rfl
@[simp] theorem opSub_int (i j : Int) : opSub st (.int i) (.int j) = some (.int (i - j)) := rfl
@[simp] theorem opNeg_int (i : Int) : opNeg st (.int i) = some (.int (-i)) := rfl
@[simp] theorem opCmp_int (g : Int → Int → Bool) (i j : Int) : opCmp g st (.int i) (.int j) = some (.bool (g i j)) := rfl
@[simp] theorem opAbs_int (i : Int) : opAbs st [.int i] = some (.int (i.natAbs : Int)) := rfl
@[simp] theorem opMin2_int (i j : Int) : opMin2 st [.int i, .int j] = some (.int (min i j)) := rfl
@[simp] theorem opMax2_int (i j : Int) : opMax2 st [.int i, .int j] = some (.int (max i j)) := rfl
@[simp] theorem opInt_int (i : Int) : opInt st [.int i] = some (.int i) := rfl
@[simp] theorem opInt_bool (k : Bool) : opInt st [.bool k] = some (.int (if k then 1 else 0)) := rfl
@[simp] theorem opLen_list (xs : List PD) : opLen st [.list xs] = some (.int xs.length) := rfl
@[simp] theorem opLen_tuple (xs : List PD) : opLen st [.tuple xs] = some (.int xs.length) := rfl
@[simp] theorem opTuple_list (xs : List PD) : opTuple st [.list xs] = some (.tuple xs) := rfl
@[simp] theorem opTuple_tuple (xs : List PD) : opTuple st [.tuple xs] = some (.tuple xs) := rfl
@[simp] theorem opList_list (xs : List PD) : opList st [.list xs] = some xs := rfl
@[simp] theorem opSum_list (xs : List PD) : opSum st [.list xs] = (allInts xs).map fun ns => .int ns.sum := rfl
@[simp] theorem opAll_list (xs : List PD) : opAll st [.list xs] = (allBools xs).map fun ns => .bool (ns.all id) := rfl
@[simp] theorem asBool_bool (b : Bool) : asBool (.bool b) = some b := rfl
@[simp] theorem asInt_int (b : Int) : asInt (.int b) = some b := rfl
@[simp] theorem itemsD_list (xs : List PD) : itemsD (.list xs) = some xs := rfl
@[simp] theorem itemsD_tuple (xs : List PD) : itemsD (.tuple xs) = some xs := rfl
@[simp] theorem itemsD_str (z : Str) : itemsD (.str z) = some (chars z) := rfl
@[simp] theorem isD_int (i : Int) : isD (.int i) = true := rfl
@[simp] theorem isD_bool (i : Bool) : isD (.bool i) = true := rfl
@[simp] theorem isD_str (i : Str) : isD (.str i) = true := rfl
@[simp] theorem isD_none : isD .none = true := rfl
@[simp] theorem isD_list (i : List PD) : isD (.list i) = true := rfl
@[simp] theorem isD_tuple (i : List PD) : isD (.tuple i) = true := rfl
@[simp] theorem opEq_int (i j : Int) : opEq st (.int i) (.int j) = some (.bool (decide (i = j))) := rfl
@[simp] theorem opNe_int (i j : Int) : opNe st (.int i) (.int j) = some (.bool (!decide (i = j))) := rfl
@[simp] theorem opIs_bool (neg a b : Bool) : opIs neg st (.bool a) (.bool b) = some (.bool (if neg then !decide (a = b) else decide (a = b))) := rfl
theorem opMod_int {i j : Int} (h : j ≠ 0) : opMod st (.int i) (.int j) = some (.int (i.fmod j)) := by unfold opMod; simp [h]
@[simp] theorem opMod_pos {i j : Int} (h : 0 < j) : opMod st (.int i) (.int j) = some (.int (i % j)) := by
  rw [opMod_int (by omega), Int.fmod_eq_emod_of_nonneg _ (by omega)]
theorem opDiv_int {i j : Int} (h : j ≠ 0) (h2 : j.natAbs < 1073741824) : opDiv st (.int i) (.int j) = some (.int (i.fdiv j)) := by unfold opDiv; simp [h, h2]
theorem opDiv_wide {i j : Int} (h : 0 < j) (h2 : j.natAbs.log2 < 9000) : opDiv st (.int i) (.int j) = some (.int (i / j)) := by
  have e : opDiv st (.int i) (.int j) = if j ≠ 0 ∧ (j.natAbs < 1073741824 ∨ (0 < j ∧ j.natAbs.log2 < 9000)) then some (.int (i.fdiv j)) else none := rfl
  rw [e, if_pos ⟨by omega, .inr ⟨h, h2⟩⟩, Int.fdiv_eq_ediv_of_nonneg _ (by omega)]
def mulOk (i j : Int) : Prop := i.natAbs.log2 + j.natAbs.log2 < 1000000
@[simp] theorem opMul_int {i j : Int} (h : mulOk i j) : opMul st (.int i) (.int j) = some (.int (i * j)) := by unfold opMul; simp only [if_pos (show i.natAbs.log2 + j.natAbs.log2 < 1000000 from h)]
theorem opIx_tuple {ds : List PD} {i : Nat} {d : PD} (h : ds[i]? = some d) : opIx st (.tuple ds) (.int (i : Int)) = some d := atI_nat h
theorem opIx_list {ds : List PD} {i : Nat} {d : PD} (h : ds[i]? = some d) : opIx st (.list ds) (.int (i : Int)) = some d := atI_nat h
@[simp] theorem opIx_t20 (a b : PD) : opIx st (.tuple [a, b]) (.int 0) = some a := rfl
@[simp] theorem opIx_t21 (a b : PD) : opIx st (.tuple [a, b]) (.int 1) = some b := rfl
@[simp] theorem opIx_t30 (a b c : PD) : opIx st (.tuple [a, b, c]) (.int 0) = some a := rfl
@[simp] theorem opIx_t31 (a b c : PD) : opIx st (.tuple [a, b, c]) (.int 1) = some b := rfl
@[simp] theorem opIx_t32 (a b c : PD) : opIx st (.tuple [a, b, c]) (.int 2) = some c := rfl
@[simp] theorem opIx_t40 (a b c d : PD) : opIx st (.tuple [a, b, c, d]) (.int 0) = some a := rfl
@[simp] theorem opIx_t41 (a b c d : PD) : opIx st (.tuple [a, b, c, d]) (.int 1) = some b := rfl
@[simp] theorem opIx_t42 (a b c d : PD) : opIx st (.tuple [a, b, c, d]) (.int 2) = some c := rfl
@[simp] theorem opIx_t43 (a b c d : PD) : opIx st (.tuple [a, b, c, d]) (.int 3) = some d := rfl
@[simp] theorem opIx_l20 (a b : PD) : opIx st (.list [a, b]) (.int 0) = some a := rfl
@[simp] theorem opIx_l21 (a b : PD) : opIx st (.list [a, b]) (.int 1) = some b := rfl
@[simp] theorem opIx_l30 (a b c : PD) : opIx st (.list [a, b, c]) (.int 0) = some a := rfl
@[simp] theorem opIx_l31 (a b c : PD) : opIx st (.list [a, b, c]) (.int 1) = some b := rfl
@[simp] theorem opIx_l32 (a b c : PD) : opIx st (.list [a, b, c]) (.int 2) = some c := rfl
@[simp] theorem opIx_st0 : opIx st STT (.int 0) = some (.list (st.cells.map .int)) := rfl
@[simp] theorem opIx_st1 : opIx st STT (.int 1) = some (.int st.pos) := rfl
@[simp] theorem opIx_st2 : opIx st STT (.int 2) = some (.int st.cell) := rfl
@[simp] theorem opIx_st3 : opIx st STT (.int 3) = some (.int st.left) := rfl
@[simp] theorem opIx_st4 : opIx st STT (.int 4) = some (.bool st.big) := rfl
end
theorem runFn_of {n N : Nat} {g : MS} {ds : List PD} {st s : S} {o : Out} (h : ds.length = n) (e : g (startE N ds) st = .ok o s) : runFn n N g ds st = R.ofRS (.ok o s) := by
  unfold runFn; rw [if_pos h, e]

/-! ### sizes of ints -/
def Bz (n : Nat) (i : Int) : Prop := i.natAbs < 2 ^ n
theorem Bz.mono {n m : Nat} {i : Int} (h : Bz n i) (l : n ≤ m) : Bz m i := Nat.lt_of_lt_of_le h (Nat.pow_le_pow_right (by decide) l)
theorem Bz.mul {n m : Nat} {i j : Int} (h : Bz n i) (h' : Bz m j) : Bz (n + m) (i * j) := by
  unfold Bz
  rw [Int.natAbs_mul, Nat.pow_add]
  exact Nat.mul_lt_mul'' h h'
theorem Bz.add {n m : Nat} {i j : Int} (h : Bz n i) (h' : Bz m j) : Bz (max n m + 1) (i + j) := by
  have a := h.mono (Nat.le_max_left n m)
  have b := h'.mono (Nat.le_max_right n m)
  unfold Bz at *
  rw [Nat.pow_succ]
  omega
theorem Bz.sub {n m : Nat} {i j : Int} (h : Bz n i) (h' : Bz m j) : Bz (max n m + 1) (i - j) := by
  have a := h.mono (Nat.le_max_left n m)
  have b := h'.mono (Nat.le_max_right n m)
  unfold Bz at *
  rw [Nat.pow_succ]
  omega
theorem Bz.neg {n : Nat} {i : Int} (h : Bz n i) : Bz n (-i) := by
  unfold Bz at *
  omega
theorem Bz.log {n : Nat} {i : Int} (h : Bz n i) : i.natAbs.log2 ≤ n := by
  unfold Bz at h
  by_cases z : i.natAbs = 0
  · rw [z]; simp
  · exact Nat.le_of_lt ((Nat.log2_lt z).mpr h)
theorem mulOk_bz {n m : Nat} {i j : Int} (h : Bz n i) (h' : Bz m j) (l : n + m < 1000000) : mulOk i j := by
  have := h.log
  have := h'.log
  unfold mulOk
  omega
theorem Bz.of {n : Nat} {i : Int} (h1 : -(2 ^ n : Int) < i) (h2 : i < (2 ^ n : Int)) : Bz n i := by
  unfold Bz
  have : (i.natAbs : Int) < ((2 ^ n : Nat) : Int) := by push_cast; omega
  exact_mod_cast this
theorem Bz.le {n : Nat} {i j : Int} (h : Bz n j) (h2 : i.natAbs ≤ j.natAbs) : Bz n i := Nat.lt_of_le_of_lt h2 h
end DL
/-! DL9: the law's draws. -/
namespace DL
open PySem PySem.Spec PyProof.Rows L2
structure Good (st : S) : Prop where
  pos : 0 ≤ st.pos
  cell : st.big = false → 0 ≤ st.cell ∧ st.cell < 1000000000000000000
  left : 0 ≤ st.left ∧ st.left ≤ 60
theorem good0 (ns : List Int) : Good ⟨ns, 0, 0, 0, false⟩ := ⟨Int.le_refl 0, fun _ => ⟨Int.le_refl 0, (by decide : (0 : Int) < 1000000000000000000)⟩, ⟨Int.le_refl 0, (by decide : (0 : Int) ≤ 60)⟩⟩
def drA : MS := sIf (tV (e2 opEq (e2 opIx (eV 0) (eC (.int 3))) (eC (.int 0)))) (sSeq (sIf (tV (e2 opGe (e2 opIx (eV 0) (eC (.int 1))) (eB opLen (aCons (e2 opIx (eV 0) (eC (.int 0))) aNil)))) (sRet (eC (.int 0))) sSkip)
  (sSeq (sSet 2 (e2 opIx (e2 opIx (eV 0) (eC (.int 0))) (e2 opIx (eV 0) (eC (.int 1)))))
  (sSeq (sIf (tV (e2 opLt (eV 2) (eC (.int 0)))) (sSet 2 (e2 opSub (e1 opNeg (eC (.int 1))) (eV 2))) sSkip)
  (sSeq (sSt 0 1 (e2 opAdd (e2 opIx (eV 0) (eC (.int 1))) (eC (.int 1))))
  (sSeq (sSt 0 2 (eV 2))
  (sSeq (sSt 0 4 (e2 opGe (eV 2) (e2 opPow (eC (.int 10)) (eC (.int 18)))))
  (sSeq (sSt 0 3 (eC (.int 6)))
  (sIf (tV (e2 opIx (eV 0) (eC (.int 4)))) (sSt 0 3 (eC (.int 60))) sSkip)))))))) sSkip
def drB : MS := (sSeq (sSt 0 3 (e2 opSub (e2 opIx (eV 0) (eC (.int 3))) (eC (.int 1))))
  (sSeq (sIf (tV (e2 opIx (eV 0) (eC (.int 4)))) (sSeq (sSet 3 (e2 opMod (eB opInt (aCons (e2 opIx (eV 0) (eC (.int 2))) aNil)) (eV 1)))
  (sSeq (sSt 0 2 (e2 opDiv (e2 opIx (eV 0) (eC (.int 2))) (eV 1)))
  (sSeq (sIf (tV (e2 opEq (e2 opIx (eV 0) (eC (.int 2))) (eC (.int 0)))) (sSt 0 3 (eC (.int 0))) sSkip)
  (sRet (eV 3))))) sSkip)
  (sSeq (sSet 4 (e2 opMod (eB opInt (aCons (e2 opAdd (e2 opAdd (e2 opMul (e2 opIx (eV 0) (eC (.int 2))) (eC (.int 48271))) (e2 opMul (e2 opIx (eV 0) (eC (.int 3))) (eC (.int 69621)))) (eC (.int 7))) aNil)) (eC (.int 2147483647))))
  (sSeq (sSet 4 (e2 opMod (eB opInt (aCons (e2 opAdd (e2 opAdd (e2 opMul (eV 4) (eV 4)) (e2 opMul (e2 opIx (eV 0) (eC (.int 2))) (eC (.int 31)))) (e2 opIx (eV 0) (eC (.int 3)))) aNil)) (eC (.int 1000003))))
  (sRet (e2 opMod (eB opInt (aCons (eV 4) aNil)) (eV 1)))))))
theorem drA_ok (st : S) (h : Good st) (lim : Int) : drA [some (.v STT), some (.v (.int lim)), none, none, none] st = .ok (.rt (.int 0)) st ∨
    ∃ c2 st1, drA [some (.v STT), some (.v (.int lim)), none, none, none] st = .ok (.nx [some (.v STT), some (.v (.int lim)), c2, none, none]) st1 ∧ Good st1 ∧ 1 ≤ st1.left := by
  have hp := h.pos
  have hpow : ∀ s : S, opPow s (.int 10) (.int 18) = some (.int (10 ^ 18)) := fun s => rfl
  by_cases h0 : st.left = 0
  · by_cases h1 : (st.cells.length : Int) ≤ st.pos
    · left
      simp [drA, h0, h1]
    · right
      obtain ⟨k, hk⟩ : ∃ k : Nat, st.pos = (k : Int) := ⟨st.pos.toNat, by omega⟩
      have hlt : k < st.cells.length := by omega
      have e1 : opIx st (.list (st.cells.map .int)) (.int (k : Int)) = some (.int st.cells[k]) := opIx_list (by rw [List.getElem?_map, List.getElem?_eq_getElem hlt]; rfl)
      have h1' : ¬ (st.cells.length : Int) ≤ (k : Int) := by omega
      by_cases hn : st.cells[k] < 0
      · by_cases hb : (1000000000000000000 : Int) ≤ -1 - st.cells[k]
        · refine ⟨some (.v (.int (-1 - st.cells[k]))), { st with pos := k + 1, cell := -1 - st.cells[k], big := true, left := 60 }, ?_, ⟨by show (0 : Int) ≤ k + 1; omega, fun z => (nomatch z), ⟨by show (0 : Int) ≤ 60; decide, by show (60 : Int) ≤ 60; decide⟩⟩, by show (1 : Int) ≤ 60; decide⟩
          simp [drA, h0, hk, h1', e1, hn, hpow, hb]
        · refine ⟨some (.v (.int (-1 - st.cells[k]))), { st with pos := k + 1, cell := -1 - st.cells[k], big := false, left := 6 }, ?_, ⟨by show (0 : Int) ≤ k + 1; omega, fun _ => ⟨by show 0 ≤ -1 - st.cells[k]; omega, by show -1 - st.cells[k] < 1000000000000000000; omega⟩, ⟨by show (0 : Int) ≤ 6; decide, by show (6 : Int) ≤ 60; decide⟩⟩, by show (1 : Int) ≤ 6; decide⟩
          simp [drA, h0, hk, h1', e1, hn, hpow, hb]
      · by_cases hb : (1000000000000000000 : Int) ≤ st.cells[k]
        · refine ⟨some (.v (.int (st.cells[k]))), { st with pos := k + 1, cell := st.cells[k], big := true, left := 60 }, ?_, ⟨by show (0 : Int) ≤ k + 1; omega, fun z => (nomatch z), ⟨by show (0 : Int) ≤ 60; decide, by show (60 : Int) ≤ 60; decide⟩⟩, by show (1 : Int) ≤ 60; decide⟩
          simp [drA, h0, hk, h1', e1, hn, hpow, hb]
        · refine ⟨some (.v (.int (st.cells[k]))), { st with pos := k + 1, cell := st.cells[k], big := false, left := 6 }, ?_, ⟨by show (0 : Int) ≤ k + 1; omega, fun _ => ⟨by show 0 ≤ st.cells[k]; omega, by show st.cells[k] < 1000000000000000000; omega⟩, ⟨by show (0 : Int) ≤ 6; decide, by show (6 : Int) ≤ 60; decide⟩⟩, by show (1 : Int) ≤ 6; decide⟩
          simp [drA, h0, hk, h1', e1, hn, hpow, hb]
  · right
    exact ⟨none, st, by simp [drA, h0], h, by have := h.left; omega⟩
theorem drB_ok (st : S) (h : Good st) (hl : 1 ≤ st.left) (lim : Int) (h1 : 1 ≤ lim) (h2 : lim < 1073741824) (c2 : Option Sl) : ∃ r st', drB [some (.v STT), some (.v (.int lim)), c2, none, none] st = .ok (.rt (.int r)) st' ∧ 0 ≤ r ∧ r < lim ∧ Good st' := by
  have hL := h.left
  have hp := h.pos
  have l0 : lim ≠ 0 := by omega
  have l1 : lim.natAbs < 1073741824 := by omega
  have hlim : (0 : Int) < lim := by omega
  cases hb : st.big with
  | true =>
    by_cases hz : st.cell.fdiv lim = 0
    · refine ⟨st.cell % lim, { st with left := 0, cell := 0 }, ?_, Int.emod_nonneg _ l0, Int.emod_lt_of_pos _ hlim, ⟨hp, fun z => (by have z' : st.big = false := z; rw [hb] at z'; cases z'), ⟨by show (0 : Int) ≤ 0; decide, by show (0 : Int) ≤ 60; decide⟩⟩⟩
      simp [drB, hb, hz, opDiv_int l0 l1, hlim]
    · refine ⟨st.cell % lim, { st with left := st.left - 1, cell := st.cell.fdiv lim }, ?_, Int.emod_nonneg _ l0, Int.emod_lt_of_pos _ hlim, ⟨hp, fun z => (by have z' : st.big = false := z; rw [hb] at z'; cases z'), ⟨by show 0 ≤ st.left - 1; omega, by show st.left - 1 ≤ 60; omega⟩⟩⟩
      simp [drB, hb, hz, opDiv_int l0 l1, hlim]
  | false =>
    obtain ⟨c0, c1⟩ := h.cell hb
    have m1 : mulOk st.cell 48271 := mulOk_bz (n := 60) (m := 16) (Bz.of (by omega) (by omega)) (Bz.of (by decide) (by decide)) (by decide)
    have m2 : mulOk (st.left - 1) 69621 := mulOk_bz (n := 7) (m := 17) (Bz.of (by omega) (by omega)) (Bz.of (by decide) (by decide)) (by decide)
    have m4 : mulOk st.cell 31 := mulOk_bz (n := 60) (m := 16) (Bz.of (by omega) (by omega)) (Bz.of (by decide) (by decide)) (by decide)
    let a := (st.cell * 48271 + (st.left - 1) * 69621 + 7) % 2147483647
    have a0 : 0 ≤ a := Int.emod_nonneg _ (by decide)
    have a1 : a < 2147483647 := Int.emod_lt_of_pos _ (by decide)
    have m3 : mulOk a a := mulOk_bz (n := 32) (m := 32) (Bz.of (by omega) (by omega)) (Bz.of (by omega) (by omega)) (by decide)
    refine ⟨((a * a + st.cell * 31 + (st.left - 1)) % 1000003) % lim, { st with left := st.left - 1 }, ?_, Int.emod_nonneg _ l0, Int.emod_lt_of_pos _ hlim, ⟨hp, fun _ => ⟨c0, c1⟩, by show 0 ≤ st.left - 1; omega, by show st.left - 1 ≤ 60; omega⟩⟩
    simp [drB, hb, m1, m2, hlim]
    rw [opMul_int (show mulOk ((st.cell * 48271 + (st.left - 1) * 69621 + 7) % 2147483647) ((st.cell * 48271 + (st.left - 1) * 69621 + 7) % 2147483647) from m3)]
    simp [m4, hlim, a]
def drawM : List PD → M PD := runFn 2 5 (sSeq drA drB)
theorem draw_ok {st : S} (h : Good st) {lim : Int} (h1 : 1 ≤ lim) (h2 : lim < 1073741824) : ∃ r st', drawM [STT, .int lim] st = .ok (.int r) st' ∧ 0 ≤ r ∧ r < lim ∧ Good st' := by
  rcases drA_ok st h lim with e | ⟨c2, st1, e, g1, l1⟩
  · refine ⟨0, st, ?_, by decide, by omega, h⟩
    exact runFn_of rfl (seq_rt e)
  · obtain ⟨r, st', e2, r0, r1, g2⟩ := drB_ok st1 g1 l1 lim h1 h2 c2
    refine ⟨r, st', ?_, r0, r1, g2⟩
    refine runFn_of (o := .rt (.int r)) rfl ?_
    rw [show startE 5 [STT, .int lim] = [some (.v STT), some (.v (.int lim)), none, none, none] from rfl, seq_nx e]
    exact e2
end DL
/-! DL10: equality upon known kinds, comprehensions and loops as plain lists. -/
namespace DL
open PySem PySem.Spec PyProof.Rows L2
@[simp] theorem shp_int (i : Int) : SeqAt.shaped (.int i) = true := rfl
theorem opEq_sh {st : S} {d e : PD} (h : SeqAt.shaped d = true) (h' : SeqAt.shaped e = true) : opEq st d e = some (.bool (PyData.eqv d e)) := if_pos ⟨h, h'⟩
theorem opNe_sh {st : S} {d e : PD} (h : SeqAt.shaped d = true) (h' : SeqAt.shaped e = true) : opNe st d e = some (.bool (!PyData.eqv d e)) := if_pos ⟨h, h'⟩
theorem eqv_int (a b : Int) : PyData.eqv (.int a) (.int b) = decide (a = b) := by
  simp [PyData.eqv]; rfl
theorem eqv_tup (a b : List PD) : PyData.eqv (.tuple a) (.tuple b) = PyData.eqvAll a b := by simp [PyData.eqv]
theorem eqv_lst (a b : List PD) : PyData.eqv (.list a) (.list b) = PyData.eqvAll a b := by simp [PyData.eqv]
theorem eqv_str (a b : Str) : PyData.eqv (.str a) (.str b) = decide (a = b) := by simp [PyData.eqv]; rfl
theorem eqvAll_nil : PyData.eqvAll [] [] = true := by simp [PyData.eqvAll]
theorem eqvAll_cons (a b : PD) (as bs : List PD) : PyData.eqvAll (a :: as) (b :: bs) = (PyData.eqv a b && PyData.eqvAll as bs) := by simp [PyData.eqvAll]
def pr (p : Int × Int) : PD := .tuple [.int p.1, .int p.2]
theorem shp_t2 (a b : Int) : SeqAt.shaped (.tuple [.int a, .int b]) = true := rfl
theorem shp_t22 (a b c d : Int) : SeqAt.shaped (.tuple [.tuple [.int a, .int b], .tuple [.int c, .int d]]) = true := rfl
@[simp] theorem opEq_t2 {st : S} (a b c d : Int) : opEq st (.tuple [.int a, .int b]) (.tuple [.int c, .int d]) = some (.bool (decide (a = c) && decide (b = d))) := by
  rw [opEq_sh (shp_t2 ..) (shp_t2 ..)]; simp [eqv_tup, eqvAll_cons, eqvAll_nil, eqv_int]
@[simp] theorem opNe_t2 {st : S} (a b c d : Int) : opNe st (.tuple [.int a, .int b]) (.tuple [.int c, .int d]) = some (.bool (!(decide (a = c) && decide (b = d)))) := by
  rw [opNe_sh (shp_t2 ..) (shp_t2 ..)]; simp [eqv_tup, eqvAll_cons, eqvAll_nil, eqv_int]
theorem opNe_t22 {st : S} (a b c d : Int) : opNe st (.tuple [.tuple [.int a, .int b], .tuple [.int c, .int d]]) (.tuple [.tuple [.int a, .int b], .tuple [.int c, .int d]]) = some (.bool false) := by
  rw [opNe_sh (shp_t22 ..) (shp_t22 ..)]; simp [eqv_tup, eqvAll_cons, eqvAll_nil, eqv_int]
theorem opEq_str {st : S} {x y : Str} (h : PyData.strOk x = true) (h' : PyData.strOk y = true) : opEq st (.str x) (.str y) = some (.bool (decide (x = y))) := by
  rw [opEq_sh (show SeqAt.shaped (.str x) = true by simp [SeqAt.shaped, PyData.canLay0, PyData.depth, h]) (show SeqAt.shaped (.str y) = true by simp [SeqAt.shaped, PyData.canLay0, PyData.depth, h']), eqv_str]
theorem opNe_str {st : S} {x y : Str} (h : PyData.strOk x = true) (h' : PyData.strOk y = true) : opNe st (.str x) (.str y) = some (.bool (!decide (x = y))) := by
  rw [opNe_sh (show SeqAt.shaped (.str x) = true by simp [SeqAt.shaped, PyData.canLay0, PyData.depth, h]) (show SeqAt.shaped (.str y) = true by simp [SeqAt.shaped, PyData.canLay0, PyData.depth, h']), eqv_str]
theorem clay_prs : ∀ l : List (Int × Int), PyData.canLayAll0 (l.map pr) = true
  | [] => by simp [PyData.canLayAll0]
  | p :: l => by
    rw [List.map_cons, PyData.canLayAll0, clay_prs l]; rfl
theorem dep_prs : ∀ l : List (Int × Int), PyData.depthAll (l.map pr) ≤ 1
  | [] => by simp [PyData.depthAll]
  | p :: l => by
    rw [List.map_cons, PyData.depthAll]
    exact Nat.max_le.mpr ⟨(by decide : (1 : Nat) ≤ 1), dep_prs l⟩
theorem shp_prs (l : List (Int × Int)) : SeqAt.shaped (.list (l.map pr)) = true := by
  have h1 := clay_prs l
  have h2 := dep_prs l
  unfold SeqAt.shaped
  rw [PyData.canLay0, h1, PyData.depth]
  simp; omega
theorem eqv_pr (p q : Int × Int) : PyData.eqv (pr p) (pr q) = decide (p = q) := by
  obtain ⟨a, b⟩ := p
  obtain ⟨c, d⟩ := q
  simp [pr, eqv_tup, eqvAll_cons, eqvAll_nil, eqv_int]
theorem eqv_prs : ∀ l l' : List (Int × Int), PyData.eqvAll (l.map pr) (l'.map pr) = decide (l = l')
  | [], [] => by simp [PyData.eqvAll]
  | [], q :: l' => by simp [PyData.eqvAll]
  | p :: l, [] => by simp [PyData.eqvAll]
  | p :: l, q :: l' => by
    rw [List.map_cons, List.map_cons, eqvAll_cons, eqv_pr, eqv_prs l l']
    simp
theorem opEq_prs {st : S} (l l' : List (Int × Int)) : opEq st (.list (l.map pr)) (.list (l'.map pr)) = some (.bool (decide (l = l'))) := by
  rw [opEq_sh (shp_prs l) (shp_prs l'), eqv_lst, eqv_prs]
theorem opNe_prs {st : S} (l l' : List (Int × Int)) : opNe st (.list (l.map pr)) (.list (l'.map pr)) = some (.bool (!decide (l = l'))) := by
  rw [opNe_sh (shp_prs l) (shp_prs l'), eqv_lst, eqv_prs]
theorem any_pr (l : List (Int × Int)) (p : Int × Int) : ((l.map pr).any fun z => PyData.eqv z (pr p)) = l.contains p := by
  induction l with
  | nil => rfl
  | cons q l ih =>
    rw [List.map_cons, List.any_cons, ih, eqv_pr, List.contains_cons]
    congr 1
    by_cases h : q = p
    · simp [h]
    · have h2 : ¬ p = q := fun e => h e.symm
      simp [h, h2]
theorem opIn_prs {st : S} (neg : Bool) (l : List (Int × Int)) (p : Int × Int) : opIn neg st (pr p) (.list (l.map pr)) = some (.bool (if neg then !l.contains p else l.contains p)) := by
  show (if SeqAt.shaped (pr p) = true ∧ SeqAt.shaped (.list (l.map pr)) = true then some (PyData.bool (if neg then !(l.map pr).any fun z => PyData.eqv z (pr p) else (l.map pr).any fun z => PyData.eqv z (pr p))) else none) = _
  rw [if_pos ⟨rfl, shp_prs l⟩, any_pr]
section
variable {env : Env} {st : S}
def augD (i : Nat) (env : Env) (o : Option PD) (s : S) : RS := match o with
  | some z => .ok (.nx (env.set i (some (.v z)))) s
  | none => .bad
def augC (i : Nat) (op : S → PD → PD → Option PD) (d : PD) (env : Env) (r : R PD) : RS := RS.of env r fun e s => augD i env (op s d e) s
def augS (i : Nat) (op : S → PD → PD → Option PD) (f : Env → M PD) (o : Option (Option Sl)) (env : Env) (st : S) : RS := match o with
  | some (some (.v d)) => augC i op d env (f env st)
  | _ => .bad
theorem sAug_ap (i : Nat) (op : S → PD → PD → Option PD) (f : Env → M PD) : sAug i op f env st = augS i op f env[i]? env st := rfl
theorem sAug_at {i : Nat} {op : S → PD → PD → Option PD} {f : Env → M PD} {d : PD} (h : env[i]? = some (some (.v d))) : sAug i op f env st = augC i op d env (f env st) := by
  rw [sAug_ap, h]; rfl
@[simp] theorem sAug_0 (op : S → PD → PD → Option PD) (f : Env → M PD) (d : PD) (r : Env) : sAug 0 op f (some (.v d) :: r) st = augC 0 op d (some (.v d) :: r) (f (some (.v d) :: r) st) := rfl
@[simp] theorem sAug_1 (op : S → PD → PD → Option PD) (f : Env → M PD) (d : PD) (a : Option Sl) (r : Env) : sAug 1 op f (a :: some (.v d) :: r) st = augC 1 op d (a :: some (.v d) :: r) (f (a :: some (.v d) :: r) st) := rfl
@[simp] theorem sAug_2 (op : S → PD → PD → Option PD) (f : Env → M PD) (d : PD) (a b : Option Sl) (r : Env) : sAug 2 op f (a :: b :: some (.v d) :: r) st = augC 2 op d (a :: b :: some (.v d) :: r) (f (a :: b :: some (.v d) :: r) st) := rfl
@[simp] theorem sAug_3 (op : S → PD → PD → Option PD) (f : Env → M PD) (d : PD) (a b c : Option Sl) (r : Env) : sAug 3 op f (a :: b :: c :: some (.v d) :: r) st = augC 3 op d (a :: b :: c :: some (.v d) :: r) (f (a :: b :: c :: some (.v d) :: r) st) := rfl
@[simp] theorem sAug_4 (op : S → PD → PD → Option PD) (f : Env → M PD) (d : PD) (a b c e : Option Sl) (r : Env) : sAug 4 op f (a :: b :: c :: e :: some (.v d) :: r) st = augC 4 op d (a :: b :: c :: e :: some (.v d) :: r) (f (a :: b :: c :: e :: some (.v d) :: r) st) := rfl
@[simp] theorem augC_ok (i : Nat) (op : S → PD → PD → Option PD) (d e : PD) : augC i op d env (.ok e st) = augD i env (op st d e) st := rfl
@[simp] theorem augD_some (i : Nat) (z : PD) : augD i env (some z) st = .ok (.nx (env.set i (some (.v z)))) st := rfl
def appA (i : Nat) (xs : List PD) (env : Env) (r : R PD) : RS := RS.of env r fun d s => if isD d = true ∧ xs.length ≤ 10000000 then .ok (.nx (env.set i (some (.o (xs ++ [d]))))) s else .bad
theorem sApp_at {i : Nat} {f : Env → M PD} {xs : List PD} (h : env[i]? = some (some (.o xs))) : sApp i f env st = appA i xs env (f env st) := by
  unfold sApp; rw [h]; rfl
theorem appA_ok {i : Nat} {xs : List PD} {d : PD} (h : isD d = true) (h' : xs.length ≤ 10000000) : appA i xs env (.ok d st) = .ok (.nx (env.set i (some (.o (xs ++ [d]))))) st := if_pos ⟨h, h'⟩
def extA (i : Nat) (xs : List PD) (env : Env) (r : R PD) : RS := RS.of env r fun d s => match d with
    | .list ys => if xs.length + ys.length ≤ 10000000 then .ok (.nx (env.set i (some (.o (xs ++ ys))))) s else .bad
    | _ => .bad
theorem sExt_at {i : Nat} {f : Env → M PD} {xs : List PD} (h : env[i]? = some (some (.o xs))) : sExt i f env st = extA i xs env (f env st) := by
  unfold sExt; rw [h]; rfl
theorem extA_ok {i : Nat} {xs ys : List PD} (h' : xs.length + ys.length ≤ 10000000) : extA i xs env (.ok (.list ys) st) = .ok (.nx (env.set i (some (.o (xs ++ ys))))) st := if_pos h'
theorem sFrz_at {i : Nat} {g : MS} {xs : List PD} (h : env[i]? = some (some (.o xs))) : sFrz i g env st = g (env.set i (some (.v (.list xs)))) st := by
  unfold sFrz; rw [h]
end
/-! comprehensions -/
theorem compGo_lst {β : Type} {env : Env} {tg : PD → Env → Option Env} {tf : Env → M Bool} {ef : Env → M PD} {st : S} {h g : β → PD} {p : β → Bool} : ∀ l : List β,
    (∀ x ∈ l, ∃ env2, tg (h x) env = some env2 ∧ tf env2 st = .ok (p x) st ∧ (p x = true → ef env2 st = .ok (g x) st ∧ isD (g x) = true)) → compGo env tg tf ef (l.map h) st = .ok ((l.filter p).map g) st
  | [], _ => rfl
  | x :: l, hy => by
    obtain ⟨env2, e1, e2, e3⟩ := hy x (List.mem_cons_self ..)
    have ih := compGo_lst (env := env) (tg := tg) (tf := tf) (ef := ef) (st := st) (h := h) (g := g) (p := p) l (fun y m => hy y (List.mem_cons_of_mem _ m))
    rw [List.map_cons]
    unfold compGo
    rw [e1]
    show ((tf env2 st).noex.bind _) = _
    rw [e2]
    cases q : p x with
    | false =>
      rw [List.filter_cons_of_neg (by simp [q])]
      exact ih
    | true =>
      rw [List.filter_cons_of_pos (by simp [q])]
      obtain ⟨e4, e5⟩ := e3 q
      show ((ef env2 st).noex.bind _) = _
      rw [e4]
      show (if isD (g x) = true then _ else _) = _
      rw [if_pos e5, ih]
      rfl
theorem compGo_all {β : Type} {env : Env} {tg : PD → Env → Option Env} {ef : Env → M PD} {st : S} {h g : β → PD} (l : List β)
    (hy : ∀ x ∈ l, ∃ env2, tg (h x) env = some env2 ∧ ef env2 st = .ok (g x) st ∧ isD (g x) = true) : compGo env tg tYesF ef (l.map h) st = .ok (l.map g) st := by
  have := compGo_lst (env := env) (tg := tg) (tf := tYesF) (ef := ef) (st := st) (h := h) (g := g) (p := fun _ => true) l (fun x m => by
    obtain ⟨env2, e1, e2, e3⟩ := hy x m
    exact ⟨env2, e1, rfl, fun _ => ⟨e2, e3⟩⟩)
  rw [this, List.filter_eq_self.mpr (fun _ _ => rfl)]
/-! for: an invariant by places -/
theorem forGo_ind {tg : PD → Env → Option Env} {b : MS} (I : Nat → Env → S → Prop) : ∀ (l : List PD) (k : Nat) (env : Env) (st : S),
    (∀ i d env st, l[i]? = some d → I (k + i) env st → ∃ env1 env2 st2, tg d env = some env1 ∧ b env1 st = .ok (.nx env2) st2 ∧ I (k + i + 1) env2 st2) → I k env st → ∃ env' st', forGo tg b l env st = .ok (.nx env') st' ∧ I (k + l.length) env' st'
  | [], k, env, st, _, h => ⟨env, st, rfl, h⟩
  | d :: l, k, env, st, hs, h => by
    obtain ⟨env1, env2, st2, e1, e2, e3⟩ := hs 0 d env st rfl h
    obtain ⟨env', st', e4, e5⟩ := forGo_ind I l (k + 1) env2 st2 (fun i d' en s q r => by
      have := hs (i + 1) d' en s (by simpa using q) (by rw [show k + (i + 1) = k + 1 + i from by omega]; exact r)
      rw [show k + (i + 1) + 1 = k + 1 + i + 1 from by omega] at this
      exact this) e3
    refine ⟨env', st', ?_, by rw [List.length_cons, show k + (l.length + 1) = k + 1 + l.length from by omega]; exact e5⟩
    unfold forGo
    rw [e1]
    dsimp only
    rw [e2]
    exact e4
theorem forGo_cons {tg : PD → Env → Option Env} {b : MS} {d : PD} {l : List PD} {env env1 env2 : Env} {st st2 : S} (e1 : tg d env = some env1) (e2 : b env1 st = .ok (.nx env2) st2) : forGo tg b (d :: l) env st = forGo tg b l env2 st2 := by
  conv => lhs; unfold forGo
  rw [e1]
  dsimp only
  rw [e2]
theorem rng1D_nat (n : Nat) (h : n < 2 ^ 62) : rng1D [.int (n : Int)] = some (rangeL 0 1 n) := by
  show (if rngOk (n : Int) = true then some (rangeL 0 1 (n : Int).toNat) else none) = _
  rw [if_pos (by unfold rngOk; simp; omega), Int.toNat_natCast]
theorem rng2D_ok (i j : Int) (h : rngOk i = true) (h' : rngOk j = true) : rng2D [.int i, .int j] = some (rangeL i 1 (j - i).toNat) := if_pos (by rw [h, h']; rfl)
theorem iRng_of {g : List PD → Option (List PD)} {f : Env → M (List PD)} {env : Env} {st st' : S} {ds es : List PD} (h : f env st = .ok ds st') (hg : g ds = some es) : iRng g f env st = .ok es st' := by
  unfold iRng
  rw [h]
  show R.ofO (g ds) st' = _
  rw [hg]
  rfl
theorem sFor_of {itf : Env → M (List PD)} {tg : PD → Env → Option Env} {b : MS} {env : Env} {st st' : S} {ds : List PD} (h : itf env st = .ok ds st') : sFor itf tg b env st = forGo tg b ds env st' := by
  unfold sFor
  rw [h]
theorem nComp_of {itf : Env → M (List PD)} {tg : PD → Env → Option Env} {tf : Env → M Bool} {ef : Env → M PD} {vs : List Nat} {env : Env} {st st' : S} {ds : List PD} {r : R (List PD)} (h : itf env st = .ok ds st') (hl : ds.length ≤ 10000000) (h2 : compGo (wipeE env vs) tg tf ef ds st' = r) : nComp itf tg tf ef vs env st = r := by
  rw [nComp_ap, h, nCa_ok hl, h2]
theorem sNew_of {i : Nat} {f : Env → M (List PD)} {env : Env} {st st' : S} {xs : List PD} (h : f env st = .ok xs st') : sNew i f env st = .ok (.nx (env.set i (some (.o xs)))) st' := by
  rw [sNew_ap, h, newA_ok]
theorem eL_of {f : Env → M (List PD)} {env : Env} {st st' : S} {xs : List PD} (h : f env st = .ok xs st') : eL f env st = .ok (.list xs) st' := by
  rw [eL_ap, h, eLa_ok]
theorem rng3D_down (n k : Nat) (h : k ≤ n) (hn : n ≤ 10000) : rng3D [.int n, .int k, .int (-1)] = some (rangeL n (-1) (n - k)) := by
  have e : Builtin.Range.rangeSize (n : Int) (k : Int) (-1) = ((n - k : Nat) : Int) := by
    unfold Builtin.Range.rangeSize
    rw [if_neg (by decide)]
    by_cases z : (n : Int) > (k : Int)
    · rw [if_pos z]
      have : (-(-1) : Int) = 1 := by decide
      rw [this, Int.ediv_one]
      omega
    · rw [if_neg z]; omega
  show (if (-1 : Int) ≠ 0 ∧ (-1 : Int).natAbs < 1073741824 ∧ Builtin.Range.small (n : Int) (k : Int) (-1) = true ∧ 0 ≤ Builtin.Range.rangeSize (n : Int) (k : Int) (-1) then some (rangeL (n : Int) (-1) (Builtin.Range.rangeSize (n : Int) (k : Int) (-1)).toNat) else none) = _
  rw [if_pos ?_, e, Int.toNat_natCast]
  refine ⟨by decide, by decide, ?_, by rw [e]; omega⟩
  unfold Builtin.Range.small
  rw [e]
  simp [Builtin.Range.rangeFitsLong]
  omega
theorem rangeL_map {lo c : Int} {n : Nat} {h : Nat → PD} (e : ∀ i, i < n → PyData.int (lo + (i : Int) * c) = h i) : rangeL lo c n = (List.range n).map h := by
  unfold rangeL
  exact List.map_congr_left fun i m => e i (List.mem_range.mp m)
theorem rngOk_small {i : Int} (h : -1000000 ≤ i) (h' : i ≤ 1000000) : rngOk i = true := by
  unfold rngOk
  have e : (2 : Int) ^ 62 = 4611686018427387904 := by decide
  rw [e]
  simp; omega
end DL
namespace LW
open PySem PySem.Spec PyProof.Rows L2 DL
def topS (i : Nat) : Stmt := PySem.Challenge.pw_rootsooth_k05_whole_planted_words_of_fra.main.body.getD i (.Pass ⟨0, 0, 0, 0⟩)
def known : List Str := ["TooLarge", "NotPossible"]
abbrev s_common_divisor : Stmt := topS 5
noncomputable def g_common_divisor : MS :=
  (sSeq (sPar2 0 1 (aCons (eB opAbs (aCons (eV 0) aNil)) (aCons (eB opAbs (aCons (eV 1) aNil)) aNil)))
  (sSeq (sWhile (tV (e2 opNe (eV 1) (eC (.int 0)))) (sPar2 0 1 (aCons (eV 1) (aCons (e2 opMod (eV 0) (eV 1)) aNil))))
  (sRet (eV 0))))
noncomputable def m_common_divisor : List PD → M PD := runFn 2 2 g_common_divisor
abbrev s_combined : Stmt := topS 6
noncomputable def g_combined : MS :=
  (sSeq (sAsg (eTup (aCons (eTup (aCons (eC (.int 1)) (aCons (eC (.int 0)) aNil))) (aCons (eTup (aCons (eC (.int 0)) (aCons (eC (.int 1)) aNil))) aNil))) (tgT 2 (tgsCons (tgN 2) (tgsCons (tgN 3) tgsNil))))
  (sSeq (sWhile (tV (e2 opNe (eV 1) (eC (.int 0)))) (sSeq (sSet 4 (e2 opDiv (eV 0) (eV 1)))
  (sSeq (sPar2 0 1 (aCons (eV 1) (aCons (e2 opSub (eV 0) (e2 opMul (eV 4) (eV 1))) aNil)))
  (sPar2 2 3 (aCons (eV 3) (aCons (eTup (aCons (e2 opSub (e2 opIx (eV 2) (eC (.int 0))) (e2 opMul (eV 4) (e2 opIx (eV 3) (eC (.int 0))))) (aCons (e2 opSub (e2 opIx (eV 2) (eC (.int 1))) (e2 opMul (eV 4) (e2 opIx (eV 3) (eC (.int 1))))) aNil))) aNil))))))
  (sSeq (sIf (tV (e2 opLt (eV 0) (eC (.int 0)))) (sRet (eTup (aCons (e1 opNeg (eV 0)) (aCons (e1 opNeg (e2 opIx (eV 2) (eC (.int 0)))) (aCons (e1 opNeg (e2 opIx (eV 2) (eC (.int 1)))) aNil))))) sSkip)
  (sRet (eTup (aCons (eV 0) (aCons (e2 opIx (eV 2) (eC (.int 0))) (aCons (e2 opIx (eV 2) (eC (.int 1))) aNil))))))))
noncomputable def m_combined : List PD → M PD := runFn 2 5 g_combined
abbrev s_is_fraction_pair : Stmt := topS 9
noncomputable def g_is_fraction_pair : MS :=
  (sRet (eAnd (e2 opEq (callF 2 m_common_divisor (aCons (e2 opIx (eV 0) (eC (.int 0))) (aCons (e2 opIx (eV 0) (eC (.int 1))) aNil))) (eC (.int 1))) (eOr (e2 opGt (e2 opIx (eV 0) (eC (.int 1))) (eC (.int 0))) (e2 opEq (eV 0) (eTup (aCons (eC (.int 1)) (aCons (eC (.int 0)) aNil)))))))
noncomputable def m_is_fraction_pair : List PD → M PD := runFn 1 1 g_is_fraction_pair
abbrev s_farey_list : Stmt := topS 10
noncomputable def g_farey_list : MS :=
  (sSeq (sIf (tV (e2 opGt (eV 0) (eC (.int 400)))) (sRaise "TooLarge") sSkip)
  (sSeq (sNew 1 (nLst (aCons (eTup (aCons (eC (.int 0)) (aCons (eC (.int 1)) aNil))) aNil)))
  (sSeq (sAsg (eTup (aCons (eC (.int 0)) (aCons (eC (.int 1)) (aCons (eC (.int 1)) (aCons (eV 0) aNil))))) (tgT 4 (tgsCons (tgN 2) (tgsCons (tgN 3) (tgsCons (tgN 4) (tgsCons (tgN 5) tgsNil))))))
  (sSeq (sWhile (tV (e2 opLe (eV 4) (eV 5))) (sSeq (sApp 1 (eTup (aCons (eV 4) (aCons (eV 5) aNil))))
  (sSeq (sSet 6 (e2 opDiv (e2 opAdd (eV 0) (eV 3)) (eV 5)))
  (sSeq (sAsg (eTup (aCons (eV 4) (aCons (eV 5) (aCons (e2 opSub (e2 opMul (eV 6) (eV 4)) (eV 2)) (aCons (e2 opSub (e2 opMul (eV 6) (eV 5)) (eV 3)) aNil))))) (tgT 4 (tgsCons (tgN 2) (tgsCons (tgN 3) (tgsCons (tgN 4) (tgsCons (tgN 5) tgsNil))))))
  (sIf (tV (e2 opEq (e2 opIx (ePk 1) (e1 opNeg (eC (.int 1)))) (eTup (aCons (eC (.int 1)) (aCons (eC (.int 1)) aNil))))) sBrk sSkip)))))
  (sFrz 1 (sRet (eV 1)))))))
noncomputable def m_farey_list : List PD → M PD := runFn 1 7 g_farey_list
abbrev s_is_next_to : Stmt := topS 11
noncomputable def g_is_next_to : MS :=
  (sRet (e2 opEq (eB opAbs (aCons (e2 opSub (e2 opMul (e2 opIx (eV 0) (eC (.int 0))) (e2 opIx (eV 1) (eC (.int 1)))) (e2 opMul (e2 opIx (eV 0) (eC (.int 1))) (e2 opIx (eV 1) (eC (.int 0))))) aNil)) (eC (.int 1))))
noncomputable def m_is_next_to : List PD → M PD := runFn 2 2 g_is_next_to
abbrev s_mediant : Stmt := topS 12
noncomputable def g_mediant : MS :=
  (sRet (eTup (aCons (e2 opAdd (e2 opIx (eV 0) (eC (.int 0))) (e2 opIx (eV 1) (eC (.int 0)))) (aCons (e2 opAdd (e2 opIx (eV 0) (eC (.int 1))) (e2 opIx (eV 1) (eC (.int 1)))) aNil))))
noncomputable def m_mediant : List PD → M PD := runFn 2 2 g_mediant
abbrev s_parents_of : Stmt := topS 13
noncomputable def g_parents_of : MS :=
  (sSeq (sAsg (eV 0) (tgT 2 (tgsCons (tgN 1) (tgsCons (tgN 2) tgsNil))))
  (sSeq (sIf (tOrF (tV (e2 opLt (eV 1) (eC (.int 1)))) (tV (e2 opLt (eV 2) (eC (.int 1))))) (sRaise "NotPossible") sSkip)
  (sSeq (sAsg (callF 2 m_combined (aCons (eV 1) (aCons (eV 2) aNil))) (tgT 3 (tgsCons (tgN 3) (tgsCons (tgN 4) (tgsCons (tgN 5) tgsNil)))))
  (sSeq (sIf (tV (e2 opNe (eV 3) (eC (.int 1)))) (sRaise "NotPossible") sSkip)
  (sSeq (sSet 6 (eIf (tV (e2 opGt (eV 2) (eC (.int 1)))) (e2 opMod (eV 4) (eV 2)) (eC (.int 1))))
  (sSeq (sSet 7 (e2 opDiv (e2 opSub (e2 opMul (eV 1) (eV 6)) (eC (.int 1))) (eV 2)))
  (sRet (eTup (aCons (eTup (aCons (eV 7) (aCons (eV 6) aNil))) (aCons (eTup (aCons (e2 opSub (eV 1) (eV 7)) (aCons (e2 opSub (eV 2) (eV 6)) aNil))) aNil))))))))))
noncomputable def m_parents_of : List PD → M PD := runFn 1 8 g_parents_of
abbrev s_word_of_fraction : Stmt := topS 14
noncomputable def g_word_of_fraction : MS :=
  (sSeq (sAsg (eV 0) (tgT 2 (tgsCons (tgN 1) (tgsCons (tgN 2) tgsNil))))
  (sSeq (sIf (tOrF (tV (e2 opLt (eV 1) (eC (.int 1)))) (tOrF (tV (e2 opLt (eV 2) (eC (.int 1)))) (tV (e2 opNe (callF 2 m_common_divisor (aCons (eV 1) (aCons (eV 2) aNil))) (eC (.int 1)))))) (sRaise "NotPossible") sSkip)
  (sSeq (sSet 3 (eC (.str "")))
  (sSeq (sWhile (tV (e2 opNe (eV 1) (eV 2))) (sIf (tV (e2 opGt (eV 1) (eV 2))) (sSeq (sAug 3 opAddA (eC (.str "R")))
  (sAug 1 opSub (eV 2))) (sSeq (sAug 3 opAddA (eC (.str "L")))
  (sAug 2 opSub (eV 1)))))
  (sRet (eV 3))))))
noncomputable def m_word_of_fraction : List PD → M PD := runFn 1 4 g_word_of_fraction
abbrev s_fraction_of_word : Stmt := topS 15
noncomputable def g_fraction_of_word : MS :=
  (sSeq (sAsg (eTup (aCons (eTup (aCons (eC (.int 0)) (aCons (eC (.int 1)) aNil))) (aCons (eTup (aCons (eC (.int 1)) (aCons (eC (.int 0)) aNil))) aNil))) (tgT 2 (tgsCons (tgN 1) (tgsCons (tgN 2) tgsNil))))
  (sSeq (sFor (iAny (eV 0)) (tgN 3) (sSeq (sSet 4 (callF 2 m_mediant (aCons (eV 1) (aCons (eV 2) aNil))))
  (sIf (tV (e2 opEq (eV 3) (eC (.str "R")))) (sSet 1 (eV 4)) (sSet 2 (eV 4)))))
  (sRet (callF 2 m_mediant (aCons (eV 1) (aCons (eV 2) aNil))))))
noncomputable def m_fraction_of_word : List PD → M PD := runFn 1 5 g_fraction_of_word
abbrev s_between_word : Stmt := topS 16
noncomputable def g_between_word : MS :=
  (sSeq (sAsg (eTup (aCons (eTup (aCons (eC (.int 0)) (aCons (eC (.int 1)) aNil))) (aCons (eTup (aCons (eC (.int 1)) (aCons (eC (.int 0)) aNil))) aNil))) (tgT 2 (tgsCons (tgN 1) (tgsCons (tgN 2) tgsNil))))
  (sSeq (sFor (iAny (eV 0)) (tgN 3) (sSeq (sSet 4 (callF 2 m_mediant (aCons (eV 1) (aCons (eV 2) aNil))))
  (sIf (tV (e2 opEq (eV 3) (eC (.str "R")))) (sSet 1 (eV 4)) (sSet 2 (eV 4)))))
  (sRet (eTup (aCons (eV 1) (aCons (eV 2) aNil))))))
noncomputable def m_between_word : List PD → M PD := runFn 1 5 g_between_word
abbrev s_way_between : Stmt := topS 17
noncomputable def g_way_between : MS :=
  (sSeq (sAsg (eTup (aCons (callF 1 m_word_of_fraction (aCons (eV 0) aNil)) (aCons (callF 1 m_word_of_fraction (aCons (eV 1) aNil)) aNil))) (tgT 2 (tgsCons (tgN 2) (tgsCons (tgN 3) tgsNil))))
  (sSeq (sSet 4 (eC (.int 0)))
  (sSeq (sWhile (tAndF (tV (e2 opLt (eV 4) (eB opMin2 (aCons (eB opLen (aCons (eV 2) aNil)) (aCons (eB opLen (aCons (eV 3) aNil)) aNil))))) (tV (e2 opEq (e2 opIx (eV 2) (eV 4)) (e2 opIx (eV 3) (eV 4))))) (sAug 4 opAddA (eC (.int 1))))
  (sSeq (sNew 5 (nComp (iRng rng3D (aCons (eB opLen (aCons (eV 2) aNil)) (aCons (eV 4) (aCons (e1 opNeg (eC (.int 1))) aNil)))) (tgN 6) tYesF (callF 1 m_fraction_of_word (aCons (eSl (eV 2) oNo (oSo (eV 6))) aNil)) [6]))
  (sSeq (sExt 5 (eL (nComp (iRng rng2D (aCons (eV 4) (aCons (e2 opAdd (eB opLen (aCons (eV 3) aNil)) (eC (.int 1))) aNil))) (tgN 6) tYesF (callF 1 m_fraction_of_word (aCons (eSl (eV 3) oNo (oSo (eV 6))) aNil)) [6])))
  (sFrz 5 (sRet (eV 5))))))))
noncomputable def m_way_between : List PD → M PD := runFn 2 7 g_way_between
abbrev s_best_below : Stmt := topS 18
noncomputable def g_best_below : MS :=
  (sSeq (sSet 3 (eTup (aCons (eC (.int 0)) (aCons (eC (.int 1)) aNil))))
  (sSeq (sFor (iRng rng2D (aCons (eC (.int 1)) (aCons (e2 opAdd (eV 0) (eC (.int 1))) aNil))) (tgN 4) (sSeq (sSet 5 (e2 opDiv (e2 opMul (eV 1) (eV 4)) (eV 2)))
  (sIf (tV (e2 opGt (e2 opMul (eV 5) (e2 opIx (eV 3) (eC (.int 1)))) (e2 opMul (e2 opIx (eV 3) (eC (.int 0))) (eV 4)))) (sSet 3 (eTup (aCons (eV 5) (aCons (eV 4) aNil)))) sSkip)))
  (sSeq (sSet 6 (callF 2 m_common_divisor (aCons (e2 opIx (eV 3) (eC (.int 0))) (aCons (e2 opIx (eV 3) (eC (.int 1))) aNil))))
  (sRet (eTup (aCons (e2 opDiv (e2 opIx (eV 3) (eC (.int 0))) (eV 6)) (aCons (e2 opDiv (e2 opIx (eV 3) (eC (.int 1))) (eV 6)) aNil)))))))
noncomputable def m_best_below : List PD → M PD := runFn 3 7 g_best_below
abbrev s_circle_touch : Stmt := topS 19
noncomputable def g_circle_touch : MS :=
  (sSeq (sSet 2 (e2 opSub (e2 opMul (e2 opIx (eV 0) (eC (.int 0))) (e2 opIx (eV 1) (eC (.int 1)))) (e2 opMul (e2 opIx (eV 0) (eC (.int 1))) (e2 opIx (eV 1) (eC (.int 0))))))
  (sRet (e2 opSub (e2 opMul (eV 2) (eV 2)) (eC (.int 1)))))
noncomputable def m_circle_touch : List PD → M PD := runFn 2 3 g_circle_touch
abbrev s__law_state : Stmt := topS 21
abbrev s__law_draw : Stmt := topS 22
noncomputable def g__law_draw : MS :=
  (sSeq (sIf (tV (e2 opEq (e2 opIx (eV 0) (eC (.int 3))) (eC (.int 0)))) (sSeq (sIf (tV (e2 opGe (e2 opIx (eV 0) (eC (.int 1))) (eB opLen (aCons (e2 opIx (eV 0) (eC (.int 0))) aNil)))) (sRet (eC (.int 0))) sSkip)
  (sSeq (sSet 2 (e2 opIx (e2 opIx (eV 0) (eC (.int 0))) (e2 opIx (eV 0) (eC (.int 1)))))
  (sSeq (sIf (tV (e2 opLt (eV 2) (eC (.int 0)))) (sSet 2 (e2 opSub (e1 opNeg (eC (.int 1))) (eV 2))) sSkip)
  (sSeq (sSt 0 1 (e2 opAdd (e2 opIx (eV 0) (eC (.int 1))) (eC (.int 1))))
  (sSeq (sSt 0 2 (eV 2))
  (sSeq (sSt 0 4 (e2 opGe (eV 2) (e2 opPow (eC (.int 10)) (eC (.int 18)))))
  (sSeq (sSt 0 3 (eC (.int 6)))
  (sIf (tV (e2 opIx (eV 0) (eC (.int 4)))) (sSt 0 3 (eC (.int 60))) sSkip)))))))) sSkip)
  (sSeq (sSt 0 3 (e2 opSub (e2 opIx (eV 0) (eC (.int 3))) (eC (.int 1))))
  (sSeq (sIf (tV (e2 opIx (eV 0) (eC (.int 4)))) (sSeq (sSet 3 (e2 opMod (eB opInt (aCons (e2 opIx (eV 0) (eC (.int 2))) aNil)) (eV 1)))
  (sSeq (sSt 0 2 (e2 opDiv (e2 opIx (eV 0) (eC (.int 2))) (eV 1)))
  (sSeq (sIf (tV (e2 opEq (e2 opIx (eV 0) (eC (.int 2))) (eC (.int 0)))) (sSt 0 3 (eC (.int 0))) sSkip)
  (sRet (eV 3))))) sSkip)
  (sSeq (sSet 4 (e2 opMod (eB opInt (aCons (e2 opAdd (e2 opAdd (e2 opMul (e2 opIx (eV 0) (eC (.int 2))) (eC (.int 48271))) (e2 opMul (e2 opIx (eV 0) (eC (.int 3))) (eC (.int 69621)))) (eC (.int 7))) aNil)) (eC (.int 2147483647))))
  (sSeq (sSet 4 (e2 opMod (eB opInt (aCons (e2 opAdd (e2 opAdd (e2 opMul (eV 4) (eV 4)) (e2 opMul (e2 opIx (eV 0) (eC (.int 2))) (eC (.int 31)))) (e2 opIx (eV 0) (eC (.int 3)))) aNil)) (eC (.int 1000003))))
  (sRet (e2 opMod (eB opInt (aCons (eV 4) aNil)) (eV 1))))))))
noncomputable def m__law_draw : List PD → M PD := runFn 2 5 g__law_draw
abbrev s__law_truth : Stmt := topS 23
noncomputable def g__law_truth : MS :=
  (sSeq (sIf (tV (eV 1)) (sRet (e2 (opIs false) (eV 0) (eC (.bool true)))) sSkip)
  (sRet (e2 (opIs false) (eV 0) (eC (.bool false)))))
noncomputable def m__law_truth : List PD → M PD := runFn 2 2 g__law_truth
abbrev s__law_common : Stmt := topS 24
noncomputable def g__law_common : MS :=
  (sSeq (sSet 0 (eB opAbs (aCons (eV 0) aNil)))
  (sSeq (sSet 1 (eB opAbs (aCons (eV 1) aNil)))
  (sSeq (sWhile (tV (e2 opNe (eV 1) (eC (.int 0)))) (sPar2 0 1 (aCons (eV 1) (aCons (e2 opMod (eB opInt (aCons (eV 0) aNil)) (eV 1)) aNil))))
  (sRet (eV 0)))))
noncomputable def m__law_common : List PD → M PD := runFn 2 2 g__law_common
abbrev s__law_word : Stmt := topS 25
noncomputable def g__law_word : MS :=
  (sSeq (sSet 2 (eC (.str "")))
  (sSeq (sFor (iRng rng1D (aCons (callF 2 m__law_draw (aCons (eV 0) (aCons (e2 opAdd (eV 1) (eC (.int 1))) aNil))) aNil)) (tgN 3) (sSet 2 (e2 opAdd (eV 2) (e2 opMul (e2 opIx (eC (.str "RL")) (callF 2 m__law_draw (aCons (eV 0) (aCons (eC (.int 2)) aNil)))) (e2 opIx (eL (nLst (aCons (eC (.int 1)) (aCons (eC (.int 1)) (aCons (e2 opAdd (eC (.int 1)) (callF 2 m__law_draw (aCons (eV 0) (aCons (eC (.int 5)) aNil)))) aNil))))) (callF 2 m__law_draw (aCons (eV 0) (aCons (eC (.int 3)) aNil))))))))
  (sRet (eV 2))))
noncomputable def m__law_word : List PD → M PD := runFn 2 4 g__law_word
abbrev s__law_around : Stmt := topS 26
noncomputable def g__law_around : MS :=
  (sSeq (sSet 1 (eTup (aCons (eC (.int 0)) (aCons (eC (.int 1)) aNil))))
  (sSeq (sSet 2 (eTup (aCons (eC (.int 1)) (aCons (eC (.int 0)) aNil))))
  (sSeq (sFor (iAny (eV 0)) (tgN 3) (sSeq (sSet 4 (eTup (aCons (e2 opAdd (e2 opIx (eV 1) (eC (.int 0))) (e2 opIx (eV 2) (eC (.int 0)))) (aCons (e2 opAdd (e2 opIx (eV 1) (eC (.int 1))) (e2 opIx (eV 2) (eC (.int 1)))) aNil))))
  (sIf (tV (e2 opEq (eV 3) (eC (.str "R")))) (sSet 1 (eV 4)) (sSet 2 (eV 4)))))
  (sRet (eL (nLst (aCons (eV 1) (aCons (eV 2) aNil))))))))
noncomputable def m__law_around : List PD → M PD := runFn 1 5 g__law_around
abbrev s__law_fraction : Stmt := topS 27
noncomputable def g__law_fraction : MS :=
  (sSeq (sAsg (callF 1 m__law_around (aCons (eV 0) aNil)) (tgT 2 (tgsCons (tgN 1) (tgsCons (tgN 2) tgsNil))))
  (sRet (eTup (aCons (e2 opAdd (e2 opIx (eV 1) (eC (.int 0))) (e2 opIx (eV 2) (eC (.int 0)))) (aCons (e2 opAdd (e2 opIx (eV 1) (eC (.int 1))) (e2 opIx (eV 2) (eC (.int 1)))) aNil)))))
noncomputable def m__law_fraction : List PD → M PD := runFn 1 3 g__law_fraction
abbrev s__law_refused : Stmt := topS 28
noncomputable def g__law_refused : MS :=
  (sTry known (sSeq (sIf (tV (e2 opEq (eV 0) (eC (.int 0)))) (sExpr (callF 1 m_word_of_fraction (aCons (eV 1) aNil))) (sExpr (callF 1 m_parents_of (aCons (eV 1) aNil))))
  (sRet (eC (.bool false)))) (("NotPossible", (sRet (eC (.bool true)))) :: []))
noncomputable def m__law_refused : List PD → M PD := runFn 2 2 g__law_refused
abbrev s__law_wide : Stmt := topS 29
noncomputable def g__law_wide : MS :=
  (sTry known (sSeq (sExpr (callF 1 m_farey_list (aCons (eV 0) aNil)))
  (sRet (eC (.bool false)))) (("TooLarge", (sRet (eC (.bool true)))) :: []))
noncomputable def m__law_wide : List PD → M PD := runFn 1 1 g__law_wide
abbrev s__law_list_holds : Stmt := topS 30
noncomputable def g__law_list_holds : MS :=
  (sSeq (sSet 1 (callF 1 m_farey_list (aCons (eV 0) aNil)))
  (sSeq (sSet 2 (eL (nLst aNil)))
  (sSeq (sFor (iRng rng2D (aCons (eC (.int 1)) (aCons (e2 opAdd (eV 0) (eC (.int 1))) aNil))) (tgN 3) (sSet 2 (e2 opAdd (eV 2) (eL (nComp (iRng rng1D (aCons (e2 opAdd (eV 3) (eC (.int 1))) aNil)) (tgN 4) (tV (e2 opEq (callF 2 m__law_common (aCons (eV 4) (aCons (eV 3) aNil))) (eC (.int 1)))) (eTup (aCons (eV 4) (aCons (eV 3) aNil))) [4])))))
  (sSeq (sIf (tOrF (tV (e2 opNe (eB opLen (aCons (eV 1) aNil)) (eB opLen (aCons (eV 2) aNil)))) (tV (e2 opGt (eB opLen (aCons (eL (nComp (iAny (eV 2)) (tgN 5) (tV (e2 (opIn true) (eV 5) (eV 1))) (eV 5) [5])) aNil)) (eC (.int 0))))) (sRet (eC (.bool false))) sSkip)
  (sRet (e2 opEq (eB opLen (aCons (eL (nComp (iRng rng2D (aCons (eC (.int 1)) (aCons (eB opLen (aCons (eV 1) aNil)) aNil))) (tgN 6) (tV (e2 opGe (e2 opMul (e2 opIx (e2 opIx (eV 1) (e2 opSub (eV 6) (eC (.int 1)))) (eC (.int 0))) (e2 opIx (e2 opIx (eV 1) (eV 6)) (eC (.int 1)))) (e2 opMul (e2 opIx (e2 opIx (eV 1) (eV 6)) (eC (.int 0))) (e2 opIx (e2 opIx (eV 1) (e2 opSub (eV 6) (eC (.int 1)))) (eC (.int 1)))))) (eV 6) [6])) aNil)) (eC (.int 0))))))))
noncomputable def m__law_list_holds : List PD → M PD := runFn 1 7 g__law_list_holds
abbrev s__law_best_holds : Stmt := topS 31
noncomputable def g__law_best_holds : MS :=
  (sSeq (sSet 3 (callF 3 m_best_below (aCons (eV 0) (aCons (eV 1) (aCons (eV 2) aNil)))))
  (sSeq (sIf (tOrF (tV (e2 opLt (e2 opIx (eV 3) (eC (.int 1))) (eC (.int 1)))) (tOrF (tV (e2 opGt (e2 opIx (eV 3) (eC (.int 1))) (eV 0))) (tOrF (tV (e2 opNe (callF 2 m__law_common (aCons (e2 opIx (eV 3) (eC (.int 0))) (aCons (e2 opIx (eV 3) (eC (.int 1))) aNil))) (eC (.int 1)))) (tV (e2 opGt (e2 opMul (e2 opIx (eV 3) (eC (.int 0))) (eV 2)) (e2 opMul (eV 1) (e2 opIx (eV 3) (eC (.int 1))))))))) (sRet (eC (.bool false))) sSkip)
  (sSeq (sFor (iRng rng2D (aCons (eC (.int 1)) (aCons (e2 opAdd (eV 0) (eC (.int 1))) aNil))) (tgN 4) (sIf (tV (e2 opGt (e2 opMul (e2 opDiv (e2 opMul (eV 1) (eV 4)) (eV 2)) (e2 opIx (eV 3) (eC (.int 1)))) (e2 opMul (e2 opIx (eV 3) (eC (.int 0))) (eV 4)))) (sRet (eC (.bool false))) sSkip))
  (sRet (eC (.bool true))))))
noncomputable def m__law_best_holds : List PD → M PD := runFn 3 5 g__law_best_holds
abbrev s_law : Stmt := topS 32
noncomputable def g_law : MS :=
  (sSeq (sSet 2 (callF 2 m__law_word (aCons (eV 1) (aCons (eC (.int 16)) aNil))))
  (sSeq (sSet 3 (e2 opAdd (eSl (eV 2) oNo (oSo (callF 2 m__law_draw (aCons (eV 1) (aCons (e2 opAdd (eB opLen (aCons (eV 2) aNil)) (eC (.int 1))) aNil))))) (callF 2 m__law_word (aCons (eV 1) (aCons (eC (.int 9)) aNil)))))
  (sSeq (sSet 4 (callF 1 m__law_fraction (aCons (eV 2) aNil)))
  (sSeq (sSet 5 (callF 1 m__law_fraction (aCons (eV 3) aNil)))
  (sSeq (sFor (iAny (eL (nLst (aCons (eV 2) (aCons (eV 3) aNil))))) (tgN 6) (sSeq (sAsg (callF 1 m__law_around (aCons (eV 6) aNil)) (tgT 2 (tgsCons (tgN 7) (tgsCons (tgN 8) tgsNil))))
  (sSeq (sSet 9 (callF 1 m__law_fraction (aCons (eV 6) aNil)))
  (sSeq (sIf (tOrF (tV (e2 opNe (callF 1 m_fraction_of_word (aCons (eV 6) aNil)) (eV 9))) (tOrF (tV (e2 opNe (callF 1 m_word_of_fraction (aCons (eV 9) aNil)) (eV 6))) (tOrF (tV (e2 opNe (callF 1 m_between_word (aCons (eV 6) aNil)) (eTup (aCons (eV 7) (aCons (eV 8) aNil))))) (tV (e2 opNe (callF 1 m_parents_of (aCons (eV 9) aNil)) (eTup (aCons (eV 7) (aCons (eV 8) aNil)))))))) (sRet (eC (.bool false))) sSkip)
  (sSeq (sIf (tOrF (tV (e2 opNe (callF 2 m_mediant (aCons (eV 7) (aCons (eV 8) aNil))) (eV 9))) (tOrF (tV (e2 (opIs true) (callF 2 m_is_next_to (aCons (eV 7) (aCons (eV 8) aNil))) (eC (.bool true)))) (tOrF (tV (e2 (opIs true) (callF 2 m_is_next_to (aCons (eV 7) (aCons (eV 9) aNil))) (eC (.bool true)))) (tV (e2 (opIs true) (callF 2 m_is_next_to (aCons (eV 9) (aCons (eV 8) aNil))) (eC (.bool true))))))) (sRet (eC (.bool false))) sSkip)
  (sSeq (sIf (tOrF (tV (e2 (opIs true) (callF 1 m_is_fraction_pair (aCons (eV 9) aNil)) (eC (.bool true)))) (tOrF (tV (e2 opNe (callF 2 m_circle_touch (aCons (eV 7) (aCons (eV 9) aNil))) (eC (.int 0)))) (tV (e2 (opIs true) (callF 1 m_is_fraction_pair (aCons (eTup (aCons (e2 opMul (eC (.int 2)) (e2 opIx (eV 9) (eC (.int 0)))) (aCons (e2 opMul (eC (.int 2)) (e2 opIx (eV 9) (eC (.int 1)))) aNil))) aNil)) (eC (.bool false)))))) (sRet (eC (.bool false))) sSkip)
  (sIf (tOrF (tNotF (tV (callF 2 m__law_refused (aCons (eC (.int 0)) (aCons (eTup (aCons (e2 opMul (eC (.int 3)) (e2 opIx (eV 9) (eC (.int 0)))) (aCons (e2 opMul (eC (.int 3)) (e2 opIx (eV 9) (eC (.int 1)))) aNil))) aNil))))) (tOrF (tNotF (tV (callF 2 m__law_refused (aCons (eC (.int 1)) (aCons (eTup (aCons (e2 opMul (eC (.int 2)) (e2 opIx (eV 9) (eC (.int 0)))) (aCons (e2 opMul (eC (.int 2)) (e2 opIx (eV 9) (eC (.int 1)))) aNil))) aNil))))) (tNotF (tV (callF 2 m__law_refused (aCons (eC (.int 0)) (aCons (eTup (aCons (e2 opSub (eC (.int 0)) (e2 opIx (eV 9) (eC (.int 0)))) (aCons (e2 opIx (eV 9) (eC (.int 1))) aNil))) aNil))))))) (sRet (eC (.bool false))) sSkip)))))))
  (sSeq (sSet 10 (eC (.int 0)))
  (sSeq (sWhile (tAndF (tV (e2 opLt (eV 10) (eB opMin2 (aCons (eB opLen (aCons (eV 2) aNil)) (aCons (eB opLen (aCons (eV 3) aNil)) aNil))))) (tV (e2 opEq (e2 opIx (eV 2) (eV 10)) (e2 opIx (eV 3) (eV 10))))) (sSet 10 (e2 opAdd (eV 10) (eC (.int 1)))))
  (sSeq (sSet 11 (e2 opAdd (eL (nComp (iRng rng1D (aCons (e2 opSub (eB opLen (aCons (eV 2) aNil)) (eV 10)) aNil)) (tgN 12) tYesF (callF 1 m__law_fraction (aCons (eSl (eV 2) oNo (oSo (e2 opSub (eB opLen (aCons (eV 2) aNil)) (eV 12)))) aNil)) [12])) (eL (nComp (iRng rng2D (aCons (eV 10) (aCons (e2 opAdd (eB opLen (aCons (eV 3) aNil)) (eC (.int 1))) aNil))) (tgN 12) tYesF (callF 1 m__law_fraction (aCons (eSl (eV 3) oNo (oSo (eV 12))) aNil)) [12]))))
  (sSeq (sIf (tOrF (tV (e2 opNe (callF 2 m_way_between (aCons (eV 4) (aCons (eV 5) aNil))) (eV 11))) (tV (e2 opNe (callF 2 m_way_between (aCons (eV 4) (aCons (eV 4) aNil))) (eL (nLst (aCons (eV 4) aNil)))))) (sRet (eC (.bool false))) sSkip)
  (sSeq (sSet 13 (e2 opSub (e2 opMul (e2 opIx (eV 4) (eC (.int 0))) (e2 opIx (eV 5) (eC (.int 1)))) (e2 opMul (e2 opIx (eV 4) (eC (.int 1))) (e2 opIx (eV 5) (eC (.int 0))))))
  (sSeq (sIf (tOrF (tV (e2 opNe (callF 2 m_circle_touch (aCons (eV 4) (aCons (eV 5) aNil))) (e2 opSub (e2 opMul (eV 13) (eV 13)) (eC (.int 1))))) (tNotF (tV (callF 2 m__law_truth (aCons (callF 2 m_is_next_to (aCons (eV 4) (aCons (eV 5) aNil))) (aCons (e2 opEq (eB opAbs (aCons (eV 13) aNil)) (eC (.int 1))) aNil)))))) (sRet (eC (.bool false))) sSkip)
  (sSeq (sIf (tOrF (tV (e2 (opIs true) (callF 1 m_is_fraction_pair (aCons (eTup (aCons (eC (.int 1)) (aCons (eC (.int 0)) aNil))) aNil)) (eC (.bool true)))) (tOrF (tV (e2 (opIs true) (callF 1 m_is_fraction_pair (aCons (eTup (aCons (e1 opNeg (eC (.int 1))) (aCons (eC (.int 0)) aNil))) aNil)) (eC (.bool false)))) (tV (e2 (opIs true) (callF 1 m_is_fraction_pair (aCons (eTup (aCons (eC (.int 1)) (aCons (e1 opNeg (eC (.int 2))) aNil))) aNil)) (eC (.bool false)))))) (sRet (eC (.bool false))) sSkip)
  (sSeq (sSet 14 (e2 opAdd (eC (.int 1)) (callF 2 m__law_draw (aCons (eV 1) (aCons (eC (.int 25)) aNil)))))
  (sSeq (sIf (tOrF (tNotF (tV (callF 1 m__law_list_holds (aCons (eV 14) aNil)))) (tNotF (tV (callF 1 m__law_wide (aCons (e2 opAdd (eC (.int 401)) (eV 14)) aNil))))) (sRet (eC (.bool false))) sSkip)
  (sRet (eAnd (callF 3 m__law_best_holds (aCons (e2 opAdd (eV 14) (callF 2 m__law_draw (aCons (eV 1) (aCons (eC (.int 40)) aNil)))) (aCons (e2 opIx (eV 4) (eC (.int 0))) (aCons (e2 opIx (eV 4) (eC (.int 1))) aNil)))) (callF 3 m__law_best_holds (aCons (eB opMin2 (aCons (e2 opIx (eV 4) (eC (.int 1))) (aCons (eC (.int 60)) aNil))) (aCons (e2 opIx (eV 4) (eC (.int 0))) (aCons (e2 opIx (eV 4) (eC (.int 1))) aNil))))))))))))))))))))
end LW
namespace DL
open PySem PySem.Spec PyProof.Rows L2 LW
noncomputable def c_common_divisor_0 : Env → M Bool := (tV (e2 opNe (eV 1) (eC (.int 0))))
noncomputable def b_common_divisor_0 : MS := (sPar2 0 1 (aCons (eV 1) (aCons (e2 opMod (eV 0) (eV 1)) aNil)))
noncomputable def h_common_divisor : MS := (sSeq (sPar2 0 1 (aCons (eB opAbs (aCons (eV 0) aNil)) (aCons (eB opAbs (aCons (eV 1) aNil)) aNil))) (sSeq (sWhile c_common_divisor_0 b_common_divisor_0) (sRet (eV 0))))
theorem m_common_divisor_eq : m_common_divisor = runFn 2 2 h_common_divisor := rfl
noncomputable def c_combined_0 : Env → M Bool := (tV (e2 opNe (eV 1) (eC (.int 0))))
noncomputable def b_combined_0 : MS := (sSeq (sSet 4 (e2 opDiv (eV 0) (eV 1))) (sSeq (sPar2 0 1 (aCons (eV 1) (aCons (e2 opSub (eV 0) (e2 opMul (eV 4) (eV 1))) aNil))) (sPar2 2 3 (aCons (eV 3) (aCons (eTup (aCons (e2 opSub (e2 opIx (eV 2) (eC (.int 0))) (e2 opMul (eV 4) (e2 opIx (eV 3) (eC (.int 0))))) (aCons (e2 opSub (e2 opIx (eV 2) (eC (.int 1))) (e2 opMul (eV 4) (e2 opIx (eV 3) (eC (.int 1))))) aNil))) aNil)))))
noncomputable def h_combined : MS := (sSeq (sAsg (eTup (aCons (eTup (aCons (eC (.int 1)) (aCons (eC (.int 0)) aNil))) (aCons (eTup (aCons (eC (.int 0)) (aCons (eC (.int 1)) aNil))) aNil))) (tgT 2 (tgsCons (tgN 2) (tgsCons (tgN 3) tgsNil)))) (sSeq (sWhile c_combined_0 b_combined_0) (sSeq (sIf (tV (e2 opLt (eV 0) (eC (.int 0)))) (sRet (eTup (aCons (e1 opNeg (eV 0)) (aCons (e1 opNeg (e2 opIx (eV 2) (eC (.int 0)))) (aCons (e1 opNeg (e2 opIx (eV 2) (eC (.int 1)))) aNil))))) sSkip) (sRet (eTup (aCons (eV 0) (aCons (e2 opIx (eV 2) (eC (.int 0))) (aCons (e2 opIx (eV 2) (eC (.int 1))) aNil))))))))
theorem m_combined_eq : m_combined = runFn 2 5 h_combined := rfl
noncomputable def c_farey_list_0 : Env → M Bool := (tV (e2 opLe (eV 4) (eV 5)))
noncomputable def b_farey_list_0 : MS := (sSeq (sApp 1 (eTup (aCons (eV 4) (aCons (eV 5) aNil)))) (sSeq (sSet 6 (e2 opDiv (e2 opAdd (eV 0) (eV 3)) (eV 5))) (sSeq (sAsg (eTup (aCons (eV 4) (aCons (eV 5) (aCons (e2 opSub (e2 opMul (eV 6) (eV 4)) (eV 2)) (aCons (e2 opSub (e2 opMul (eV 6) (eV 5)) (eV 3)) aNil))))) (tgT 4 (tgsCons (tgN 2) (tgsCons (tgN 3) (tgsCons (tgN 4) (tgsCons (tgN 5) tgsNil)))))) (sIf (tV (e2 opEq (e2 opIx (ePk 1) (e1 opNeg (eC (.int 1)))) (eTup (aCons (eC (.int 1)) (aCons (eC (.int 1)) aNil))))) sBrk sSkip))))
noncomputable def h_farey_list : MS := (sSeq (sIf (tV (e2 opGt (eV 0) (eC (.int 400)))) (sRaise "TooLarge") sSkip) (sSeq (sNew 1 (nLst (aCons (eTup (aCons (eC (.int 0)) (aCons (eC (.int 1)) aNil))) aNil))) (sSeq (sAsg (eTup (aCons (eC (.int 0)) (aCons (eC (.int 1)) (aCons (eC (.int 1)) (aCons (eV 0) aNil))))) (tgT 4 (tgsCons (tgN 2) (tgsCons (tgN 3) (tgsCons (tgN 4) (tgsCons (tgN 5) tgsNil)))))) (sSeq (sWhile c_farey_list_0 b_farey_list_0) (sFrz 1 (sRet (eV 1)))))))
theorem m_farey_list_eq : m_farey_list = runFn 1 7 h_farey_list := rfl
noncomputable def c_word_of_fraction_0 : Env → M Bool := (tV (e2 opNe (eV 1) (eV 2)))
noncomputable def b_word_of_fraction_0 : MS := (sIf (tV (e2 opGt (eV 1) (eV 2))) (sSeq (sAug 3 opAddA (eC (.str "R"))) (sAug 1 opSub (eV 2))) (sSeq (sAug 3 opAddA (eC (.str "L"))) (sAug 2 opSub (eV 1))))
noncomputable def h_word_of_fraction : MS := (sSeq (sAsg (eV 0) (tgT 2 (tgsCons (tgN 1) (tgsCons (tgN 2) tgsNil)))) (sSeq (sIf (tOrF (tV (e2 opLt (eV 1) (eC (.int 1)))) (tOrF (tV (e2 opLt (eV 2) (eC (.int 1)))) (tV (e2 opNe (callF 2 m_common_divisor (aCons (eV 1) (aCons (eV 2) aNil))) (eC (.int 1)))))) (sRaise "NotPossible") sSkip) (sSeq (sSet 3 (eC (.str ""))) (sSeq (sWhile c_word_of_fraction_0 b_word_of_fraction_0) (sRet (eV 3))))))
theorem m_word_of_fraction_eq : m_word_of_fraction = runFn 1 4 h_word_of_fraction := rfl
noncomputable def b_fraction_of_word_0 : MS := (sSeq (sSet 4 (callF 2 m_mediant (aCons (eV 1) (aCons (eV 2) aNil)))) (sIf (tV (e2 opEq (eV 3) (eC (.str "R")))) (sSet 1 (eV 4)) (sSet 2 (eV 4))))
noncomputable def h_fraction_of_word : MS := (sSeq (sAsg (eTup (aCons (eTup (aCons (eC (.int 0)) (aCons (eC (.int 1)) aNil))) (aCons (eTup (aCons (eC (.int 1)) (aCons (eC (.int 0)) aNil))) aNil))) (tgT 2 (tgsCons (tgN 1) (tgsCons (tgN 2) tgsNil)))) (sSeq (sFor (iAny (eV 0)) (tgN 3) b_fraction_of_word_0) (sRet (callF 2 m_mediant (aCons (eV 1) (aCons (eV 2) aNil))))))
theorem m_fraction_of_word_eq : m_fraction_of_word = runFn 1 5 h_fraction_of_word := rfl
noncomputable def b_between_word_0 : MS := (sSeq (sSet 4 (callF 2 m_mediant (aCons (eV 1) (aCons (eV 2) aNil)))) (sIf (tV (e2 opEq (eV 3) (eC (.str "R")))) (sSet 1 (eV 4)) (sSet 2 (eV 4))))
noncomputable def h_between_word : MS := (sSeq (sAsg (eTup (aCons (eTup (aCons (eC (.int 0)) (aCons (eC (.int 1)) aNil))) (aCons (eTup (aCons (eC (.int 1)) (aCons (eC (.int 0)) aNil))) aNil))) (tgT 2 (tgsCons (tgN 1) (tgsCons (tgN 2) tgsNil)))) (sSeq (sFor (iAny (eV 0)) (tgN 3) b_between_word_0) (sRet (eTup (aCons (eV 1) (aCons (eV 2) aNil))))))
theorem m_between_word_eq : m_between_word = runFn 1 5 h_between_word := rfl
noncomputable def c_way_between_0 : Env → M Bool := (tAndF (tV (e2 opLt (eV 4) (eB opMin2 (aCons (eB opLen (aCons (eV 2) aNil)) (aCons (eB opLen (aCons (eV 3) aNil)) aNil))))) (tV (e2 opEq (e2 opIx (eV 2) (eV 4)) (e2 opIx (eV 3) (eV 4)))))
noncomputable def b_way_between_0 : MS := (sAug 4 opAddA (eC (.int 1)))
noncomputable def h_way_between : MS := (sSeq (sAsg (eTup (aCons (callF 1 m_word_of_fraction (aCons (eV 0) aNil)) (aCons (callF 1 m_word_of_fraction (aCons (eV 1) aNil)) aNil))) (tgT 2 (tgsCons (tgN 2) (tgsCons (tgN 3) tgsNil)))) (sSeq (sSet 4 (eC (.int 0))) (sSeq (sWhile c_way_between_0 b_way_between_0) (sSeq (sNew 5 (nComp (iRng rng3D (aCons (eB opLen (aCons (eV 2) aNil)) (aCons (eV 4) (aCons (e1 opNeg (eC (.int 1))) aNil)))) (tgN 6) tYesF (callF 1 m_fraction_of_word (aCons (eSl (eV 2) oNo (oSo (eV 6))) aNil)) [6])) (sSeq (sExt 5 (eL (nComp (iRng rng2D (aCons (eV 4) (aCons (e2 opAdd (eB opLen (aCons (eV 3) aNil)) (eC (.int 1))) aNil))) (tgN 6) tYesF (callF 1 m_fraction_of_word (aCons (eSl (eV 3) oNo (oSo (eV 6))) aNil)) [6]))) (sFrz 5 (sRet (eV 5))))))))
theorem m_way_between_eq : m_way_between = runFn 2 7 h_way_between := rfl
noncomputable def b_best_below_0 : MS := (sSeq (sSet 5 (e2 opDiv (e2 opMul (eV 1) (eV 4)) (eV 2))) (sIf (tV (e2 opGt (e2 opMul (eV 5) (e2 opIx (eV 3) (eC (.int 1)))) (e2 opMul (e2 opIx (eV 3) (eC (.int 0))) (eV 4)))) (sSet 3 (eTup (aCons (eV 5) (aCons (eV 4) aNil)))) sSkip))
noncomputable def h_best_below : MS := (sSeq (sSet 3 (eTup (aCons (eC (.int 0)) (aCons (eC (.int 1)) aNil)))) (sSeq (sFor (iRng rng2D (aCons (eC (.int 1)) (aCons (e2 opAdd (eV 0) (eC (.int 1))) aNil))) (tgN 4) b_best_below_0) (sSeq (sSet 6 (callF 2 m_common_divisor (aCons (e2 opIx (eV 3) (eC (.int 0))) (aCons (e2 opIx (eV 3) (eC (.int 1))) aNil)))) (sRet (eTup (aCons (e2 opDiv (e2 opIx (eV 3) (eC (.int 0))) (eV 6)) (aCons (e2 opDiv (e2 opIx (eV 3) (eC (.int 1))) (eV 6)) aNil)))))))
theorem m_best_below_eq : m_best_below = runFn 3 7 h_best_below := rfl
noncomputable def c__law_common_0 : Env → M Bool := (tV (e2 opNe (eV 1) (eC (.int 0))))
noncomputable def b__law_common_0 : MS := (sPar2 0 1 (aCons (eV 1) (aCons (e2 opMod (eB opInt (aCons (eV 0) aNil)) (eV 1)) aNil)))
noncomputable def h__law_common : MS := (sSeq (sSet 0 (eB opAbs (aCons (eV 0) aNil))) (sSeq (sSet 1 (eB opAbs (aCons (eV 1) aNil))) (sSeq (sWhile c__law_common_0 b__law_common_0) (sRet (eV 0)))))
theorem m__law_common_eq : m__law_common = runFn 2 2 h__law_common := rfl
noncomputable def b__law_word_0 : MS := (sSet 2 (e2 opAdd (eV 2) (e2 opMul (e2 opIx (eC (.str "RL")) (callF 2 m__law_draw (aCons (eV 0) (aCons (eC (.int 2)) aNil)))) (e2 opIx (eL (nLst (aCons (eC (.int 1)) (aCons (eC (.int 1)) (aCons (e2 opAdd (eC (.int 1)) (callF 2 m__law_draw (aCons (eV 0) (aCons (eC (.int 5)) aNil)))) aNil))))) (callF 2 m__law_draw (aCons (eV 0) (aCons (eC (.int 3)) aNil)))))))
noncomputable def h__law_word : MS := (sSeq (sSet 2 (eC (.str ""))) (sSeq (sFor (iRng rng1D (aCons (callF 2 m__law_draw (aCons (eV 0) (aCons (e2 opAdd (eV 1) (eC (.int 1))) aNil))) aNil)) (tgN 3) b__law_word_0) (sRet (eV 2))))
theorem m__law_word_eq : m__law_word = runFn 2 4 h__law_word := rfl
noncomputable def b__law_around_0 : MS := (sSeq (sSet 4 (eTup (aCons (e2 opAdd (e2 opIx (eV 1) (eC (.int 0))) (e2 opIx (eV 2) (eC (.int 0)))) (aCons (e2 opAdd (e2 opIx (eV 1) (eC (.int 1))) (e2 opIx (eV 2) (eC (.int 1)))) aNil)))) (sIf (tV (e2 opEq (eV 3) (eC (.str "R")))) (sSet 1 (eV 4)) (sSet 2 (eV 4))))
noncomputable def h__law_around : MS := (sSeq (sSet 1 (eTup (aCons (eC (.int 0)) (aCons (eC (.int 1)) aNil)))) (sSeq (sSet 2 (eTup (aCons (eC (.int 1)) (aCons (eC (.int 0)) aNil)))) (sSeq (sFor (iAny (eV 0)) (tgN 3) b__law_around_0) (sRet (eL (nLst (aCons (eV 1) (aCons (eV 2) aNil))))))))
theorem m__law_around_eq : m__law_around = runFn 1 5 h__law_around := rfl
noncomputable def b__law_list_holds_0 : MS := (sSet 2 (e2 opAdd (eV 2) (eL (nComp (iRng rng1D (aCons (e2 opAdd (eV 3) (eC (.int 1))) aNil)) (tgN 4) (tV (e2 opEq (callF 2 m__law_common (aCons (eV 4) (aCons (eV 3) aNil))) (eC (.int 1)))) (eTup (aCons (eV 4) (aCons (eV 3) aNil))) [4]))))
noncomputable def h__law_list_holds : MS := (sSeq (sSet 1 (callF 1 m_farey_list (aCons (eV 0) aNil))) (sSeq (sSet 2 (eL (nLst aNil))) (sSeq (sFor (iRng rng2D (aCons (eC (.int 1)) (aCons (e2 opAdd (eV 0) (eC (.int 1))) aNil))) (tgN 3) b__law_list_holds_0) (sSeq (sIf (tOrF (tV (e2 opNe (eB opLen (aCons (eV 1) aNil)) (eB opLen (aCons (eV 2) aNil)))) (tV (e2 opGt (eB opLen (aCons (eL (nComp (iAny (eV 2)) (tgN 5) (tV (e2 (opIn true) (eV 5) (eV 1))) (eV 5) [5])) aNil)) (eC (.int 0))))) (sRet (eC (.bool false))) sSkip) (sRet (e2 opEq (eB opLen (aCons (eL (nComp (iRng rng2D (aCons (eC (.int 1)) (aCons (eB opLen (aCons (eV 1) aNil)) aNil))) (tgN 6) (tV (e2 opGe (e2 opMul (e2 opIx (e2 opIx (eV 1) (e2 opSub (eV 6) (eC (.int 1)))) (eC (.int 0))) (e2 opIx (e2 opIx (eV 1) (eV 6)) (eC (.int 1)))) (e2 opMul (e2 opIx (e2 opIx (eV 1) (eV 6)) (eC (.int 0))) (e2 opIx (e2 opIx (eV 1) (e2 opSub (eV 6) (eC (.int 1)))) (eC (.int 1)))))) (eV 6) [6])) aNil)) (eC (.int 0))))))))
theorem m__law_list_holds_eq : m__law_list_holds = runFn 1 7 h__law_list_holds := rfl
noncomputable def b__law_best_holds_0 : MS := (sIf (tV (e2 opGt (e2 opMul (e2 opDiv (e2 opMul (eV 1) (eV 4)) (eV 2)) (e2 opIx (eV 3) (eC (.int 1)))) (e2 opMul (e2 opIx (eV 3) (eC (.int 0))) (eV 4)))) (sRet (eC (.bool false))) sSkip)
noncomputable def h__law_best_holds : MS := (sSeq (sSet 3 (callF 3 m_best_below (aCons (eV 0) (aCons (eV 1) (aCons (eV 2) aNil))))) (sSeq (sIf (tOrF (tV (e2 opLt (e2 opIx (eV 3) (eC (.int 1))) (eC (.int 1)))) (tOrF (tV (e2 opGt (e2 opIx (eV 3) (eC (.int 1))) (eV 0))) (tOrF (tV (e2 opNe (callF 2 m__law_common (aCons (e2 opIx (eV 3) (eC (.int 0))) (aCons (e2 opIx (eV 3) (eC (.int 1))) aNil))) (eC (.int 1)))) (tV (e2 opGt (e2 opMul (e2 opIx (eV 3) (eC (.int 0))) (eV 2)) (e2 opMul (eV 1) (e2 opIx (eV 3) (eC (.int 1))))))))) (sRet (eC (.bool false))) sSkip) (sSeq (sFor (iRng rng2D (aCons (eC (.int 1)) (aCons (e2 opAdd (eV 0) (eC (.int 1))) aNil))) (tgN 4) b__law_best_holds_0) (sRet (eC (.bool true))))))
theorem m__law_best_holds_eq : m__law_best_holds = runFn 3 5 h__law_best_holds := rfl
noncomputable def b_law_0 : MS := (sSeq (sAsg (callF 1 m__law_around (aCons (eV 6) aNil)) (tgT 2 (tgsCons (tgN 7) (tgsCons (tgN 8) tgsNil)))) (sSeq (sSet 9 (callF 1 m__law_fraction (aCons (eV 6) aNil))) (sSeq (sIf (tOrF (tV (e2 opNe (callF 1 m_fraction_of_word (aCons (eV 6) aNil)) (eV 9))) (tOrF (tV (e2 opNe (callF 1 m_word_of_fraction (aCons (eV 9) aNil)) (eV 6))) (tOrF (tV (e2 opNe (callF 1 m_between_word (aCons (eV 6) aNil)) (eTup (aCons (eV 7) (aCons (eV 8) aNil))))) (tV (e2 opNe (callF 1 m_parents_of (aCons (eV 9) aNil)) (eTup (aCons (eV 7) (aCons (eV 8) aNil)))))))) (sRet (eC (.bool false))) sSkip) (sSeq (sIf (tOrF (tV (e2 opNe (callF 2 m_mediant (aCons (eV 7) (aCons (eV 8) aNil))) (eV 9))) (tOrF (tV (e2 (opIs true) (callF 2 m_is_next_to (aCons (eV 7) (aCons (eV 8) aNil))) (eC (.bool true)))) (tOrF (tV (e2 (opIs true) (callF 2 m_is_next_to (aCons (eV 7) (aCons (eV 9) aNil))) (eC (.bool true)))) (tV (e2 (opIs true) (callF 2 m_is_next_to (aCons (eV 9) (aCons (eV 8) aNil))) (eC (.bool true))))))) (sRet (eC (.bool false))) sSkip) (sSeq (sIf (tOrF (tV (e2 (opIs true) (callF 1 m_is_fraction_pair (aCons (eV 9) aNil)) (eC (.bool true)))) (tOrF (tV (e2 opNe (callF 2 m_circle_touch (aCons (eV 7) (aCons (eV 9) aNil))) (eC (.int 0)))) (tV (e2 (opIs true) (callF 1 m_is_fraction_pair (aCons (eTup (aCons (e2 opMul (eC (.int 2)) (e2 opIx (eV 9) (eC (.int 0)))) (aCons (e2 opMul (eC (.int 2)) (e2 opIx (eV 9) (eC (.int 1)))) aNil))) aNil)) (eC (.bool false)))))) (sRet (eC (.bool false))) sSkip) (sIf (tOrF (tNotF (tV (callF 2 m__law_refused (aCons (eC (.int 0)) (aCons (eTup (aCons (e2 opMul (eC (.int 3)) (e2 opIx (eV 9) (eC (.int 0)))) (aCons (e2 opMul (eC (.int 3)) (e2 opIx (eV 9) (eC (.int 1)))) aNil))) aNil))))) (tOrF (tNotF (tV (callF 2 m__law_refused (aCons (eC (.int 1)) (aCons (eTup (aCons (e2 opMul (eC (.int 2)) (e2 opIx (eV 9) (eC (.int 0)))) (aCons (e2 opMul (eC (.int 2)) (e2 opIx (eV 9) (eC (.int 1)))) aNil))) aNil))))) (tNotF (tV (callF 2 m__law_refused (aCons (eC (.int 0)) (aCons (eTup (aCons (e2 opSub (eC (.int 0)) (e2 opIx (eV 9) (eC (.int 0)))) (aCons (e2 opIx (eV 9) (eC (.int 1))) aNil))) aNil))))))) (sRet (eC (.bool false))) sSkip))))))
noncomputable def c_law_1 : Env → M Bool := (tAndF (tV (e2 opLt (eV 10) (eB opMin2 (aCons (eB opLen (aCons (eV 2) aNil)) (aCons (eB opLen (aCons (eV 3) aNil)) aNil))))) (tV (e2 opEq (e2 opIx (eV 2) (eV 10)) (e2 opIx (eV 3) (eV 10)))))
noncomputable def b_law_1 : MS := (sSet 10 (e2 opAdd (eV 10) (eC (.int 1))))
noncomputable def h_law : MS := (sSeq (sSet 2 (callF 2 m__law_word (aCons (eV 1) (aCons (eC (.int 16)) aNil)))) (sSeq (sSet 3 (e2 opAdd (eSl (eV 2) oNo (oSo (callF 2 m__law_draw (aCons (eV 1) (aCons (e2 opAdd (eB opLen (aCons (eV 2) aNil)) (eC (.int 1))) aNil))))) (callF 2 m__law_word (aCons (eV 1) (aCons (eC (.int 9)) aNil))))) (sSeq (sSet 4 (callF 1 m__law_fraction (aCons (eV 2) aNil))) (sSeq (sSet 5 (callF 1 m__law_fraction (aCons (eV 3) aNil))) (sSeq (sFor (iAny (eL (nLst (aCons (eV 2) (aCons (eV 3) aNil))))) (tgN 6) b_law_0) (sSeq (sSet 10 (eC (.int 0))) (sSeq (sWhile c_law_1 b_law_1) (sSeq (sSet 11 (e2 opAdd (eL (nComp (iRng rng1D (aCons (e2 opSub (eB opLen (aCons (eV 2) aNil)) (eV 10)) aNil)) (tgN 12) tYesF (callF 1 m__law_fraction (aCons (eSl (eV 2) oNo (oSo (e2 opSub (eB opLen (aCons (eV 2) aNil)) (eV 12)))) aNil)) [12])) (eL (nComp (iRng rng2D (aCons (eV 10) (aCons (e2 opAdd (eB opLen (aCons (eV 3) aNil)) (eC (.int 1))) aNil))) (tgN 12) tYesF (callF 1 m__law_fraction (aCons (eSl (eV 3) oNo (oSo (eV 12))) aNil)) [12])))) (sSeq (sIf (tOrF (tV (e2 opNe (callF 2 m_way_between (aCons (eV 4) (aCons (eV 5) aNil))) (eV 11))) (tV (e2 opNe (callF 2 m_way_between (aCons (eV 4) (aCons (eV 4) aNil))) (eL (nLst (aCons (eV 4) aNil)))))) (sRet (eC (.bool false))) sSkip) (sSeq (sSet 13 (e2 opSub (e2 opMul (e2 opIx (eV 4) (eC (.int 0))) (e2 opIx (eV 5) (eC (.int 1)))) (e2 opMul (e2 opIx (eV 4) (eC (.int 1))) (e2 opIx (eV 5) (eC (.int 0)))))) (sSeq (sIf (tOrF (tV (e2 opNe (callF 2 m_circle_touch (aCons (eV 4) (aCons (eV 5) aNil))) (e2 opSub (e2 opMul (eV 13) (eV 13)) (eC (.int 1))))) (tNotF (tV (callF 2 m__law_truth (aCons (callF 2 m_is_next_to (aCons (eV 4) (aCons (eV 5) aNil))) (aCons (e2 opEq (eB opAbs (aCons (eV 13) aNil)) (eC (.int 1))) aNil)))))) (sRet (eC (.bool false))) sSkip) (sSeq (sIf (tOrF (tV (e2 (opIs true) (callF 1 m_is_fraction_pair (aCons (eTup (aCons (eC (.int 1)) (aCons (eC (.int 0)) aNil))) aNil)) (eC (.bool true)))) (tOrF (tV (e2 (opIs true) (callF 1 m_is_fraction_pair (aCons (eTup (aCons (e1 opNeg (eC (.int 1))) (aCons (eC (.int 0)) aNil))) aNil)) (eC (.bool false)))) (tV (e2 (opIs true) (callF 1 m_is_fraction_pair (aCons (eTup (aCons (eC (.int 1)) (aCons (e1 opNeg (eC (.int 2))) aNil))) aNil)) (eC (.bool false)))))) (sRet (eC (.bool false))) sSkip) (sSeq (sSet 14 (e2 opAdd (eC (.int 1)) (callF 2 m__law_draw (aCons (eV 1) (aCons (eC (.int 25)) aNil))))) (sSeq (sIf (tOrF (tNotF (tV (callF 1 m__law_list_holds (aCons (eV 14) aNil)))) (tNotF (tV (callF 1 m__law_wide (aCons (e2 opAdd (eC (.int 401)) (eV 14)) aNil))))) (sRet (eC (.bool false))) sSkip) (sRet (eAnd (callF 3 m__law_best_holds (aCons (e2 opAdd (eV 14) (callF 2 m__law_draw (aCons (eV 1) (aCons (eC (.int 40)) aNil)))) (aCons (e2 opIx (eV 4) (eC (.int 0))) (aCons (e2 opIx (eV 4) (eC (.int 1))) aNil)))) (callF 3 m__law_best_holds (aCons (eB opMin2 (aCons (e2 opIx (eV 4) (eC (.int 1))) (aCons (eC (.int 60)) aNil))) (aCons (e2 opIx (eV 4) (eC (.int 0))) (aCons (e2 opIx (eV 4) (eC (.int 1))) aNil))))))))))))))))))))
theorem g_law_eq : g_law = h_law := rfl
end DL
namespace DL
open PySem PySem.Spec PyProof.Rows L2 LW
/-! the common divisor -/
theorem gcd_loop (st : S) : ∀ (b a : Nat), sWhile c_common_divisor_0 b_common_divisor_0 [some (.v (.int a)), some (.v (.int b))] st = .ok (.nx [some (.v (.int (Nat.gcd b a))), some (.v (.int 0))]) st := by
  intro b
  induction b using Nat.strongRecOn with
  | _ b ih =>
    intro a
    by_cases h : b = 0
    · subst h
      rw [Nat.gcd_zero_left]
      exact sWhile_false (by simp [c_common_divisor_0])
    · have hb : 0 < b := Nat.pos_of_ne_zero h
      rw [sWhile_true (s := st) (s' := st) (e := [some (.v (.int b)), some (.v (.int (a % b : Nat)))]) (by simp [c_common_divisor_0, h]) (by
        have hb' : (0 : Int) < (b : Int) := by omega
        simp [b_common_divisor_0, hb', hb]), ih (a % b) (Nat.mod_lt a hb) b]
      rw [← Nat.gcd_rec b a]
theorem cd_ok (a b : Int) (st : S) : m_common_divisor [.int a, .int b] st = .ok (.int (Nat.gcd a.natAbs b.natAbs)) st := by
  rw [m_common_divisor_eq]
  refine runFn_of (o := .rt (.int (Nat.gcd a.natAbs b.natAbs))) rfl ?_
  have := gcd_loop st b.natAbs a.natAbs
  rw [Nat.gcd_comm] at this
  simp [h_common_divisor, startE, this]
theorem lcd_loop (st : S) : ∀ (b a : Nat), sWhile c__law_common_0 b__law_common_0 [some (.v (.int a)), some (.v (.int b))] st = .ok (.nx [some (.v (.int (Nat.gcd b a))), some (.v (.int 0))]) st := by
  intro b
  induction b using Nat.strongRecOn with
  | _ b ih =>
    intro a
    by_cases h : b = 0
    · subst h
      rw [Nat.gcd_zero_left]
      exact sWhile_false (by simp [c__law_common_0])
    · have hb : 0 < b := Nat.pos_of_ne_zero h
      rw [sWhile_true (s := st) (s' := st) (e := [some (.v (.int b)), some (.v (.int (a % b : Nat)))]) (by simp [c__law_common_0, h]) (by
        have hb' : (0 : Int) < (b : Int) := by omega
        simp [b__law_common_0, hb', hb]), ih (a % b) (Nat.mod_lt a hb) b]
      rw [← Nat.gcd_rec b a]
theorem lcd_ok (a b : Int) (st : S) : m__law_common [.int a, .int b] st = .ok (.int (Nat.gcd a.natAbs b.natAbs)) st := by
  rw [m__law_common_eq]
  refine runFn_of (o := .rt (.int (Nat.gcd a.natAbs b.natAbs))) rfl ?_
  have := lcd_loop st b.natAbs a.natAbs
  rw [Nat.gcd_comm] at this
  simp [h__law_common, startE, this]
/-! words -/
def cpB : Bool → Nat
  | true => 82
  | false => 76
def wS (w : List Bool) : Str := ⟨(w.map cpB).toArray⟩
def mid (l h : Int × Int) : Int × Int := (l.1 + h.1, l.2 + h.2)
def arF : Int × Int → Int × Int → List Bool → (Int × Int) × (Int × Int)
  | l, h, [] => (l, h)
  | l, h, true :: w => arF (mid l h) h w
  | l, h, false :: w => arF l (mid l h) w
def low (w : List Bool) : Int × Int := (arF (0, 1) (1, 0) w).1
def high (w : List Bool) : Int × Int := (arF (0, 1) (1, 0) w).2
def fr (w : List Bool) : Int × Int := mid (low w) (high w)
theorem wS_ok (w : List Bool) : PyData.strOk (wS w) = true := by
  unfold PyData.strOk wS
  simp
  exact ⟨fun _ => by decide, fun _ => by decide⟩
theorem wS_inj {u w : List Bool} (h : wS u = wS w) : u = w := by
  have h' : u.map cpB = w.map cpB := by
    have := congrArg (fun z : Str => z.cps.toList) h
    simpa [wS] using this
  exact (List.map_inj_right (f := cpB) (by intro x y e; cases x <;> cases y <;> first | rfl | cases e)).mp h'
theorem chars_cons (c : Bool) (w : List Bool) : chars (wS (c :: w)) = .str ⟨#[cpB c]⟩ :: chars (wS w) := by
  simp [chars, wS]
theorem chars_nil : chars (wS []) = [] := rfl
theorem strR : (("R" : String) : Str) = ⟨#[82]⟩ := by decide
theorem strL : (("L" : String) : Str) = ⟨#[76]⟩ := by decide
theorem ok1 (n : Nat) (h : n < 1114112) : PyData.strOk ⟨#[n]⟩ = true := by
  unfold PyData.strOk
  simp; omega
theorem eqR {st : S} (c : Bool) : opEq st (.str ⟨#[cpB c]⟩) (.str (("R" : String) : Str)) = some (.bool c) := by
  rw [strR, opEq_str (ok1 _ (by cases c <;> decide)) (ok1 _ (by decide))]
  cases c <;> simp [cpB]
@[simp] theorem mid_ok (st : S) (a b c d : Int) : m_mediant [.tuple [.int a, .int b], .tuple [.int c, .int d]] st = .ok (.tuple [.int (a + c), .int (b + d)]) st := by
  refine runFn_of (o := .rt (.tuple [.int (a + c), .int (b + d)])) rfl ?_
  simp [g_mediant, startE]
theorem fow_loop (st : S) (a0 : Option Sl) : ∀ (w : List Bool) (l h : Int × Int) (x y : Option Sl), ∃ x' y', forGo (tgN 3) b_fraction_of_word_0 (chars (wS w)) [a0, some (.v (.tuple [.int l.1, .int l.2])), some (.v (.tuple [.int h.1, .int h.2])), x, y] st =
    .ok (.nx [a0, some (.v (.tuple [.int (arF l h w).1.1, .int (arF l h w).1.2])), some (.v (.tuple [.int (arF l h w).2.1, .int (arF l h w).2.2])), x', y']) st
  | [], l, h, x, y => ⟨x, y, by rw [chars_nil]; simp [arF]⟩
  | c :: w, l, h, x, y => by
    rw [chars_cons]
    cases c with
    | true =>
      obtain ⟨x', y', e⟩ := fow_loop st a0 w (mid l h) h (some (.v (.str ⟨#[cpB true]⟩))) (some (.v (.tuple [.int (mid l h).1, .int (mid l h).2])))
      refine ⟨x', y', ?_⟩
      refine (forGo_cons (st2 := st) (env1 := [a0, some (.v (.tuple [.int l.1, .int l.2])), some (.v (.tuple [.int h.1, .int h.2])), some (.v (.str ⟨#[cpB true]⟩)), y]) (env2 := [a0, some (.v (.tuple [.int (mid l h).1, .int (mid l h).2])), some (.v (.tuple [.int h.1, .int h.2])), some (.v (.str ⟨#[cpB true]⟩)), some (.v (.tuple [.int (mid l h).1, .int (mid l h).2]))]) rfl (by simp [b_fraction_of_word_0, eqR, mid])).trans e
    | false =>
      obtain ⟨x', y', e⟩ := fow_loop st a0 w l (mid l h) (some (.v (.str ⟨#[cpB false]⟩))) (some (.v (.tuple [.int (mid l h).1, .int (mid l h).2])))
      refine ⟨x', y', ?_⟩
      refine (forGo_cons (st2 := st) (env1 := [a0, some (.v (.tuple [.int l.1, .int l.2])), some (.v (.tuple [.int h.1, .int h.2])), some (.v (.str ⟨#[cpB false]⟩)), y]) (env2 := [a0, some (.v (.tuple [.int l.1, .int l.2])), some (.v (.tuple [.int (mid l h).1, .int (mid l h).2])), some (.v (.str ⟨#[cpB false]⟩)), some (.v (.tuple [.int (mid l h).1, .int (mid l h).2]))]) rfl (by simp [b_fraction_of_word_0, eqR, mid])).trans e
theorem btw_eq : b_between_word_0 = b_fraction_of_word_0 := rfl
theorem fow_ok (st : S) (w : List Bool) : m_fraction_of_word [.str (wS w)] st = .ok (pr (fr w)) st := by
  rw [m_fraction_of_word_eq]
  refine runFn_of (o := .rt (pr (fr w))) rfl ?_
  obtain ⟨x', y', e⟩ := fow_loop st (some (.v (.str (wS w)))) w (0, 1) (1, 0) none none
  simp [h_fraction_of_word, startE, e, pr, fr, mid, low, high]
theorem bw_ok (st : S) (w : List Bool) : m_between_word [.str (wS w)] st = .ok (.tuple [pr (low w), pr (high w)]) st := by
  rw [m_between_word_eq]
  refine runFn_of (o := .rt (.tuple [pr (low w), pr (high w)])) rfl ?_
  obtain ⟨x', y', e⟩ := fow_loop st (some (.v (.str (wS w)))) w (0, 1) (1, 0) none none
  simp [h_between_word, startE, btw_eq, e, pr, low, high]
theorem lar_loop (st : S) (a0 : Option Sl) : ∀ (w : List Bool) (l h : Int × Int) (x y : Option Sl), ∃ x' y', forGo (tgN 3) b__law_around_0 (chars (wS w)) [a0, some (.v (.tuple [.int l.1, .int l.2])), some (.v (.tuple [.int h.1, .int h.2])), x, y] st =
    .ok (.nx [a0, some (.v (.tuple [.int (arF l h w).1.1, .int (arF l h w).1.2])), some (.v (.tuple [.int (arF l h w).2.1, .int (arF l h w).2.2])), x', y']) st
  | [], l, h, x, y => ⟨x, y, by rw [chars_nil]; simp [arF]⟩
  | c :: w, l, h, x, y => by
    rw [chars_cons]
    cases c with
    | true =>
      obtain ⟨x', y', e⟩ := lar_loop st a0 w (mid l h) h (some (.v (.str ⟨#[cpB true]⟩))) (some (.v (.tuple [.int (mid l h).1, .int (mid l h).2])))
      refine ⟨x', y', ?_⟩
      refine (forGo_cons (st2 := st) (env1 := [a0, some (.v (.tuple [.int l.1, .int l.2])), some (.v (.tuple [.int h.1, .int h.2])), some (.v (.str ⟨#[cpB true]⟩)), y]) (env2 := [a0, some (.v (.tuple [.int (mid l h).1, .int (mid l h).2])), some (.v (.tuple [.int h.1, .int h.2])), some (.v (.str ⟨#[cpB true]⟩)), some (.v (.tuple [.int (mid l h).1, .int (mid l h).2]))]) rfl (by simp [b__law_around_0, eqR, mid])).trans e
    | false =>
      obtain ⟨x', y', e⟩ := lar_loop st a0 w l (mid l h) (some (.v (.str ⟨#[cpB false]⟩))) (some (.v (.tuple [.int (mid l h).1, .int (mid l h).2])))
      refine ⟨x', y', ?_⟩
      refine (forGo_cons (st2 := st) (env1 := [a0, some (.v (.tuple [.int l.1, .int l.2])), some (.v (.tuple [.int h.1, .int h.2])), some (.v (.str ⟨#[cpB false]⟩)), y]) (env2 := [a0, some (.v (.tuple [.int l.1, .int l.2])), some (.v (.tuple [.int (mid l h).1, .int (mid l h).2])), some (.v (.str ⟨#[cpB false]⟩)), some (.v (.tuple [.int (mid l h).1, .int (mid l h).2]))]) rfl (by simp [b__law_around_0, eqR, mid])).trans e
theorem lar_ok (st : S) (w : List Bool) : m__law_around [.str (wS w)] st = .ok (.list [pr (low w), pr (high w)]) st := by
  rw [m__law_around_eq]
  refine runFn_of (o := .rt (.list [pr (low w), pr (high w)])) rfl ?_
  obtain ⟨x', y', e⟩ := lar_loop st (some (.v (.str (wS w)))) w (0, 1) (1, 0) none none
  simp [h__law_around, startE, e, pr, low, high]
@[simp] theorem tgT_2l (g : List PD → Env → Option Env) (a b : PD) (env : Env) : tgT 2 g (.list [a, b]) env = g [a, b] env := rfl
theorem lfr_ok (st : S) (w : List Bool) : m__law_fraction [.str (wS w)] st = .ok (pr (fr w)) st := by
  refine runFn_of (o := .rt (pr (fr w))) rfl ?_
  simp [g__law_fraction, startE, lar_ok, pr, fr, mid]
end DL
namespace DL
open PySem PySem.Spec PyProof.Rows L2 LW
/-! the plain law of words and fractions -/
def rc : List Bool → Int × Int
  | [] => (1, 1)
  | true :: w => ((rc w).1 + (rc w).2, (rc w).2)
  | false :: w => ((rc w).1, (rc w).1 + (rc w).2)
theorem arF_rc : ∀ (w : List Bool) (l h : Int × Int), mid (arF l h w).1 (arF l h w).2 = ((rc w).1 * h.1 + (rc w).2 * l.1, (rc w).1 * h.2 + (rc w).2 * l.2)
  | [], l, h => by simp [arF, rc, mid, Int.add_comm]
  | true :: w, l, h => by
    rw [arF, arF_rc w (mid l h) h]
    simp only [rc, mid, Prod.mk.injEq]
    constructor <;> grind
  | false :: w, l, h => by
    rw [arF, arF_rc w l (mid l h)]
    simp only [rc, mid, Prod.mk.injEq]
    constructor <;> grind
theorem fr_rc (w : List Bool) : fr w = rc w := by
  unfold fr low high
  rw [arF_rc w (0, 1) (1, 0)]
  simp
theorem rc_pos : ∀ w : List Bool, 1 ≤ (rc w).1 ∧ 1 ≤ (rc w).2
  | [] => by decide
  | true :: w => by have := rc_pos w; simp only [rc]; omega
  | false :: w => by have := rc_pos w; simp only [rc]; omega
theorem rc_gcd : ∀ w : List Bool, Int.gcd (rc w).1 (rc w).2 = 1
  | [] => by decide
  | true :: w => by
    have := rc_gcd w
    simp only [rc]
    rw [show ((rc w).1 + (rc w).2).gcd (rc w).2 = (rc w).1.gcd (rc w).2 from by simp]
    exact this
  | false :: w => by
    have := rc_gcd w
    simp only [rc]
    rw [show (rc w).1.gcd ((rc w).1 + (rc w).2) = (rc w).1.gcd (rc w).2 from by simp]
    exact this
theorem rc_sum : ∀ w : List Bool, (rc w).1 + (rc w).2 ≤ 2 ^ (w.length + 1)
  | [] => by decide
  | true :: w => by
    have := rc_sum w
    have := rc_pos w
    simp only [rc, List.length_cons]
    rw [Int.pow_succ 2 (w.length + 1)]
    omega
  | false :: w => by
    have := rc_sum w
    have := rc_pos w
    simp only [rc, List.length_cons]
    rw [Int.pow_succ 2 (w.length + 1)]
    omega
theorem arF_det : ∀ (w : List Bool) (l h : Int × Int), (arF l h w).2.1 * (arF l h w).1.2 - (arF l h w).2.2 * (arF l h w).1.1 = h.1 * l.2 - h.2 * l.1
  | [], l, h => rfl
  | true :: w, l, h => by
    rw [arF, arF_det w (mid l h) h]
    simp only [mid]
    grind
  | false :: w, l, h => by
    rw [arF, arF_det w l (mid l h)]
    simp only [mid]
    grind
theorem arF_pos : ∀ (w : List Bool) (l h : Int × Int), 0 ≤ l.1 → 1 ≤ l.2 → 1 ≤ h.1 → 0 ≤ h.2 → 0 ≤ (arF l h w).1.1 ∧ 1 ≤ (arF l h w).1.2 ∧ 1 ≤ (arF l h w).2.1 ∧ 0 ≤ (arF l h w).2.2
  | [], l, h, a, b, c, d => ⟨a, b, c, d⟩
  | true :: w, l, h, a, b, c, d => by
    rw [arF]
    exact arF_pos w (mid l h) h (by simp only [mid]; omega) (by simp only [mid]; omega) c d
  | false :: w, l, h, a, b, c, d => by
    rw [arF]
    exact arF_pos w l (mid l h) a b (by simp only [mid]; omega) (by simp only [mid]; omega)
theorem lh_pos (w : List Bool) : 0 ≤ (low w).1 ∧ 1 ≤ (low w).2 ∧ 1 ≤ (high w).1 ∧ 0 ≤ (high w).2 := arF_pos w (0, 1) (1, 0) (by decide) (by decide) (by decide) (by decide)
theorem lh_det (w : List Bool) : (high w).1 * (low w).2 - (high w).2 * (low w).1 = 1 := arF_det w (0, 1) (1, 0)
theorem fr_lh (w : List Bool) : (fr w).1 = (low w).1 + (high w).1 ∧ (fr w).2 = (low w).2 + (high w).2 := ⟨rfl, rfl⟩
theorem fr_pos (w : List Bool) : 1 ≤ (fr w).1 ∧ 1 ≤ (fr w).2 := by rw [fr_rc]; exact rc_pos w
theorem fr_gcd (w : List Bool) : Nat.gcd (fr w).1.natAbs (fr w).2.natAbs = 1 := by rw [fr_rc]; exact rc_gcd w
theorem fr_sum (w : List Bool) (h : w.length ≤ 200) : (fr w).1 + (fr w).2 ≤ 2 ^ 201 := by
  rw [fr_rc]
  have := rc_sum w
  have e : (2 : Int) ^ (w.length + 1) ≤ 2 ^ 201 := by
    have : (2 : Nat) ^ (w.length + 1) ≤ 2 ^ 201 := Nat.pow_le_pow_right (by decide) (by omega)
    exact_mod_cast this
  omega
/-! the word of a fraction -/
theorem opAddA_wS {st : S} (u : List Bool) (c : Bool) (h : u.length ≤ 1000) : opAddA st (.str (wS u)) (.str ⟨#[cpB c]⟩) = some (.str (wS (u ++ [c]))) := by
  show (if (wS u).length + (Str.mk #[cpB c]).length ≤ sizeLine then some (PyData.str (wS u ++ ⟨#[cpB c]⟩)) else none) = _
  have e1 : (wS u).length = u.length := by simp [wS, Str.length]
  have e2 : (Str.mk #[cpB c]).length = 1 := rfl
  have e3 : (2 ^ 24 : Nat) = sizeLine := rfl
  rw [if_pos (by rw [e1, e2, ← e3]; omega)]
  congr 2
  show Str.mk ((u.map cpB).toArray ++ #[cpB c]) = Str.mk (((u ++ [c]).map cpB).toArray)
  simp
theorem wf_loop (st : S) (a0 : Option Sl) : ∀ (w u : List Bool), u.length + w.length ≤ 1000 → sWhile c_word_of_fraction_0 b_word_of_fraction_0 [a0, some (.v (.int (rc w).1)), some (.v (.int (rc w).2)), some (.v (.str (wS u)))] st =
    .ok (.nx [a0, some (.v (.int 1)), some (.v (.int 1)), some (.v (.str (wS (u ++ w))))]) st
  | [], u, h => by
    rw [List.append_nil]
    exact sWhile_false (by simp [c_word_of_fraction_0, rc])
  | true :: w, u, h => by
    have p := rc_pos w
    have h1 : ¬ (rc w).1 + (rc w).2 = (rc w).2 := by omega
    have h2 : (rc w).2 < (rc w).1 + (rc w).2 := by omega
    have h3 : (rc w).1 + (rc w).2 - (rc w).2 = (rc w).1 := by omega
    have hu : u.length ≤ 1000 := by omega
    have e := wf_loop st a0 w (u ++ [true]) (by simp at h ⊢; omega)
    rw [List.append_assoc] at e
    have k := opAddA_wS (st := st) u true hu
    refine (sWhile_true (s := st) (s' := st) (e := [a0, some (.v (.int (rc w).1)), some (.v (.int (rc w).2)), some (.v (.str (wS (u ++ [true]))))]) (by simp [c_word_of_fraction_0, rc, h1]) ?_).trans e
    simp only [cpB] at k
    simp [b_word_of_fraction_0, rc, h2, strR, k, h3]
  | false :: w, u, h => by
    have p := rc_pos w
    have h1 : ¬ (rc w).1 = (rc w).1 + (rc w).2 := by omega
    have h2 : ¬ (rc w).1 + (rc w).2 < (rc w).1 := by omega
    have h3 : (rc w).1 + (rc w).2 - (rc w).1 = (rc w).2 := by omega
    have hu : u.length ≤ 1000 := by omega
    have e := wf_loop st a0 w (u ++ [false]) (by simp at h ⊢; omega)
    rw [List.append_assoc] at e
    have k := opAddA_wS (st := st) u false hu
    refine (sWhile_true (s := st) (s' := st) (e := [a0, some (.v (.int (rc w).1)), some (.v (.int (rc w).2)), some (.v (.str (wS (u ++ [false]))))]) (by simp [c_word_of_fraction_0, rc, h1]) ?_).trans e
    simp only [cpB] at k
    simp [b_word_of_fraction_0, rc, h2, strL, k, h3]
theorem wof_ok (st : S) (w : List Bool) (h : w.length ≤ 1000) : m_word_of_fraction [pr (fr w)] st = .ok (.str (wS w)) st := by
  rw [m_word_of_fraction_eq]
  refine runFn_of (o := .rt (.str (wS w))) rfl ?_
  have p := fr_pos w
  have g := fr_gcd w
  have n1 : ¬ (fr w).1 < 1 := by omega
  have n2 : ¬ (fr w).2 < 1 := by omega
  have e := wf_loop st (some (.v (pr (fr w)))) w [] (by simpa using h)
  rw [← fr_rc] at e
  have z : (("" : String) : Str) = wS [] := rfl
  simp only [pr] at e
  simp [h_word_of_fraction, startE, pr, n1, n2, cd_ok, g, z, e]
end DL
namespace DL
open PySem PySem.Spec PyProof.Rows L2 LW
theorem bz_nat {n : Nat} {k : Nat} (h : k < 2 ^ n) : Bz n (k : Int) := by
  unfold Bz; rw [Int.natAbs_natCast]; exact h
theorem bez_step {A F N c y m x B : Nat} (hx : y * c + m = x) (hN : N ≤ F + c * A) (h : F * y + A * x ≤ B) : A * m + N * y ≤ B := by
  have h1 : N * y ≤ (F + c * A) * y := Nat.mul_le_mul_right y hN
  have h2 : A * m + (F + c * A) * y = F * y + A * x := by subst hx; grind
  omega
theorem cmb_loop (st : S) (a b : Int) (B : Nat) (hB : B < 2 ^ 300) : ∀ (y x : Nat) (f0 f1 s0 s1 : Int) (c4 : Option Sl), 1 ≤ x → x ≤ B → y ≤ B → f0 * a + f1 * b = x → s0 * a + s1 * b = y →
    f0.natAbs * y + s0.natAbs * x ≤ B → f1.natAbs * y + s1.natAbs * x ≤ B → f0.natAbs ≤ B → f1.natAbs ≤ B →
    ∃ g0 g1 e' c', sWhile c_combined_0 b_combined_0 [some (.v (.int x)), some (.v (.int y)), some (.v (.tuple [.int f0, .int f1])), some (.v (.tuple [.int s0, .int s1])), c4] st =
      .ok (.nx [some (.v (.int (Nat.gcd y x))), some (.v (.int 0)), some (.v (.tuple [.int g0, .int g1])), e', c']) st ∧ g0 * a + g1 * b = (Nat.gcd y x : Nat) := by
  intro y
  induction y using Nat.strongRecOn with
  | _ y ih =>
    intro x f0 f1 s0 s1 c4 hx hxB hyB hf hs p0 p1 q0 q1
    by_cases h : y = 0
    · subst h
      rw [Nat.gcd_zero_left]
      exact ⟨f0, f1, _, _, sWhile_false (by simp [c_combined_0]), hf⟩
    · have hy : 0 < y := Nat.pos_of_ne_zero h
      have hs0 : s0.natAbs ≤ B := by
        have : s0.natAbs * 1 ≤ s0.natAbs * x := Nat.mul_le_mul_left _ hx
        omega
      have hs1 : s1.natAbs ≤ B := by
        have : s1.natAbs * 1 ≤ s1.natAbs * x := Nat.mul_le_mul_left _ hx
        omega
      have hc : x / y ≤ B := Nat.le_trans (Nat.div_le_self x y) hxB
      have hdm : y * (x / y) + x % y = x := Nat.div_add_mod x y
      have n0 : (f0 - ((x / y : Nat) : Int) * s0).natAbs ≤ f0.natAbs + (x / y) * s0.natAbs := by
        have := Int.natAbs_sub_le f0 (((x / y : Nat) : Int) * s0)
        rw [Int.natAbs_mul, Int.natAbs_natCast] at this
        exact this
      have n1 : (f1 - ((x / y : Nat) : Int) * s1).natAbs ≤ f1.natAbs + (x / y) * s1.natAbs := by
        have := Int.natAbs_sub_le f1 (((x / y : Nat) : Int) * s1)
        rw [Int.natAbs_mul, Int.natAbs_natCast] at this
        exact this
      have hm : ((x % y : Nat) : Int) = (x : Int) - ((x / y : Nat) : Int) * y := by
        have : ((y * (x / y) + x % y : Nat) : Int) = (x : Int) := by rw [hdm]
        push_cast at this ⊢
        grind
      obtain ⟨g0, g1, e', c', e1, e2⟩ := ih (x % y) (Nat.mod_lt x hy) y s0 s1 (f0 - ((x / y : Nat) : Int) * s0) (f1 - ((x / y : Nat) : Int) * s1) (some (.v (.int ((x / y : Nat) : Int)))) hy hyB
        (Nat.le_trans (Nat.le_of_lt (Nat.mod_lt x hy)) hyB) hs (by rw [hm, ← hf, ← hs]; grind) (bez_step hdm n0 p0) (bez_step hdm n1 p1) hs0 hs1
      refine ⟨g0, g1, e', c', ?_, ?_⟩
      · rw [← Nat.gcd_rec y x] at e1
        rw [← e1]
        have hy' : (0 : Int) < (y : Int) := by omega
        have hl : (y : Int).natAbs.log2 < 9000 := by
          rw [Int.natAbs_natCast]
          have := (Nat.log2_lt h).mpr (Nat.lt_of_le_of_lt hyB hB)
          omega
        have k0 : (x : Int) / (y : Int) = ((x / y : Nat) : Int) := by push_cast; rfl
        have bc : Bz 300 ((x / y : Nat) : Int) := bz_nat (Nat.lt_of_le_of_lt hc hB)
        have m0 : mulOk ((x / y : Nat) : Int) (y : Int) := mulOk_bz bc (bz_nat (n := 300) (Nat.lt_of_le_of_lt hyB hB)) (by decide)
        have m1 : mulOk ((x / y : Nat) : Int) s0 := mulOk_bz bc (show Bz 300 s0 from Nat.lt_of_le_of_lt hs0 hB) (by decide)
        have m2 : mulOk ((x / y : Nat) : Int) s1 := mulOk_bz bc (show Bz 300 s1 from Nat.lt_of_le_of_lt hs1 hB) (by decide)
        refine sWhile_true (s := st) (s' := st) (by simp [c_combined_0, h]) ?_
        rw [hm]
        generalize ((x / y : Nat) : Int) = c at *
        simp [b_combined_0, opDiv_wide hy' hl, k0, m0, m1, m2]
      · rw [e2, ← Nat.gcd_rec y x]
theorem cmb_ok (st : S) (a b : Nat) (ha : 1 ≤ a) (hb : 1 ≤ b) (hA : a < 2 ^ 299) (hB : b < 2 ^ 299) : ∃ g0 g1 : Int, m_combined [.int a, .int b] st = .ok (.tuple [.int (Nat.gcd a b), .int g0, .int g1]) st ∧ g0 * a + g1 * b = (Nat.gcd a b : Nat) := by
  obtain ⟨g0, g1, e', c', e1, e2⟩ := cmb_loop st a b (a + b) (by omega) b a 1 0 0 1 none ha (by omega) (by omega) (by grind) (by grind) (by simp) (by simp) (by show 1 ≤ a + b; omega) (by show 0 ≤ a + b; omega)
  rw [Nat.gcd_comm] at e1 e2
  refine ⟨g0, g1, ?_, e2⟩
  rw [m_combined_eq]
  refine runFn_of (o := .rt (.tuple [.int (Nat.gcd a b), .int g0, .int g1])) rfl ?_
  have hn : ¬ ((Nat.gcd a b : Nat) : Int) < 0 := by omega
  simp [h_combined, startE, e1, hn]
/-! the two around -/
theorem emod_of {first q below k : Int} (h : first = q + below * k) (h0 : 0 ≤ q) (h1 : q < below) : first % below = q := by
  rw [h, Int.add_mul_emod_self_left]
  exact Int.emod_eq_of_lt h0 h1
theorem par_ok (st : S) (w : List Bool) (h : w.length ≤ 200) : m_parents_of [pr (fr w)] st = .ok (.tuple [pr (low w), pr (high w)]) st := by
  have hp := fr_pos w
  have hs := fr_sum w h
  have hg := fr_gcd w
  obtain ⟨l1, l2⟩ := fr_lh w
  obtain ⟨z0, z1, z2, z3⟩ := lh_pos w
  have dt := lh_det w
  obtain ⟨a, ea⟩ : ∃ a : Nat, (fr w).1 = (a : Int) := ⟨(fr w).1.toNat, by omega⟩
  obtain ⟨b, eb⟩ : ∃ b : Nat, (fr w).2 = (b : Int) := ⟨(fr w).2.toNat, by omega⟩
  rw [ea, eb] at hp hs hg
  rw [Int.natAbs_natCast, Int.natAbs_natCast] at hg
  obtain ⟨g0, g1, e1, e2⟩ := cmb_ok st a b (by omega) (by omega) (by omega) (by omega)
  rw [hg] at e1 e2
  unfold m_parents_of
  refine runFn_of (o := .rt (.tuple [pr (low w), pr (high w)])) rfl ?_
  have n1 : ¬ (a : Int) < 1 := by omega
  have n2 : ¬ (b : Int) < 1 := by omega
  rw [ea] at l1
  rw [eb] at l2
  have key : (a : Int) * (low w).2 - (low w).1 * b = 1 := by rw [l1, l2]; grind
  have hb' : (0 : Int) < b := by omega
  have hl : (b : Int).natAbs.log2 < 9000 := by
    rw [Int.natAbs_natCast]
    have := (Nat.log2_lt (show b ≠ 0 by omega)).mpr (show b < 2 ^ 300 by omega)
    omega
  have hq : ((a : Int) * (low w).2 - 1) / b = (low w).1 := by
    rw [show (a : Int) * (low w).2 - 1 = (low w).1 * b from by omega]
    exact Int.mul_ediv_cancel _ (by omega)
  have bA : Bz 202 (a : Int) := bz_nat (by omega)
  have bL : Bz 202 (low w).2 := Bz.of (by omega) (by omega)
  have mm : mulOk (a : Int) (low w).2 := mulOk_bz bA bL (by decide)
  have hh1 : (a : Int) - (low w).1 = (high w).1 := by omega
  have hh2 : (b : Int) - (low w).2 = (high w).2 := by omega
  by_cases hb1 : 1 < b
  · have hb1' : (1 : Int) < (b : Int) := by omega
    have hlt : (low w).2 < b := by
      by_cases z : (high w).2 = 0
      · have : (high w).1 * (low w).2 = 1 := by rw [z] at dt; omega
        have : (low w).2 = 1 := by
          have t : 1 ≤ (high w).1 := z2
          have : (low w).2 * 1 ≤ (low w).2 * (high w).1 := Int.mul_le_mul_of_nonneg_left t (by omega)
          rw [Int.mul_comm (low w).2 (high w).1] at this
          omega
        omega
      · omega
    have hmod : g0 % (b : Int) = (low w).2 := emod_of (k := -(g0 * (low w).1 + (low w).2 * g1)) (by grind) (by omega) hlt
    have opm : opMod st (.int g0) (.int (b : Int)) = some (.int (low w).2) := by rw [opMod_pos hb', hmod]
    simp [g_parents_of, startE, pr, ea, eb, n1, n2, e1, hb1, hb1', opm, mm, opDiv_wide hb' hl, hq, hh1, hh2]
  · have hb2 : b = 1 := by omega
    have hl2 : (low w).2 = 1 := by omega
    rw [hl2] at mm hq hh2
    rw [Int.mul_one] at hq
    have hb1' : ¬ (1 : Int) < (b : Int) := by omega
    simp [g_parents_of, startE, pr, ea, eb, n1, n2, e1, hb1, hb1', hl2, mm, opDiv_wide hb' hl, hq, hh1, hh2]
end DL
namespace DL
open PySem PySem.Spec PyProof.Rows L2 LW
/-! small functions -/
theorem nxt_ok (st : S) {a b c d : Int} (ha : Bz 1000 a) (hb : Bz 1000 b) (hc : Bz 1000 c) (hd : Bz 1000 d) : m_is_next_to [.tuple [.int a, .int b], .tuple [.int c, .int d]] st = .ok (.bool (decide ((a * d - b * c).natAbs = 1))) st := by
  have m1 : mulOk a d := mulOk_bz ha hd (by decide)
  have m2 : mulOk b c := mulOk_bz hb hc (by decide)
  refine runFn_of (o := .rt (.bool (decide ((a * d - b * c).natAbs = 1)))) rfl ?_
  simp [g_is_next_to, startE, m1, m2]
  omega
theorem cir_ok (st : S) {a b c d : Int} (ha : Bz 1000 a) (hb : Bz 1000 b) (hc : Bz 1000 c) (hd : Bz 1000 d) : m_circle_touch [.tuple [.int a, .int b], .tuple [.int c, .int d]] st = .ok (.int ((a * d - b * c) * (a * d - b * c) - 1)) st := by
  have m1 : mulOk a d := mulOk_bz ha hd (by decide)
  have m2 : mulOk b c := mulOk_bz hb hc (by decide)
  have b3 : Bz 2001 (a * d - b * c) := ((ha.mul hd).sub (hb.mul hc)).mono (by decide)
  have m3 : mulOk (a * d - b * c) (a * d - b * c) := mulOk_bz b3 b3 (by decide)
  refine runFn_of (o := .rt (.int ((a * d - b * c) * (a * d - b * c) - 1))) rfl ?_
  simp [g_circle_touch, startE, m1, m2, m3]
theorem ifp_ok (st : S) (a b : Int) : m_is_fraction_pair [.tuple [.int a, .int b]] st = .ok (.bool (decide (Nat.gcd a.natAbs b.natAbs = 1) && (decide (0 < b) || (decide (a = 1) && decide (b = 0))))) st := by
  refine runFn_of (o := .rt (.bool (decide (Nat.gcd a.natAbs b.natAbs = 1) && (decide (0 < b) || (decide (a = 1) && decide (b = 0)))))) rfl ?_
  have hg : ((Nat.gcd a.natAbs b.natAbs : Nat) : Int) = 1 ↔ Nat.gcd a.natAbs b.natAbs = 1 := by omega
  by_cases h1 : Nat.gcd a.natAbs b.natAbs = 1
  · by_cases h2 : 0 < b
    · simp [g_is_fraction_pair, startE, cd_ok, h1, h2]
    · simp [g_is_fraction_pair, startE, cd_ok, h1, h2]
  · simp [g_is_fraction_pair, startE, cd_ok, hg, h1]
/-! what is refused -/
def ErrOf (c : Str) (m : List PD → M PD) (ds : List PD) (st : S) : Prop := m ds st = .ex c st
theorem wof_neg (st : S) (a b : Int) (h : a < 1) : m_word_of_fraction [.tuple [.int a, .int b]] st = .ex "NotPossible" st := by
  rw [m_word_of_fraction_eq]
  refine (runFn_of (o := .ex "NotPossible" [some (.v (.tuple [.int a, .int b])), some (.v (.int a)), some (.v (.int b)), none]) rfl ?_).trans rfl
  simp [h_word_of_fraction, startE, h]
theorem wof_gcd (st : S) (a b : Int) (h0 : ¬ a < 1) (h1 : ¬ b < 1) (h : ¬ Nat.gcd a.natAbs b.natAbs = 1) : m_word_of_fraction [.tuple [.int a, .int b]] st = .ex "NotPossible" st := by
  rw [m_word_of_fraction_eq]
  refine (runFn_of (o := .ex "NotPossible" [some (.v (.tuple [.int a, .int b])), some (.v (.int a)), some (.v (.int b)), none]) rfl ?_).trans rfl
  have hg : ((Nat.gcd a.natAbs b.natAbs : Nat) : Int) = 1 ↔ Nat.gcd a.natAbs b.natAbs = 1 := by omega
  simp [h_word_of_fraction, startE, h0, h1, cd_ok, hg, h]
theorem par_gcd (st : S) (a b : Nat) (h0 : 1 ≤ a) (h1 : 1 ≤ b) (hA : a < 2 ^ 299) (hB : b < 2 ^ 299) (h : ¬ Nat.gcd a b = 1) : m_parents_of [.tuple [.int a, .int b]] st = .ex "NotPossible" st := by
  obtain ⟨g0, g1, e1, e2⟩ := cmb_ok st a b h0 h1 hA hB
  unfold m_parents_of
  refine (runFn_of (o := .ex "NotPossible" [some (.v (.tuple [.int a, .int b])), some (.v (.int a)), some (.v (.int b)), some (.v (.int (Nat.gcd a b))), some (.v (.int g0)), some (.v (.int g1)), none, none]) rfl ?_).trans rfl
  have n1 : ¬ (a : Int) < 1 := by omega
  have n2 : ¬ (b : Int) < 1 := by omega
  have hg : ((Nat.gcd a b : Nat) : Int) = 1 ↔ Nat.gcd a b = 1 := by omega
  simp [g_parents_of, startE, n1, n2, e1, hg, h]
theorem lrf0_ok (st : S) (v : PD) (h : m_word_of_fraction [v] st = .ex "NotPossible" st) : m__law_refused [.int 0, v] st = .ok (.bool true) st := by
  refine runFn_of (o := .rt (.bool true)) rfl ?_
  simp [g__law_refused, startE, h, known, sCatch]
theorem lrf1_ok (st : S) (v : PD) (h : m_parents_of [v] st = .ex "NotPossible" st) : m__law_refused [.int 1, v] st = .ok (.bool true) st := by
  refine runFn_of (o := .rt (.bool true)) rfl ?_
  simp [g__law_refused, startE, h, known, sCatch]
theorem lwd_ok (st : S) (n : Int) (h : 400 < n) : m__law_wide [.int n] st = .ok (.bool true) st := by
  have e : m_farey_list [.int n] st = .ex "TooLarge" st := by
    rw [m_farey_list_eq]
    refine (runFn_of (o := .ex "TooLarge" [some (.v (.int n)), none, none, none, none, none, none]) rfl ?_).trans rfl
    simp [h_farey_list, startE, h]
  refine runFn_of (o := .rt (.bool true)) rfl ?_
  simp [g__law_wide, startE, e, known, sCatch]
theorem ltr_ok (st : S) (a b : Bool) (h : a = b) : m__law_truth [.bool a, .bool b] st = .ok (.bool true) st := by
  subst h
  refine runFn_of (o := .rt (.bool true)) rfl ?_
  cases a <;> simp [g__law_truth, startE]
end DL
namespace DL
open PySem PySem.Spec PyProof.Rows L2 LW
theorem drw_eq : m__law_draw = drawM := rfl
theorem draw_nat {st : S} (h : Good st) (n : Nat) (h1 : 1 ≤ n) (h2 : n < 1073741824) : ∃ (r : Nat) (st' : S), m__law_draw [STT, .int (n : Int)] st = .ok (.int (r : Int)) st' ∧ r < n ∧ Good st' := by
  obtain ⟨r, st', e, r0, r1, g⟩ := draw_ok h (lim := (n : Int)) (by omega) (by omega)
  refine ⟨r.toNat, st', ?_, by omega, g⟩
  rw [drw_eq, e, Int.toNat_of_nonneg r0]
theorem ixRL (st : S) (r : Nat) (h : r < 2) : opIx st (.str (("RL" : String) : Str)) (.int (r : Int)) = some (.str ⟨#[cpB (decide (r = 0))]⟩) := by
  have e : (("RL" : String) : Str) = ⟨#[82, 76]⟩ := by decide
  rw [e]
  match r, h with
  | 0, _ => rfl
  | 1, _ => rfl
theorem ixCnt (st : S) (r k : Nat) (h : r < 3) : opIx st (.list [.int 1, .int 1, .int (1 + (k : Int))]) (.int (r : Int)) = some (.int ((if r = 2 then 1 + k else 1 : Nat) : Int)) := by
  match r, h with
  | 0, _ => rfl
  | 1, _ => rfl
  | 2, _ => simp
theorem mul_rep (c : Nat) : ∀ n : Nat, List.foldl (fun x1 x2 => x1 ++ x2) #[] (List.replicate n #[c]) = (List.replicate n c).toArray := by
  have gen : ∀ (n : Nat) (a : Array Nat), List.foldl (fun x1 x2 => x1 ++ x2) a (List.replicate n #[c]) = a ++ (List.replicate n c).toArray := by
    intro n
    induction n with
    | zero => intro a; simp
    | succ n ih =>
      intro a
      rw [List.replicate_succ, List.foldl_cons, ih, List.replicate_succ]
      apply Array.ext'
      simp
  intro n
  rw [gen]
  simp
theorem mulStr (st : S) (b : Bool) (k : Nat) (h : 1 ≤ k) (h2 : k ≤ 1000) : opMul st (.str ⟨#[cpB b]⟩) (.int (k : Int)) = some (.str (wS (List.replicate k b))) := by
  show (if smallRep 1 (k : Int) = true then some (PyData.str (Txt.mul ⟨#[cpB b]⟩ (k : Int))) else none) = _
  rw [if_pos (by unfold smallRep; simp; omega)]
  congr 2
  unfold Txt.mul
  rw [if_neg (by omega)]
  by_cases h1 : k = 1
  · subst h1
    simp [wS]
  · have z : (((k : Int) == 1) || (Str.length ⟨#[cpB b]⟩ == 0)) = false := by
      have : ((k : Int) == 1) = false := by simp; omega
      rw [this]; rfl
    rw [if_neg (by rw [z]; simp)]
    rw [Int.toNat_natCast, mul_rep]
    unfold wS
    rw [List.map_replicate]
theorem addStr (st : S) (u v : List Bool) (h : u.length + v.length ≤ 10000) : opAdd st (.str (wS u)) (.str (wS v)) = some (.str (wS (u ++ v))) := by
  show (if (wS u).length + (wS v).length ≤ sizeLine then some (PyData.str (wS u ++ wS v)) else none) = _
  have e1 : ∀ u : List Bool, (wS u).length = u.length := fun u => by simp [wS, Str.length]
  have e3 : (2 ^ 24 : Nat) = sizeLine := rfl
  rw [if_pos (by rw [e1, e1, ← e3]; omega)]
  congr 2
  show Str.mk ((u.map cpB).toArray ++ (v.map cpB).toArray) = Str.mk (((u ++ v).map cpB).toArray)
  simp
theorem word_step {s s1 s2 s3 : S} (most : Int) (u : List Bool) (x : Option Sl) (i : Int) (r1 r2 r3 k : Nat) (d1 : m__law_draw [STT, .int 2] s = .ok (.int (r1 : Int)) s1) (d2 : m__law_draw [STT, .int 5] s1 = .ok (.int (r2 : Int)) s2) (d3 : m__law_draw [STT, .int 3] s2 = .ok (.int (r3 : Int)) s3)
    (k1 : r1 < 2) (k3 : r3 < 3) (ek : k = (if r3 = 2 then 1 + r2 else 1)) (hk : 1 ≤ k ∧ k ≤ 5) (hu : u.length ≤ 1000) :
    b__law_word_0 [some (.v STT), some (.v (.int most)), some (.v (.str (wS u))), some (.v (.int i))] s = .ok (.nx [some (.v STT), some (.v (.int most)), some (.v (.str (wS (u ++ List.replicate k (decide (r1 = 0)))))), some (.v (.int i))]) s3 := by
  have e5 := ixCnt s3 r3 r2 k3
  rw [← ek] at e5
  have e4 := ixRL s1 r1 k1
  have e6 := mulStr s3 (decide (r1 = 0)) k hk.1 (by omega)
  have e7 := addStr s3 u (List.replicate k (decide (r1 = 0))) (by rw [List.length_replicate]; omega)
  simp [b__law_word_0, d1, d2, d3, e4, e5, e6, e7]
theorem word_ok {st : S} (h : Good st) (most : Nat) (hm : most ≤ 100) : ∃ (w : List Bool) (st' : S), m__law_word [STT, .int (most : Int)] st = .ok (.str (wS w)) st' ∧ w.length ≤ 5 * most ∧ Good st' := by
  obtain ⟨n, st1, e1, hn, g1⟩ := draw_nat h (most + 1) (by omega) (by omega)
  push_cast at e1
  obtain ⟨env', st2, e2, i2⟩ := forGo_ind (tg := tgN 3) (b := b__law_word_0) (fun i env st => ∃ (u : List Bool) (x : Option Sl), env = [some (.v STT), some (.v (.int (most : Int))), some (.v (.str (wS u))), x] ∧ u.length ≤ 5 * i ∧ i ≤ n ∧ Good st)
    (rangeL 0 1 n) 0 [some (.v STT), some (.v (.int (most : Int))), some (.v (.str (wS []))), none] st1 (by
      rintro i d env s hd ⟨u, x, rfl, hu, hi, g⟩
      obtain ⟨hlt, rfl⟩ := rangeL_get hd
      obtain ⟨r1, s1, d1, k1, g1⟩ := draw_nat g 2 (by decide) (by decide)
      obtain ⟨r2, s2, d2, k2, g2⟩ := draw_nat g1 5 (by decide) (by decide)
      obtain ⟨r3, s3, d3, k3, g3⟩ := draw_nat g2 3 (by decide) (by decide)
      have hk : 1 ≤ (if r3 = 2 then 1 + r2 else 1) ∧ (if r3 = 2 then 1 + r2 else 1) ≤ 5 := by split <;> omega
      have d1' : m__law_draw [STT, .int 2] s = .ok (.int (r1 : Int)) s1 := by simpa using d1
      have d2' : m__law_draw [STT, .int 5] s1 = .ok (.int (r2 : Int)) s2 := by simpa using d2
      have d3' : m__law_draw [STT, .int 3] s2 = .ok (.int (r3 : Int)) s3 := by simpa using d3
      refine ⟨_, _, s3, rfl, word_step (most : Int) u x (0 + (i : Int) * 1) r1 r2 r3 _ d1' d2' d3' k1 k3 rfl hk (by omega), _, _, rfl, ?_, by omega, g3⟩
      rw [List.length_append, List.length_replicate]; omega) ⟨[], none, rfl, by simp, by omega, g1⟩
  obtain ⟨u, x, rfl, hu, _, g2⟩ := i2
  refine ⟨u, st2, ?_, by rw [rangeL_len] at hu; omega, g2⟩
  rw [m__law_word_eq]
  refine runFn_of (o := .rt (.str (wS u))) rfl ?_
  have z : (("" : String) : Str) = wS [] := rfl
  have hr := rng1D_nat n (Nat.lt_of_lt_of_le hn (Nat.le_trans (Nat.add_le_add_right hm 1) (by decide)))
  unfold h__law_word
  refine (seq_nx (env' := [some (.v STT), some (.v (.int (most : Int))), some (.v (.str (wS []))), none]) (st' := st) (by simp [startE, z])).trans ?_
  refine (seq_nx (env' := [some (.v STT), some (.v (.int (most : Int))), some (.v (.str (wS u))), x]) (st' := st2) ?_).trans (by simp)
  have hi : iRng rng1D (aCons (callF 2 m__law_draw (aCons (eV 0) (aCons (DL.e2 opAdd (eV 1) (eC (.int 1))) aNil))) aNil) [some (.v STT), some (.v (.int (most : Int))), some (.v (.str (wS []))), none] st = .ok (rangeL 0 1 n) st1 := by
    exact iRng_of (ds := [.int (n : Int)]) (by simp [e1]) hr
  exact (sFor_of hi).trans e2
end DL
namespace DL
open PySem PySem.Spec PyProof.Rows L2 LW
/-! the ways -/
def cpl : List Bool → List Bool → Nat
  | a :: u, b :: v => if a = b then cpl u v + 1 else 0
  | _, _ => 0
theorem cpl_lt : ∀ (u v : List Bool) (j : Nat), j < cpl u v → ∃ c, u[j]? = some c ∧ v[j]? = some c
  | [], _, j, h => by simp [cpl] at h
  | _ :: _, [], j, h => by simp [cpl] at h
  | a :: u, b :: v, j, h => by
    unfold cpl at h
    by_cases q : a = b
    · rw [if_pos q] at h
      subst q
      cases j with
      | zero => exact ⟨a, rfl, rfl⟩
      | succ j =>
        obtain ⟨c, e1, e2⟩ := cpl_lt u v j (by omega)
        exact ⟨c, by simpa using e1, by simpa using e2⟩
    · rw [if_neg q] at h; omega
theorem cpl_end : ∀ (u v : List Bool), u.length ≤ cpl u v ∨ v.length ≤ cpl u v ∨ ∃ a b, u[cpl u v]? = some a ∧ v[cpl u v]? = some b ∧ a ≠ b
  | [], v => .inl (by simp)
  | _ :: _, [] => .inr (.inl (by simp))
  | a :: u, b :: v => by
    unfold cpl
    by_cases q : a = b
    · rw [if_pos q]
      rcases cpl_end u v with h | h | ⟨x, y, h1, h2, h3⟩
      · exact .inl (by simp; omega)
      · exact .inr (.inl (by simp; omega))
      · exact .inr (.inr ⟨x, y, by simpa using h1, by simpa using h2, h3⟩)
    · rw [if_neg q]
      exact .inr (.inr ⟨a, b, rfl, rfl, q⟩)
theorem cpl_le (u v : List Bool) : cpl u v ≤ u.length ∧ cpl u v ≤ v.length := by
  by_cases h : 0 < cpl u v
  · obtain ⟨c, e1, e2⟩ := cpl_lt u v (cpl u v - 1) (by omega)
    have := (List.getElem?_eq_some_iff.mp e1).1
    have := (List.getElem?_eq_some_iff.mp e2).1
    omega
  · omega
theorem cpl_self : ∀ u : List Bool, cpl u u = u.length
  | [] => rfl
  | a :: u => by rw [cpl, if_pos rfl, cpl_self u]; rfl
theorem wS_len (u : List Bool) : (wS u).length = u.length := by simp [wS, Str.length]
theorem opLen_wS (st : S) (u : List Bool) (h : u.length ≤ 10000) : opLen st [.str (wS u)] = some (.int u.length) := by
  show (if (wS u).length ≤ sizeLine then some (PyData.int (((wS u).length : Nat) : Int)) else none) = _
  have e3 : (2 ^ 24 : Nat) = sizeLine := rfl
  rw [wS_len, if_pos (by rw [← e3]; omega)]
theorem opIx_wS (st : S) (u : List Bool) (j : Nat) (c : Bool) (h : u[j]? = some c) (hu : u.length ≤ 10000) : opIx st (.str (wS u)) (.int (j : Int)) = some (.str ⟨#[cpB c]⟩) := by
  show (if (wS u).length ≤ sizeLine then (L2.atI (wS u).cps.toList (j : Int)).map fun c => PyData.str ⟨#[c]⟩ else none) = _
  have e3 : (2 ^ 24 : Nat) = sizeLine := rfl
  rw [if_pos (by rw [wS_len, ← e3]; omega)]
  have : L2.atI (wS u).cps.toList (j : Int) = some (cpB c) := atI_nat (by simp [wS, h])
  rw [this]
  rfl
theorem eqCh (st : S) (a b : Bool) : opEq st (.str ⟨#[cpB a]⟩) (.str ⟨#[cpB b]⟩) = some (.bool (decide (a = b))) := by
  rw [opEq_str (ok1 _ (by cases a <;> decide)) (ok1 _ (by cases b <;> decide))]
  cases a <;> cases b <;> simp [cpB]
theorem opSl_wS (st : S) (u : List Bool) (j : Nat) (h : j ≤ u.length) (hu : u.length ≤ 10000) : opSl (.str (wS u)) none (some (j : Int)) = some (.str (wS (u.take j))) := by
  show (if (wS u).length ≤ sizeLine then some (PyData.str (cutS (wS u) none (some (j : Int)))) else none) = _
  have e3 : (2 ^ 24 : Nat) = sizeLine := rfl
  rw [if_pos (by rw [wS_len, ← e3]; omega)]
  unfold cutS
  rw [HT.sIx_nat, wS_len, HT.sIx_none, Nat.min_eq_left h]
  unfold wS
  simp
theorem way_loop (st : S) (a0 a1 : Option Sl) (t : Env) (u v : List Bool) (hu : u.length ≤ 10000) (hv : v.length ≤ 10000) : ∀ (m j : Nat), j + m = cpl u v → sWhile c_way_between_0 b_way_between_0 (a0 :: a1 :: some (.v (.str (wS u))) :: some (.v (.str (wS v))) :: some (.v (.int (j : Int))) :: t) st =
    .ok (.nx (a0 :: a1 :: some (.v (.str (wS u))) :: some (.v (.str (wS v))) :: some (.v (.int (cpl u v : Nat))) :: t)) st := by
  intro m
  induction m with
  | zero =>
    intro j h
    have hj : j = cpl u v := by omega
    subst hj
    refine sWhile_false ?_
    by_cases hl : ((cpl u v : Nat) : Int) < min (u.length : Int) (v.length : Int)
    · rcases cpl_end u v with h | h | ⟨x, y, h1, h2, h3⟩
      · exact absurd hl (by omega)
      · exact absurd hl (by omega)
      · simp [c_way_between_0, opLen_wS, hu, hv, hl, opIx_wS st u _ x h1 hu, opIx_wS st v _ y h2 hv, eqCh, h3]
    · simp [c_way_between_0, opLen_wS, hu, hv, hl]
  | succ m ih =>
    intro j h
    obtain ⟨c, e1, e2⟩ := cpl_lt u v j (by omega)
    have := (List.getElem?_eq_some_iff.mp e1).1
    have := (List.getElem?_eq_some_iff.mp e2).1
    have hl : (j : Int) < min (u.length : Int) (v.length : Int) := by omega
    have := ih (j + 1) (by omega)
    push_cast at this
    refine (sWhile_true (s := st) (s' := st) ?_ ?_).trans this
    · have h1 : j < u.length := by omega
      have h2 : j < v.length := by omega
      simp [c_way_between_0, opLen_wS, hu, hv, hl, opIx_wS st u _ c e1 hu, opIx_wS st v _ c e2 hv, eqCh, h1, h2]
    · simp [b_way_between_0]
theorem lway_loop (st : S) (a0 a1 a4 a5 a6 a7 a8 a9 : Option Sl) (t : Env) (u v : List Bool) (hu : u.length ≤ 10000) (hv : v.length ≤ 10000) : ∀ (m j : Nat), j + m = cpl u v → sWhile c_law_1 b_law_1 (a0 :: a1 :: some (.v (.str (wS u))) :: some (.v (.str (wS v))) :: a4 :: a5 :: a6 :: a7 :: a8 :: a9 :: some (.v (.int (j : Int))) :: t) st =
    .ok (.nx (a0 :: a1 :: some (.v (.str (wS u))) :: some (.v (.str (wS v))) :: a4 :: a5 :: a6 :: a7 :: a8 :: a9 :: some (.v (.int (cpl u v : Nat))) :: t)) st := by
  intro m
  induction m with
  | zero =>
    intro j h
    have hj : j = cpl u v := by omega
    subst hj
    refine sWhile_false ?_
    by_cases hl : ((cpl u v : Nat) : Int) < min (u.length : Int) (v.length : Int)
    · rcases cpl_end u v with h | h | ⟨x, y, h1, h2, h3⟩
      · exact absurd hl (by omega)
      · exact absurd hl (by omega)
      · simp [c_law_1, opLen_wS, hu, hv, hl, opIx_wS st u _ x h1 hu, opIx_wS st v _ y h2 hv, eqCh, h3]
    · simp [c_law_1, opLen_wS, hu, hv, hl]
  | succ m ih =>
    intro j h
    obtain ⟨c, e1, e2⟩ := cpl_lt u v j (by omega)
    have := (List.getElem?_eq_some_iff.mp e1).1
    have := (List.getElem?_eq_some_iff.mp e2).1
    have hl : (j : Int) < min (u.length : Int) (v.length : Int) := by omega
    have := ih (j + 1) (by omega)
    push_cast at this
    refine (sWhile_true (s := st) (s' := st) ?_ ?_).trans this
    · have h1 : j < u.length := by omega
      have h2 : j < v.length := by omega
      simp [c_law_1, opLen_wS, hu, hv, hl, opIx_wS st u _ c e1 hu, opIx_wS st v _ c e2 hv, eqCh, h1, h2]
    · simp [b_law_1]
end DL
namespace DL
open PySem PySem.Spec PyProof.Rows L2 LW
def wayA (u : List Bool) (k : Nat) : List (Int × Int) := (List.range (u.length - k)).map fun i => fr (u.take (u.length - i))
def wayB (v : List Bool) (k : Nat) : List (Int × Int) := (List.range (v.length + 1 - k)).map fun i => fr (v.take (k + i))
def wayL (u v : List Bool) : List (Int × Int) := wayA u (cpl u v) ++ wayB v (cpl u v)
theorem way_ok (st : S) (u v : List Bool) (hu : u.length ≤ 200) (hv : v.length ≤ 200) : m_way_between [pr (fr u), pr (fr v)] st = .ok (.list ((wayL u v).map pr)) st := by
  rw [m_way_between_eq]
  refine runFn_of (o := .rt (.list ((wayL u v).map pr))) rfl ?_
  obtain ⟨k1, k2⟩ := cpl_le u v
  have lp := way_loop st (some (.v (pr (fr u)))) (some (.v (pr (fr v)))) [none, none] u v (by omega) (by omega) (cpl u v) 0 (by omega)
  have lu := opLen_wS st u (by omega)
  have lv := opLen_wS st v (by omega)
  unfold wayL
  generalize hk : cpl u v = k at lp k1 k2 ⊢
  unfold h_way_between
  refine (seq_nx (st' := st) (env' := [some (.v (pr (fr u))), some (.v (pr (fr v))), some (.v (.str (wS u))), some (.v (.str (wS v))), none, none, none]) (by simp [startE, wof_ok st u (by omega), wof_ok st v (by omega)])).trans ?_
  refine (seq_nx (st' := st) (env' := [some (.v (pr (fr u))), some (.v (pr (fr v))), some (.v (.str (wS u))), some (.v (.str (wS v))), some (.v (.int 0)), none, none]) (by simp)).trans ?_
  refine (seq_nx lp).trans ?_
  have c1 : compGo [some (.v (pr (fr u))), some (.v (pr (fr v))), some (.v (.str (wS u))), some (.v (.str (wS v))), some (.v (.int (k : Int))), none, none] (tgN 6) tYesF (callF 1 m_fraction_of_word (aCons (eSl (eV 2) oNo (oSo (eV 6))) aNil)) (rangeL u.length (-1) (u.length - k)) st = .ok ((wayA u k).map pr) st := by
    rw [rangeL_map (h := fun i => .int ((u.length - i : Nat) : Int)) (by intro i hi; congr 1; omega)]
    rw [compGo_all (g := fun i => pr (fr (u.take (u.length - i))))]
    · unfold wayA; rw [List.map_map]; rfl
    · intro i hi
      refine ⟨_, rfl, ?_, rfl⟩
      have := opSl_wS st u (u.length - i) (by omega) (by omega)
      generalize ((u.length - i : Nat) : Int) = z at this ⊢
      simp [this, fow_ok]
  have c2 : ∀ (a : Option Sl), compGo [some (.v (pr (fr u))), some (.v (pr (fr v))), some (.v (.str (wS u))), some (.v (.str (wS v))), some (.v (.int (k : Int))), a, none] (tgN 6) tYesF (callF 1 m_fraction_of_word (aCons (eSl (eV 3) oNo (oSo (eV 6))) aNil)) (rangeL k 1 (v.length + 1 - k)) st = .ok ((wayB v k).map pr) st := by
    intro a
    rw [rangeL_map (h := fun i => .int ((k + i : Nat) : Int)) (by intro i hi; congr 1; omega)]
    rw [compGo_all (g := fun i => pr (fr (v.take (k + i))))]
    · unfold wayB; rw [List.map_map]; rfl
    · intro i hi
      have hi' := List.mem_range.mp hi
      refine ⟨_, rfl, ?_, rfl⟩
      have := opSl_wS st v (k + i) (by omega) (by omega)
      generalize ((k + i : Nat) : Int) = z at this ⊢
      simp [this, fow_ok]
  refine (seq_nx (st' := st) (env' := [some (.v (pr (fr u))), some (.v (pr (fr v))), some (.v (.str (wS u))), some (.v (.str (wS v))), some (.v (.int (k : Int))), some (.o ((wayA u k).map pr)), none]) ?_).trans ?_
  · exact sNew_of (nComp_of (iRng_of (ds := [.int (u.length : Int), .int (k : Int), .int (-1)]) (by simp [lu]) (rng3D_down u.length k (by omega) (by omega))) (by rw [rangeL_len]; omega) c1)
  refine (seq_nx (st' := st) (env' := [some (.v (pr (fr u))), some (.v (pr (fr v))), some (.v (.str (wS u))), some (.v (.str (wS v))), some (.v (.int (k : Int))), some (.o ((wayA u k).map pr ++ (wayB v k).map pr)), none]) ?_).trans ?_
  · rw [sExt_at (xs := (wayA u k).map pr) rfl]
    have r2 := rng2D_ok (k : Int) ((v.length : Int) + 1) (rngOk_small (by omega) (by omega)) (rngOk_small (by omega) (by omega))
    rw [show ((v.length : Int) + 1 - (k : Int)).toNat = v.length + 1 - k from by omega] at r2
    refine Eq.trans (congrArg (extA 5 _ _) (?_ : _ = R.ok (PyData.list ((wayB v k).map pr)) st)) ?_
    · exact eL_of (nComp_of (iRng_of (ds := [.int (k : Int), .int ((v.length : Int) + 1)]) (by simp [lv]) r2) (by rw [rangeL_len]; omega) (c2 _))
    rw [extA_ok (by simp [wayA, wayB]; omega)]
    rfl
  · rw [sFrz_at (xs := (wayA u k).map pr ++ (wayB v k).map pr) rfl]
    simp
theorem way_self (u : List Bool) : wayL u u = [fr u] := by
  unfold wayL wayA wayB
  rw [cpl_self]
  rw [show u.length - u.length = 0 from by omega, show u.length + 1 - u.length = 1 from by omega]
  simp
end DL
namespace DL
open PySem PySem.Spec PyProof.Rows L2 LW
theorem best_up {A B k u l w : Int} {P : Int → Int} (hl : 0 < l) (hk : 0 ≤ k) (hold : P k * l ≤ u * k) (hw : 0 ≤ w) (hnew : u * w < P w * l) : P k * w ≤ P w * k := by
  have h1 : (P k * l) * w ≤ (u * k) * w := Int.mul_le_mul_of_nonneg_right hold hw
  have h2 : (u * w) * k ≤ (P w * l) * k := Int.mul_le_mul_of_nonneg_right (Int.le_of_lt hnew) hk
  have h3 : (P k * w) * l ≤ (P w * k) * l := by grind
  exact Int.le_of_mul_le_mul_right h3 hl
theorem best_loop (st : S) (A B : Int) (n : Nat) (hA : 1 ≤ A) (hA2 : A < 2 ^ 202) (hB : 1 ≤ B) (hB2 : B < 2 ^ 202) (h1 : 1 ≤ n) (h2 : n ≤ 100) :
    ∃ (u l : Int) (x y : Option Sl), forGo (tgN 4) b_best_below_0 (rangeL 1 1 n) [some (.v (.int n)), some (.v (.int A)), some (.v (.int B)), some (.v (.tuple [.int 0, .int 1])), none, none, none] st =
      .ok (.nx [some (.v (.int n)), some (.v (.int A)), some (.v (.int B)), some (.v (.tuple [.int u, .int l])), x, y, none]) st ∧ 0 ≤ u ∧ u ≤ A * 100 ∧ 1 ≤ l ∧ l ≤ n ∧ u * B ≤ A * l ∧ ∀ k : Int, 1 ≤ k → k ≤ n → (A * k / B) * l ≤ u * k := by
  obtain ⟨env', st', e, i⟩ := forGo_ind (tg := tgN 4) (b := b_best_below_0) (fun i env s => s = st ∧ ∃ (u l : Int) (x y : Option Sl), env = [some (.v (.int n)), some (.v (.int A)), some (.v (.int B)), some (.v (.tuple [.int u, .int l])), x, y, none] ∧ 0 ≤ u ∧ u ≤ A * 100 ∧ 1 ≤ l ∧ l ≤ n ∧ u * B ≤ A * l ∧ ∀ k : Int, 1 ≤ k → k ≤ i → (A * k / B) * l ≤ u * k)
    (rangeL 1 1 n) 0 [some (.v (.int n)), some (.v (.int A)), some (.v (.int B)), some (.v (.tuple [.int 0, .int 1])), none, none, none] st (by
      rintro i d env s hd ⟨rfl, u, l, x, y, rfl, p0, p1, p2, p3, p4, p5⟩
      obtain ⟨hi, rfl⟩ := rangeL_get hd
      obtain ⟨w, ew⟩ : ∃ w : Int, w = 1 + (i : Int) * 1 := ⟨_, rfl⟩
      rw [← ew]
      have w1 : 1 ≤ w := by omega
      have w2 : w ≤ n := by omega
      obtain ⟨t, et⟩ : ∃ t : Int, t = A * w / B := ⟨_, rfl⟩
      have hAw : A * w ≤ A * 100 := Int.mul_le_mul_of_nonneg_left (by omega) (by omega)
      have hAw0 : 0 ≤ A * w := Int.mul_nonneg (by omega) (by omega)
      have t0 : 0 ≤ t := by rw [et]; exact Int.ediv_nonneg hAw0 (by omega)
      have t1 : t ≤ A * w := by rw [et]; exact Int.ediv_le_self _ hAw0
      have t2 : t * B ≤ A * w := by rw [et]; exact Int.ediv_mul_le _ (by omega)
      have hl : B.natAbs.log2 < 9000 := by
        have := (Nat.log2_lt (show B.natAbs ≠ 0 by omega)).mpr (show B.natAbs < 2 ^ 202 by omega)
        omega
      have bw : Bz 10 w := Bz.of (by omega) (by omega)
      have bl : Bz 10 l := Bz.of (by omega) (by omega)
      have m1 : mulOk A w := mulOk_bz (n := 202) (Bz.of (by omega) (by omega)) bw (by decide)
      have m2 : mulOk t l := mulOk_bz (n := 220) (Bz.of (by omega) (by omega)) bl (by decide)
      have m3 : mulOk u w := mulOk_bz (n := 220) (Bz.of (by omega) (by omega)) bw (by decide)
      have ed : opDiv s (.int (A * w)) (.int B) = some (.int t) := by rw [opDiv_wide (by omega) hl, ← et]
      by_cases hc : u * w < t * l
      · refine ⟨_, [some (.v (.int n)), some (.v (.int A)), some (.v (.int B)), some (.v (.tuple [.int t, .int w])), some (.v (.int w)), some (.v (.int t)), none], s, rfl, ?_, rfl, t, w, _, _, rfl, t0, by omega, w1, w2, t2, ?_⟩
        · simp [b_best_below_0, m1, m2, m3, ed, hc]
        · intro k k1 k2
          by_cases z : k = w
          · subst z; rw [← et]; exact Int.le_refl _
          · have := p5 k k1 (by omega)
            rw [et] at hc ⊢
            exact best_up (P := fun z => A * z / B) (A := A) (B := B) (l := l) (u := u) (by omega) (by omega) this (by omega) hc
      · refine ⟨_, [some (.v (.int n)), some (.v (.int A)), some (.v (.int B)), some (.v (.tuple [.int u, .int l])), some (.v (.int w)), some (.v (.int t)), none], s, rfl, ?_, rfl, u, l, _, _, rfl, p0, p1, p2, p3, p4, ?_⟩
        · simp [b_best_below_0, m1, m2, m3, ed, hc]
        · intro k k1 k2
          by_cases z : k = w
          · subst z; rw [← et]; omega
          · exact p5 k k1 (by omega)) ⟨rfl, 0, 1, none, none, rfl, by decide, by omega, by decide, by omega, by omega, fun k k1 k2 => by omega⟩
  obtain ⟨rfl, u, l, x, y, rfl, p0, p1, p2, p3, p4, p5⟩ := i
  exact ⟨u, l, x, y, e, p0, p1, p2, p3, p4, fun k k1 k2 => p5 k k1 (by rw [rangeL_len]; omega)⟩
theorem best_ok (st : S) (A B : Int) (n : Nat) (hA : 1 ≤ A) (hA2 : A < 2 ^ 202) (hB : 1 ≤ B) (hB2 : B < 2 ^ 202) (h1 : 1 ≤ n) (h2 : n ≤ 100) :
    ∃ (p q : Int), m_best_below [.int n, .int A, .int B] st = .ok (.tuple [.int p, .int q]) st ∧ 0 ≤ p ∧ p ≤ A * 100 ∧ 1 ≤ q ∧ q ≤ n ∧ Nat.gcd p.natAbs q.natAbs = 1 ∧ p * B ≤ A * q ∧ ∀ k : Int, 1 ≤ k → k ≤ n → (A * k / B) * q ≤ p * k := by
  obtain ⟨u, l, x, y, e, p0, p1, p2, p3, p4, p5⟩ := best_loop st A B n hA hA2 hB hB2 h1 h2
  obtain ⟨U, rfl⟩ : ∃ U : Nat, u = (U : Int) := ⟨u.toNat, by omega⟩
  obtain ⟨L, rfl⟩ : ∃ L : Nat, l = (L : Int) := ⟨l.toNat, by omega⟩
  obtain ⟨g, hg⟩ : ∃ g, g = Nat.gcd U L := ⟨_, rfl⟩
  have hL : 0 < L := by omega
  have g0 : 0 < g := by rw [hg]; exact Nat.gcd_pos_of_pos_right _ hL
  have gL : g ≤ L := by rw [hg]; exact Nat.gcd_le_right _ hL
  have dU : U / g * g = U := Nat.div_mul_cancel (by rw [hg]; exact Nat.gcd_dvd_left U L)
  have dL : L / g * g = L := Nat.div_mul_cancel (by rw [hg]; exact Nat.gcd_dvd_right U L)
  have cop : Nat.gcd (U / g) (L / g) = 1 := by
    rw [hg] at g0 ⊢
    exact Nat.coprime_div_gcd_div_gcd g0
  have leU : U / g ≤ U := Nat.div_le_self _ _
  have leL : L / g ≤ L := Nat.div_le_self _ _
  have qU : ((U : Int) / (g : Int)) = ((U / g : Nat) : Int) := rfl
  have qL : ((L : Int) / (g : Int)) = ((L / g : Nat) : Int) := rfl
  generalize U / g = X at dU cop leU qU ⊢
  generalize L / g = Y at dL cop leL qL ⊢
  have zU : (X : Int) * (g : Int) = (U : Int) := by exact_mod_cast dU
  have zL : (Y : Int) * (g : Int) = (L : Int) := by exact_mod_cast dL
  have posL : 1 ≤ Y := by
    by_cases z : Y = 0
    · rw [z] at dL; omega
    · omega
  have gi : (0 : Int) < (g : Int) := by omega
  refine ⟨(X : Int), (Y : Int), ?_, by omega, by omega, by omega, by omega, by rw [Int.natAbs_natCast, Int.natAbs_natCast]; exact cop, ?_, ?_⟩
  · rw [m_best_below_eq]
    refine runFn_of (o := .rt (.tuple [.int (X : Int), .int (Y : Int)])) rfl ?_
    have r2 := rng2D_ok 1 ((n : Int) + 1) (rngOk_small (by decide) (by decide)) (rngOk_small (by omega) (by omega))
    rw [show ((n : Int) + 1 - 1).toNat = n from by omega] at r2
    have hl : (g : Int).natAbs.log2 < 9000 := by
      rw [Int.natAbs_natCast]
      have := (Nat.log2_lt (show g ≠ 0 by omega)).mpr (show g < 2 ^ 202 by omega)
      omega
    have o1 : ∀ s : S, opDiv s (.int (U : Int)) (.int (g : Int)) = some (.int (X : Int)) := fun s => by rw [opDiv_wide gi hl, qU]
    have o2 : ∀ s : S, opDiv s (.int (L : Int)) (.int (g : Int)) = some (.int (Y : Int)) := fun s => by rw [opDiv_wide gi hl, qL]
    have cd : ∀ s : S, m_common_divisor [.int (U : Int), .int (L : Int)] s = .ok (.int (g : Int)) s := fun s => by
      rw [cd_ok, Int.natAbs_natCast, Int.natAbs_natCast, ← hg]
    unfold h_best_below
    refine (seq_nx (st' := st) (env' := [some (.v (.int n)), some (.v (.int A)), some (.v (.int B)), some (.v (.tuple [.int 0, .int 1])), none, none, none]) (by simp [startE])).trans ?_
    refine (seq_nx (st' := st) (env' := [some (.v (.int n)), some (.v (.int A)), some (.v (.int B)), some (.v (.tuple [.int U, .int L])), x, y, none]) ?_).trans ?_
    · exact (sFor_of (iRng_of (ds := [.int 1, .int ((n : Int) + 1)]) (by simp) r2)).trans e
    · generalize (X : Int) = p at o1 ⊢
      generalize (Y : Int) = q at o2 ⊢
      simp [cd, o1, o2]
  · refine Int.le_of_mul_le_mul_right (?_ : _ * (g : Int) ≤ _ * (g : Int)) gi
    generalize (X : Int) = p at zU ⊢
    generalize (Y : Int) = q at zL ⊢
    rw [← zU, ← zL] at p4
    grind
  · intro k k1 k2
    have := p5 k k1 k2
    refine Int.le_of_mul_le_mul_right (?_ : _ * (g : Int) ≤ _ * (g : Int)) gi
    generalize (X : Int) = p at zU ⊢
    generalize (Y : Int) = q at zL ⊢
    rw [← zU, ← zL] at this
    grind
theorem lbest_ok (st : S) (A B : Int) (n : Nat) (hA : 1 ≤ A) (hA2 : A < 2 ^ 202) (hB : 1 ≤ B) (hB2 : B < 2 ^ 202) (h1 : 1 ≤ n) (h2 : n ≤ 100) : m__law_best_holds [.int n, .int A, .int B] st = .ok (.bool true) st := by
  obtain ⟨p, q, e, p0, p1, q0, q1, hg, c1, c2⟩ := best_ok st A B n hA hA2 hB hB2 h1 h2
  rw [m__law_best_holds_eq]
  refine runFn_of (o := .rt (.bool true)) rfl ?_
  have hl : B.natAbs.log2 < 9000 := by
    have := (Nat.log2_lt (show B.natAbs ≠ 0 by omega)).mpr (show B.natAbs < 2 ^ 202 by omega)
    omega
  have bq : Bz 10 q := Bz.of (by omega) (by omega)
  have bA : Bz 202 A := Bz.of (by omega) (by omega)
  have bB : Bz 202 B := Bz.of (by omega) (by omega)
  have bp : Bz 220 p := Bz.of (by omega) (by omega)
  have m1 : mulOk p B := mulOk_bz bp bB (by decide)
  have m2 : mulOk A q := mulOk_bz bA bq (by decide)
  have r2 := rng2D_ok 1 ((n : Int) + 1) (rngOk_small (by decide) (by decide)) (rngOk_small (by omega) (by omega))
  rw [show ((n : Int) + 1 - 1).toNat = n from by omega] at r2
  have n1 : ¬ q < 1 := by omega
  have n2 : ¬ (n : Int) < q := by omega
  have n3 : ¬ A * q < p * B := by omega
  unfold h__law_best_holds
  refine (seq_nx (st' := st) (env' := [some (.v (.int n)), some (.v (.int A)), some (.v (.int B)), some (.v (.tuple [.int p, .int q])), none]) (by simp [startE, e])).trans ?_
  refine (seq_nx (st' := st) (env' := [some (.v (.int n)), some (.v (.int A)), some (.v (.int B)), some (.v (.tuple [.int p, .int q])), none]) (by simp [n1, n2, n3, lcd_ok, hg, m1, m2])).trans ?_
  obtain ⟨env', st', e3, rfl, x, rfl⟩ := forGo_ind (tg := tgN 4) (b := b__law_best_holds_0) (fun i env s => s = st ∧ ∃ (x : Option Sl), env = [some (.v (.int n)), some (.v (.int A)), some (.v (.int B)), some (.v (.tuple [.int p, .int q])), x])
    (rangeL 1 1 n) 0 [some (.v (.int n)), some (.v (.int A)), some (.v (.int B)), some (.v (.tuple [.int p, .int q])), none] st (by
      rintro i d env s hd ⟨rfl, x, rfl⟩
      obtain ⟨hi, rfl⟩ := rangeL_get hd
      obtain ⟨w, ew⟩ : ∃ w : Int, w = 1 + (i : Int) * 1 := ⟨_, rfl⟩
      rw [← ew]
      have w1 : 1 ≤ w := by omega
      have w2 : w ≤ n := by omega
      have c3 := c2 w w1 w2
      obtain ⟨t, et⟩ : ∃ t : Int, t = A * w / B := ⟨_, rfl⟩
      have hAw : A * w ≤ A * 100 := Int.mul_le_mul_of_nonneg_left (by omega) (by omega)
      have hAw0 : 0 ≤ A * w := Int.mul_nonneg (by omega) (by omega)
      have t0 : 0 ≤ t := by rw [et]; exact Int.ediv_nonneg hAw0 (by omega)
      have t1 : t ≤ A * w := by rw [et]; exact Int.ediv_le_self _ hAw0
      have bw : Bz 10 w := Bz.of (by omega) (by omega)
      have m3 : mulOk A w := mulOk_bz bA bw (by decide)
      have m4 : mulOk t q := mulOk_bz (n := 220) (Bz.of (by omega) (by omega)) bq (by decide)
      have m5 : mulOk p w := mulOk_bz bp bw (by decide)
      have ed : opDiv s (.int (A * w)) (.int B) = some (.int t) := by rw [opDiv_wide (by omega) hl, ← et]
      rw [← et] at c3
      have nc : ¬ p * w < t * q := by omega
      exact ⟨_, [some (.v (.int n)), some (.v (.int A)), some (.v (.int B)), some (.v (.tuple [.int p, .int q])), some (.v (.int w))], s, rfl, by simp [b__law_best_holds_0, m3, m4, m5, ed, nc], rfl, _, rfl⟩) ⟨rfl, none, rfl⟩
  refine (seq_nx (st' := st') (env' := [some (.v (.int n)), some (.v (.int A)), some (.v (.int B)), some (.v (.tuple [.int p, .int q])), x]) ?_).trans (by simp)
  exact (sFor_of (iRng_of (ds := [.int 1, .int ((n : Int) + 1)]) (by simp) r2)).trans e3
end DL
namespace DL
open PySem PySem.Spec PyProof.Rows L2 LW
/-! lists of fractions, up to 25 -/
def fgo (n : Int) : Nat → Int → Int → Int → Int → List (Int × Int) → Option (List (Int × Int))
  | 0, _, _, _, _, _ => none
  | f + 1, a, b, c, d, acc => if c ≤ d then
      if 0 < d ∧ d < 1000 ∧ 0 ≤ c ∧ 0 ≤ n + b ∧ n + b < 1000 then
        if c = 1 ∧ d = 1 then some (acc ++ [(c, d)])
        else fgo n f c d ((n + b) / d * c - a) ((n + b) / d * d - b) (acc ++ [(c, d)])
      else none
    else some acc
theorem far_loop (st : S) (n : Int) : ∀ (f : Nat) (a b c d : Int) (acc l : List (Int × Int)) (x : Option Sl), acc.length + f ≤ 10000 → fgo n f a b c d acc = some l →
    ∃ x2 x3 x4 x5 x6, sWhile c_farey_list_0 b_farey_list_0 [some (.v (.int n)), some (.o (acc.map pr)), some (.v (.int a)), some (.v (.int b)), some (.v (.int c)), some (.v (.int d)), x] st =
      .ok (.nx [some (.v (.int n)), some (.o (l.map pr)), x2, x3, x4, x5, x6]) st := by
  intro f
  induction f with
  | zero => intro a b c d acc l x _ h; cases h
  | succ f ih =>
    intro a b c d acc l x hl h
    unfold fgo at h
    by_cases hc : c ≤ d
    · rw [if_pos hc] at h
      by_cases hg : 0 < d ∧ d < 1000 ∧ 0 ≤ c ∧ 0 ≤ n + b ∧ n + b < 1000
      · rw [if_pos hg] at h
        obtain ⟨g0, g1, g2, g3, g4⟩ := hg
        obtain ⟨t, et⟩ : ∃ t, t = (n + b) / d := ⟨_, rfl⟩
        have t0 : 0 ≤ t := by rw [et]; exact Int.ediv_nonneg g3 (by omega)
        have t1 : t ≤ n + b := by rw [et]; exact Int.ediv_le_self _ g3
        rw [← et] at h
        have m1 : mulOk t c := mulOk_bz (n := 10) (m := 10) (Bz.of (by omega) (by omega)) (Bz.of (by omega) (by omega)) (by decide)
        have m2 : mulOk t d := mulOk_bz (n := 10) (m := 10) (Bz.of (by omega) (by omega)) (Bz.of (by omega) (by omega)) (by decide)
        have ed : opDiv st (.int (n + b)) (.int d) = some (.int t) := by
          rw [opDiv_int (by omega) (by omega), Int.fdiv_eq_ediv_of_nonneg _ (by omega), ← et]
        have ea : sApp 1 (eTup (aCons (eV 4) (aCons (eV 5) aNil))) [some (.v (.int n)), some (.o (acc.map pr)), some (.v (.int a)), some (.v (.int b)), some (.v (.int c)), some (.v (.int d)), x] st =
            .ok (.nx [some (.v (.int n)), some (.o ((acc ++ [(c, d)]).map pr)), some (.v (.int a)), some (.v (.int b)), some (.v (.int c)), some (.v (.int d)), x]) st := by
          rw [sApp_at (xs := acc.map pr) rfl]
          refine Eq.trans (congrArg (appA 1 _ _) (?_ : _ = R.ok (pr (c, d)) st)) ?_
          · simp [pr]
          · rw [appA_ok rfl (by simp; omega), List.map_append]; rfl
        have ei : ∀ s : S, opIx s (.list ((acc ++ [(c, d)]).map pr)) (.int (-1)) = some (.tuple [.int c, .int d]) := fun s => by
          rw [List.map_append]
          show L2.atI (acc.map pr ++ [pr (c, d)]) (-1) = _
          unfold L2.atI L2.ixN
          rw [if_neg (by decide), if_pos (by simp; omega)]
          have ez : (-1 + ((acc.length : Int) + 1)).toNat = acc.length := by omega
          simp [pr, ez]
        have ct : c_farey_list_0 [some (.v (.int n)), some (.o (acc.map pr)), some (.v (.int a)), some (.v (.int b)), some (.v (.int c)), some (.v (.int d)), x] st = .ok true st := by
          simp [c_farey_list_0, hc]
        by_cases h1 : c = 1 ∧ d = 1
        · rw [if_pos h1] at h
          cases h
          have h1' : (decide (c = 1) && decide (d = 1)) = true := by
            rw [decide_eq_true h1.1, decide_eq_true h1.2]; rfl
          have bt : b_farey_list_0 [some (.v (.int n)), some (.o (acc.map pr)), some (.v (.int a)), some (.v (.int b)), some (.v (.int c)), some (.v (.int d)), x] st = .ok (.bk [some (.v (.int n)), some (.o ((acc ++ [(c, d)]).map pr)), some (.v (.int c)), some (.v (.int d)), some (.v (.int (t * c - a))), some (.v (.int (t * d - b))), some (.v (.int t))]) st := by
            clear h1
            unfold b_farey_list_0
            refine (seq_nx ea).trans ?_
            generalize (acc ++ [(c, d)]).map pr = ac at ei ⊢
            simp only [sSeq_ap, sSet_ap, e2_ap, e2a_ok, e2b_ok, eV_0, eV_2, eV_3, eV_4, eV_5, eV_6, opAdd_int, ed, R.ofO_some, setA_ok, RS.seq_nx, List.set_cons_succ, List.set_cons_zero, sAsg_ap, eTup_ap, aCons_ap, aCa_ok, aCb_ok, aNil_ap, opMul_int m1, opMul_int m2, opSub_int, eTa_4, isD_int, Bool.and_self, if_true, asgA_ok, tgT_4, tgsCons_ap, tgsNil_ap, tgN_ap, Option.bind_some, oS_some]
            simp only [sIf_ap, tV_ap, e1_ap, e1a_ok, ePo_1, eC_ap, opNeg_int, e2_ap, e2a_ok, e2b_ok, eTup_ap, aCons_ap, aCa_ok, aCb_ok, aNil_ap, eTa_2, isD_int, Bool.and_self, if_true, R.ofO_some, ei, opEq_t2, h1', tVa_ok, ifA_t, sBrk_ap]
          exact ⟨_, _, _, _, _, sWhile_of (n := 1) (by unfold whIter; rw [ct]; dsimp only; rw [bt])⟩
        · rw [if_neg h1] at h
          obtain ⟨x2, x3, x4, x5, x6, e⟩ := ih c d (t * c - a) (t * d - b) (acc ++ [(c, d)]) l (some (.v (.int t))) (by simp; omega) h
          refine ⟨x2, x3, x4, x5, x6, (sWhile_true (s := st) (s' := st) ct ?_).trans e⟩
          unfold b_farey_list_0
          refine (seq_nx ea).trans ?_
          generalize (acc ++ [(c, d)]).map pr = ac at ei ⊢
          have h1' : (decide (c = 1) && decide (d = 1)) = false := by
            simp; intro hh; exact fun z => h1 ⟨hh, z⟩
          simp [ed, m1, m2, ei, h1']
      · rw [if_neg hg] at h; cases h
    · rw [if_neg hc] at h
      cases h
      refine ⟨_, _, _, _, _, sWhile_false ?_⟩
      simp [c_farey_list_0, hc]
theorem far_ok (st : S) (n : Int) (l : List (Int × Int)) (h : n ≤ 400) (e : fgo n 400 0 1 1 n [(0, 1)] = some l) : m_farey_list [.int n] st = .ok (.list (l.map pr)) st := by
  rw [m_farey_list_eq]
  refine runFn_of (o := .rt (.list (l.map pr))) rfl ?_
  obtain ⟨x2, x3, x4, x5, x6, e2⟩ := far_loop st n 400 0 1 1 n [(0, 1)] l none (by decide) e
  have h' : ¬ 400 < n := by omega
  unfold h_farey_list
  refine (seq_nx (st' := st) (env' := [some (.v (.int n)), none, none, none, none, none, none]) (by simp [startE, h'])).trans ?_
  refine (seq_nx (st' := st) (env' := [some (.v (.int n)), some (.o ([((0 : Int), (1 : Int))].map pr)), none, none, none, none, none]) (by simp [pr])).trans ?_
  refine (seq_nx (st' := st) (env' := [some (.v (.int n)), some (.o ([((0 : Int), (1 : Int))].map pr)), some (.v (.int 0)), some (.v (.int 1)), some (.v (.int 1)), some (.v (.int n)), none]) (by simp)).trans ?_
  refine (seq_nx e2).trans ?_
  rw [sFrz_at (xs := l.map pr) rfl]
  simp
/-! the law's own list -/
def dueR (b : Nat) : List (Int × Int) := ((List.range (b + 1)).filter fun a => decide (Nat.gcd a b = 1)).map fun (a : Nat) => ((a : Int), (b : Int))
def dueL : Nat → List (Int × Int)
  | 0 => []
  | i + 1 => dueL i ++ dueR (i + 1)
def okL (l due : List (Int × Int)) : Bool := decide (l.length = due.length) && due.all (fun p => l.contains p) && l.all (fun p => decide (0 ≤ p.1) && decide (p.1 < 1000) && decide (0 ≤ p.2) && decide (p.2 < 1000)) &&
  (List.range (l.length - 1)).all fun k => decide ((l.getD k (0, 0)).1 * (l.getD (k + 1) (0, 0)).2 < (l.getD (k + 1) (0, 0)).1 * (l.getD k (0, 0)).2)
def chkF (n : Nat) : Bool := match fgo (n : Int) 400 0 1 1 (n : Int) [(0, 1)] with
  | some l => okL l (dueL n)
  | none => false
theorem chk_all : (List.range 25).all (fun i => chkF (i + 1)) = true := by decide +kernel
theorem chk_at (n : Nat) (h1 : 1 ≤ n) (h2 : n ≤ 25) : ∃ l, fgo (n : Int) 400 0 1 1 (n : Int) [(0, 1)] = some l ∧ okL l (dueL n) = true := by
  have := List.all_eq_true.mp chk_all (n - 1) (List.mem_range.mpr (by omega))
  rw [show n - 1 + 1 = n from by omega] at this
  unfold chkF at this
  split at this
  · exact ⟨_, by assumption, this⟩
  · cases this
end DL
namespace DL
open PySem PySem.Spec PyProof.Rows L2 LW
theorem dueR_len (b : Nat) : (dueR b).length ≤ b + 1 := by
  unfold dueR
  rw [List.length_map]
  exact Nat.le_trans (List.length_filter_le _ _) (by rw [List.length_range]; exact Nat.le_refl _)
theorem dueL_len : ∀ i : Nat, i ≤ 25 → (dueL i).length ≤ 30 * i
  | 0, _ => by simp [dueL]
  | i + 1, h => by
    have := dueL_len i (by omega)
    have := dueR_len (i + 1)
    rw [dueL, List.length_append]
    omega
theorem addPrs (st : S) (a b : List (Int × Int)) (h : a.length + b.length ≤ 10000) : opAdd st (.list (a.map pr)) (.list (b.map pr)) = some (.list ((a ++ b).map pr)) := by
  show (if (a.map pr).length + (b.map pr).length ≤ sizeLine then some (PyData.list (a.map pr ++ b.map pr)) else none) = _
  have e3 : (2 ^ 24 : Nat) = sizeLine := rfl
  rw [if_pos (by rw [List.length_map, List.length_map, ← e3]; omega), List.map_append]
theorem ixPrs (st : S) (l : List (Int × Int)) (i : Nat) (h : i < l.length) : opIx st (.list (l.map pr)) (.int (i : Int)) = some (.tuple [.int (l.getD i (0, 0)).1, .int (l.getD i (0, 0)).2]) := by
  refine opIx_list ?_
  rw [List.getElem?_map, List.getElem?_eq_getElem h]
  simp [pr, h]
theorem llh_ok (st : S) (n : Nat) (h1 : 1 ≤ n) (h2 : n ≤ 25) : m__law_list_holds [.int n] st = .ok (.bool true) st := by
  obtain ⟨l, ef, ok⟩ := chk_at n h1 h2
  unfold okL at ok
  rw [Bool.and_eq_true, Bool.and_eq_true, Bool.and_eq_true] at ok
  obtain ⟨⟨⟨o1, o2⟩, o3⟩, o4⟩ := ok
  have o1 := of_decide_eq_true o1
  have o2 := List.all_eq_true.mp o2
  have o3 := List.all_eq_true.mp o3
  have o4 := List.all_eq_true.mp o4
  have hdl := dueL_len n h2
  rw [m__law_list_holds_eq]
  refine runFn_of (o := .rt (.bool true)) rfl ?_
  have fk := far_ok st n l (by omega) ef
  unfold h__law_list_holds
  refine (seq_nx (st' := st) (env' := [some (.v (.int n)), some (.v (.list (l.map pr))), none, none, none, none, none]) (by simp [startE, fk])).trans ?_
  refine (seq_nx (st' := st) (env' := [some (.v (.int n)), some (.v (.list (l.map pr))), some (.v (.list ((dueL 0).map pr))), none, none, none, none]) (by simp [dueL])).trans ?_
  obtain ⟨env', st', e3, rfl, _, x, rfl⟩ := forGo_ind (tg := tgN 3) (b := b__law_list_holds_0) (fun i env s => s = st ∧ i ≤ n ∧ ∃ (x : Option Sl), env = [some (.v (.int n)), some (.v (.list (l.map pr))), some (.v (.list ((dueL i).map pr))), x, none, none, none])
    (rangeL 1 1 n) 0 [some (.v (.int n)), some (.v (.list (l.map pr))), some (.v (.list ((dueL 0).map pr))), none, none, none, none] st (by
      rintro i d env s hd ⟨rfl, hin, x, rfl⟩
      obtain ⟨hi, rfl⟩ := rangeL_get hd
      rw [show 0 + i = i from by omega]
      obtain ⟨b, eb⟩ : ∃ b : Nat, b = i + 1 := ⟨_, rfl⟩
      have ew : (1 + (i : Int) * 1) = (b : Int) := by omega
      rw [ew]
      have cc : compGo [some (.v (.int n)), some (.v (.list (l.map pr))), some (.v (.list ((dueL i).map pr))), some (.v (.int (b : Int))), none, none, none] (tgN 4) (tV (e2 opEq (callF 2 m__law_common (aCons (eV 4) (aCons (eV 3) aNil))) (eC (.int 1)))) (eTup (aCons (eV 4) (aCons (eV 3) aNil))) (rangeL 0 1 (b + 1)) s = .ok ((dueR b).map pr) s := by
        rw [rangeL_map (h := fun i => .int (i : Int)) (by intro i hi; congr 1; omega)]
        rw [compGo_lst (p := fun (a : Nat) => decide (Nat.gcd a b = 1)) (g := fun (a : Nat) => pr ((a : Int), (b : Int)))]
        · unfold dueR; rw [List.map_map]; rfl
        · intro a ha
          have hg : ((Nat.gcd a b : Nat) : Int) = 1 ↔ Nat.gcd a b = 1 := by omega
          refine ⟨_, rfl, ?_, fun _ => ⟨?_, rfl⟩⟩
          · simp [lcd_ok, hg]
          · simp [pr]
      have hlen := dueL_len i (by omega)
      have hlen2 := dueR_len b
      have ad := addPrs s (dueL i) (dueR b) (by omega)
      refine ⟨[some (.v (.int n)), some (.v (.list (l.map pr))), some (.v (.list ((dueL i).map pr))), some (.v (.int (b : Int))), none, none, none], [some (.v (.int n)), some (.v (.list (l.map pr))), some (.v (.list ((dueL (i + 1)).map pr))), some (.v (.int (b : Int))), none, none, none], s, rfl, ?_, rfl, by omega, _, by rw [show i + 1 = i + 1 from rfl]⟩
      have ec : eL (nComp (iRng rng1D (aCons (e2 opAdd (eV 3) (eC (.int 1))) aNil)) (tgN 4) (tV (e2 opEq (callF 2 m__law_common (aCons (eV 4) (aCons (eV 3) aNil))) (eC (.int 1)))) (eTup (aCons (eV 4) (aCons (eV 3) aNil))) [4]) [some (.v (.int n)), some (.v (.list (l.map pr))), some (.v (.list ((dueL i).map pr))), some (.v (.int (b : Int))), none, none, none] s = .ok (.list ((dueR b).map pr)) s :=
        eL_of (nComp_of (iRng_of (ds := [.int ((b + 1 : Nat) : Int)]) (by simp) (rng1D_nat (b + 1) (Nat.lt_of_le_of_lt (show b + 1 ≤ 100 by omega) (by decide)))) (by rw [rangeL_len]; omega) cc)
      unfold b__law_list_holds_0
      rw [sSet_ap, e2_ap, eV_2, e2a_ok]
      have z : dueL (i + 1) = dueL i ++ dueR b := by rw [eb]; rfl
      rw [z]
      refine Eq.trans (congrArg (fun r => setA 2 _ (e2b opAdd _ r)) ec) ?_
      rw [e2b_ok, ad]
      rfl) ⟨rfl, by omega, none, rfl⟩
  rw [rangeL_len, show 0 + n = n from by omega] at e3
  refine (seq_nx (st' := st') (env' := [some (.v (.int n)), some (.v (.list (l.map pr))), some (.v (.list ((dueL n).map pr))), x, none, none, none]) ?_).trans ?_
  · have r2 := rng2D_ok 1 ((n : Int) + 1) (rngOk_small (by decide) (by decide)) (rngOk_small (by omega) (by omega))
    rw [show ((n : Int) + 1 - 1).toNat = n from by omega] at r2
    exact (sFor_of (iRng_of (ds := [.int 1, .int ((n : Int) + 1)]) (by simp) r2)).trans e3
  have c1 : eL (nComp (iAny (eV 2)) (tgN 5) (tV (e2 (opIn true) (eV 5) (eV 1))) (eV 5) [5]) [some (.v (.int n)), some (.v (.list (l.map pr))), some (.v (.list ((dueL n).map pr))), x, none, none, none] st' = .ok (.list []) st' := by
    refine eL_of (nComp_of (ds := (dueL n).map pr) (st' := st') (by simp) (by rw [List.length_map]; omega) ?_)
    rw [compGo_lst (p := fun q => !l.contains q) (g := pr)]
    · rw [List.filter_eq_nil_iff.mpr]
      · rfl
      · intro q hq
        simp only [o2 q hq]
        decide
    · intro q hq
      refine ⟨_, rfl, ?_, fun _ => ⟨?_, rfl⟩⟩
      · have := opIn_prs (st := st') true l q
        generalize l.map pr = lp at this ⊢
        simp [this]
      · simp
  refine (seq_nx (st' := st') (env' := [some (.v (.int n)), some (.v (.list (l.map pr))), some (.v (.list ((dueL n).map pr))), x, none, none, none]) ?_).trans ?_
  · have q1 : eB opLen (aCons (eV 1) aNil) [some (.v (.int n)), some (.v (.list (l.map pr))), some (.v (.list ((dueL n).map pr))), x, none, none, none] st' = .ok (.int ((dueL n).length : Int)) st' := by
      simp [o1]
    have q2 : eB opLen (aCons (eV 2) aNil) [some (.v (.int n)), some (.v (.list (l.map pr))), some (.v (.list ((dueL n).map pr))), x, none, none, none] st' = .ok (.int ((dueL n).length : Int)) st' := by
      simp
    rw [sIf_ap, tOrF_ap, tV_ap, e2_ap, q1, e2a_ok, q2, e2b_ok, opNe_int, R.ofO_some, tVa_ok, decide_eq_true rfl]
    simp only [Bool.not_true, tOa_f, tV_ap, e2_ap, eB_ap, aCons_ap]
    rw [c1]
    simp
  have c2 : eL (nComp (iRng rng2D (aCons (eC (.int 1)) (aCons (eB opLen (aCons (eV 1) aNil)) aNil))) (tgN 6) (tV (e2 opGe (e2 opMul (e2 opIx (e2 opIx (eV 1) (e2 opSub (eV 6) (eC (.int 1)))) (eC (.int 0))) (e2 opIx (e2 opIx (eV 1) (eV 6)) (eC (.int 1)))) (e2 opMul (e2 opIx (e2 opIx (eV 1) (eV 6)) (eC (.int 0))) (e2 opIx (e2 opIx (eV 1) (e2 opSub (eV 6) (eC (.int 1)))) (eC (.int 1)))))) (eV 6) [6]) [some (.v (.int n)), some (.v (.list (l.map pr))), some (.v (.list ((dueL n).map pr))), x, none, none, none] st' = .ok (.list []) st' := by
    have r2 := rng2D_ok 1 (l.length : Int) (rngOk_small (by decide) (by decide)) (rngOk_small (by omega) (by omega))
    rw [show ((l.length : Int) - 1).toNat = l.length - 1 from by omega] at r2
    have ar : aCons (eC (.int 1)) (aCons (eB opLen (aCons (eV 1) aNil)) aNil) [some (.v (.int n)), some (.v (.list (l.map pr))), some (.v (.list ((dueL n).map pr))), x, none, none, none] st' = .ok [.int 1, .int (l.length : Int)] st' := by
      have ol := opLen_list (st := st') (l.map pr)
      rw [List.length_map] at ol
      generalize l.map pr = lp at ol ⊢
      simp [ol]
    have hll : (rangeL 1 1 (l.length - 1)).length ≤ 10000000 := by
      have : (rangeL 1 1 (l.length - 1)).length = l.length - 1 := rangeL_len 1 1 (l.length - 1)
      omega
    refine eL_of (nComp_of (ds := rangeL 1 1 (l.length - 1)) (st' := st') (iRng_of (st' := st') ar r2) hll ?_)
    rw [rangeL_map (lo := 1) (c := 1) (n := l.length - 1) (h := fun i => .int ((i : Int) + 1)) (fun i hi => congrArg PyData.int (show 1 + (i : Int) * 1 = (i : Int) + 1 by omega))]
    rw [compGo_lst (p := fun _ => false) (g := fun _ => .none)]
    · rw [List.filter_eq_nil_iff.mpr (fun _ _ => by decide)]; rfl
    · intro i hi
      have hi := List.mem_range.mp hi
      refine ⟨_, rfl, ?_, fun z => (nomatch z)⟩
      have lt := of_decide_eq_true (o4 i (List.mem_range.mpr hi))
      have i1 := ixPrs st' l i (by omega)
      have i2 := ixPrs st' l (i + 1) (by omega)
      have bd : ∀ j, j < l.length → (0 ≤ (l.getD j (0, 0)).1 ∧ (l.getD j (0, 0)).1 < 1000) ∧ 0 ≤ (l.getD j (0, 0)).2 ∧ (l.getD j (0, 0)).2 < 1000 := fun j hj => by
        have hm : l.getD j (0, 0) ∈ l := by
          rw [List.getD_eq_getElem?_getD, List.getElem?_eq_getElem hj]
          exact List.getElem_mem hj
        have := o3 _ hm
        generalize l.getD j (0, 0) = q at this ⊢
        simp at this
        omega
      have b1 := bd i (by omega)
      have b2 := bd (i + 1) (by omega)
      push_cast at i2
      generalize l.getD i (0, 0) = p at *
      generalize l.getD (i + 1) (0, 0) = q at *
      obtain ⟨p1, p2⟩ := p
      obtain ⟨q1, q2⟩ := q
      have m1 : mulOk p1 q2 := mulOk_bz (n := 10) (m := 10) (Bz.of (by omega) (by omega)) (Bz.of (by omega) (by omega)) (by decide)
      have m2 : mulOk q1 p2 := mulOk_bz (n := 10) (m := 10) (Bz.of (by omega) (by omega)) (Bz.of (by omega) (by omega)) (by decide)
      have nl : ¬ q1 * p2 ≤ p1 * q2 := by
        simp only at lt; omega
      have hs : (i : Int) + 1 - 1 = (i : Int) := by omega
      generalize l.map pr = lp at i1 i2 ⊢
      simp [hs, i1, i2, m1, m2, nl]
  rw [sRet_ap, e2_ap, eB_ap, aCons_ap, c2]
  simp
end DL
namespace DL
open PySem PySem.Spec PyProof.Rows L2 LW
theorem gcd_mul_ne (k a b : Nat) (h : 1 < k) : ¬ Nat.gcd (k * a) (k * b) = 1 := by
  rw [Nat.gcd_mul_left]
  intro z
  have := Nat.eq_one_of_mul_eq_one_right z
  omega
theorem body_ok (st : S) (w : List Bool) (h : w.length ≤ 200) (a0 a1 a2 a3 a4 a5 a7 a8 a9 : Option Sl) (t : Env) :
    b_law_0 (a0 :: a1 :: a2 :: a3 :: a4 :: a5 :: some (.v (.str (wS w))) :: a7 :: a8 :: a9 :: t) st = .ok (.nx (a0 :: a1 :: a2 :: a3 :: a4 :: a5 :: some (.v (.str (wS w))) :: some (.v (pr (low w))) :: some (.v (pr (high w))) :: some (.v (pr (fr w))) :: t)) st := by
  have f1 := lar_ok st w
  have f2 := lfr_ok st w
  have f3 := fow_ok st w
  have f4 := wof_ok st w (by omega)
  have f5 := bw_ok st w
  have f6 := par_ok st w h
  obtain ⟨z0, z1, z2, z3⟩ := lh_pos w
  have dt := lh_det w
  have hg := fr_gcd w
  have hs := fr_sum w h
  obtain ⟨l1, l2⟩ := fr_lh w
  generalize fr w = x at *
  generalize low w = y at *
  generalize high w = z at *
  obtain ⟨a, b⟩ := x
  obtain ⟨p, q⟩ := y
  obtain ⟨r, s⟩ := z
  dsimp only at *
  have ba : Bz 202 a := Bz.of (by omega) (by omega)
  have bb : Bz 202 b := Bz.of (by omega) (by omega)
  have bp : Bz 202 p := Bz.of (by omega) (by omega)
  have bq : Bz 202 q := Bz.of (by omega) (by omega)
  have br : Bz 202 r := Bz.of (by omega) (by omega)
  have bs : Bz 202 s := Bz.of (by omega) (by omega)
  have up : ∀ {i : Int}, Bz 202 i → Bz 1000 i := fun h => h.mono (by decide)
  have d1 : p * s - q * r = -1 := by grind
  have d2 : p * b - q * a = -1 := by rw [l1, l2]; grind
  have d3 : a * s - b * r = -1 := by rw [l1, l2]; grind
  have n1 := nxt_ok st (up bp) (up bq) (up br) (up bs)
  have n2 := nxt_ok st (up bp) (up bq) (up ba) (up bb)
  have n3 := nxt_ok st (up ba) (up bb) (up br) (up bs)
  have n4 := cir_ok st (up bp) (up bq) (up ba) (up bb)
  rw [d1] at n1
  rw [d2] at n2 n4
  rw [d3] at n3
  have hb0 : 0 < b := by omega
  have i1 := ifp_ok st a b
  rw [decide_eq_true hg, decide_eq_true hb0] at i1
  have i2 := ifp_ok st (2 * a) (2 * b)
  have g2 : ¬ Nat.gcd (2 * a).natAbs (2 * b).natAbs = 1 := by
    rw [Int.natAbs_mul, Int.natAbs_mul]; exact gcd_mul_ne 2 _ _ (by decide)
  have g3 : ¬ Nat.gcd (3 * a).natAbs (3 * b).natAbs = 1 := by
    rw [Int.natAbs_mul, Int.natAbs_mul]; exact gcd_mul_ne 3 _ _ (by decide)
  rw [decide_eq_false g2] at i2
  have b2 : Bz 2 2 := by unfold Bz; decide
  have b3 : Bz 2 3 := by unfold Bz; decide
  have m1 : mulOk 2 a := mulOk_bz b2 ba (by decide)
  have m2 : mulOk 2 b := mulOk_bz b2 bb (by decide)
  have m3 : mulOk 3 a := mulOk_bz b3 ba (by decide)
  have m4 : mulOk 3 b := mulOk_bz b3 bb (by decide)
  have r1 := lrf0_ok st _ (wof_gcd st (3 * a) (3 * b) (by omega) (by omega) g3)
  have r2 : m__law_refused [.int 1, .tuple [.int (2 * a), .int (2 * b)]] st = .ok (.bool true) st := by
    refine lrf1_ok st _ ?_
    have := par_gcd st (2 * a).natAbs (2 * b).natAbs (by omega) (by omega) (by omega) (by omega) g2
    rw [show (((2 * a).natAbs : Nat) : Int) = 2 * a from by omega, show (((2 * b).natAbs : Nat) : Int) = 2 * b from by omega] at this
    exact this
  have r3 := lrf0_ok st _ (wof_neg st (-a) b (by omega))
  have es := opNe_str (st := st) (wS_ok w) (wS_ok w)
  rw [decide_eq_true rfl] at es
  have e22 := opNe_t22 (st := st) p q r s
  have l1' : p + r = a := l1.symm
  have l2' : q + s = b := l2.symm
  simp only [pr] at *
  generalize wS w = W at *
  unfold b_law_0
  refine (seq_nx (st' := st) (env' := (a0 :: a1 :: a2 :: a3 :: a4 :: a5 :: some (.v (.str W)) :: some (.v (.tuple [.int p, .int q])) :: some (.v (.tuple [.int r, .int s])) :: a9 :: t)) (by simp [f1])).trans ?_
  refine (seq_nx (st' := st) (env' := (a0 :: a1 :: a2 :: a3 :: a4 :: a5 :: some (.v (.str W)) :: some (.v (.tuple [.int p, .int q])) :: some (.v (.tuple [.int r, .int s])) :: some (.v (.tuple [.int a, .int b])) :: t)) (by simp [f2])).trans ?_
  refine (seq_nx (st' := st) (env' := (a0 :: a1 :: a2 :: a3 :: a4 :: a5 :: some (.v (.str W)) :: some (.v (.tuple [.int p, .int q])) :: some (.v (.tuple [.int r, .int s])) :: some (.v (.tuple [.int a, .int b])) :: t)) (by simp [f3, f4, f5, f6, es, e22])).trans ?_
  refine (seq_nx (st' := st) (env' := (a0 :: a1 :: a2 :: a3 :: a4 :: a5 :: some (.v (.str W)) :: some (.v (.tuple [.int p, .int q])) :: some (.v (.tuple [.int r, .int s])) :: some (.v (.tuple [.int a, .int b])) :: t)) (by simp [n1, n2, n3, l1', l2'])).trans ?_
  refine (seq_nx (st' := st) (env' := (a0 :: a1 :: a2 :: a3 :: a4 :: a5 :: some (.v (.str W)) :: some (.v (.tuple [.int p, .int q])) :: some (.v (.tuple [.int r, .int s])) :: some (.v (.tuple [.int a, .int b])) :: t)) (by simp [i1, i2, n4, m1, m2])).trans ?_
  simp [r1, r2, r3, m1, m2, m3, m4]
end DL
namespace DL
open PySem PySem.Spec PyProof.Rows L2 LW
theorem bz_fr (w : List Bool) (h : w.length ≤ 200) : Bz 202 (fr w).1 ∧ Bz 202 (fr w).2 := by
  have := fr_pos w
  have := fr_sum w h
  exact ⟨Bz.of (by omega) (by omega), Bz.of (by omega) (by omega)⟩
abbrev env0 : Env := [none, some (.v STT), none, none, none, none, none, none, none, none, none, none, none, none, none]
theorem law_run (st : S) (g0 : Good st) : ∃ st', h_law env0 st = .ok (.rt (.bool true)) st' := by
  obtain ⟨u, st1, y1, hu, g1⟩ := word_ok g0 16 (by decide)
  obtain ⟨k, st2, y2, hk, g2⟩ := draw_nat g1 (u.length + 1) (by omega) (by omega)
  obtain ⟨v', st3, y3, hv', g3⟩ := word_ok g2 9 (by decide)
  obtain ⟨z, st4, y4, hz, g4⟩ := draw_nat g3 25 (by decide) (by decide)
  obtain ⟨z2, st5, y5, hz2, g5⟩ := draw_nat g4 40 (by decide) (by decide)
  have e1' : m__law_word [STT, .int 16] st = .ok (.str (wS u)) st1 := by simpa using y1
  have e2' : m__law_draw [STT, .int ((u.length : Int) + 1)] st1 = .ok (.int (k : Int)) st2 := by simpa using y2
  have e3' : m__law_word [STT, .int 9] st2 = .ok (.str (wS v')) st3 := by simpa using y3
  have e4' : m__law_draw [STT, .int 25] st3 = .ok (.int (z : Int)) st4 := by simpa using y4
  have e5' : m__law_draw [STT, .int 40] st4 = .ok (.int (z2 : Int)) st5 := by simpa using y5
  obtain ⟨v, ev⟩ : ∃ v, v = u.take k ++ v' := ⟨_, rfl⟩
  have hv : v.length ≤ 200 := by
    rw [ev, List.length_append, List.length_take]; omega
  have hu' : u.length ≤ 200 := by omega
  have lu := fun s => opLen_wS s u (by omega)
  have sl := opSl_wS st2 u k (by omega) (by omega)
  have ad := addStr st3 (u.take k) v' (by rw [List.length_take]; omega)
  rw [← ev] at ad
  obtain ⟨c1, c2⟩ := cpl_le u v
  have lp := fun a0 a1 a4 a5 a6 a7 a8 a9 t => lway_loop st3 a0 a1 a4 a5 a6 a7 a8 a9 t u v (by omega) (by omega) (cpl u v) 0 (by omega)
  have lv := fun s => opLen_wS s v (by omega)
  obtain ⟨bu1, bu2⟩ := bz_fr u hu'
  obtain ⟨bv1, bv2⟩ := bz_fr v hv
  have fu := lfr_ok st3 u
  have fv := lfr_ok st3 v
  have w1 := way_ok st3 u v hu' hv
  have w2 := way_ok st3 u u hu' hu'
  rw [way_self] at w2
  obtain ⟨pu1, pu2⟩ := fr_pos u
  have su := fr_sum u hu'
  unfold h_law
  refine ⟨st5, ?_⟩
  refine (seq_nx (st' := st1) (env' := [none, some (.v STT), some (.v (.str (wS u))), none, none, none, none, none, none, none, none, none, none, none, none]) (by simp [e1'])).trans ?_
  refine (seq_nx (st' := st3) (env' := [none, some (.v STT), some (.v (.str (wS u))), some (.v (.str (wS v))), none, none, none, none, none, none, none, none, none, none, none]) (by simp [lu, e2', sl, e3', ad])).trans ?_
  refine (seq_nx (st' := st3) (env' := [none, some (.v STT), some (.v (.str (wS u))), some (.v (.str (wS v))), some (.v (pr (fr u))), none, none, none, none, none, none, none, none, none, none]) (by simp [fu])).trans ?_
  refine (seq_nx (st' := st3) (env' := [none, some (.v STT), some (.v (.str (wS u))), some (.v (.str (wS v))), some (.v (pr (fr u))), some (.v (pr (fr v))), none, none, none, none, none, none, none, none, none]) (by simp [fv])).trans ?_
  refine (seq_nx (st' := st3) (env' := [none, some (.v STT), some (.v (.str (wS u))), some (.v (.str (wS v))), some (.v (pr (fr u))), some (.v (pr (fr v))), some (.v (.str (wS v))), some (.v (pr (low v))), some (.v (pr (high v))), some (.v (pr (fr v))), none, none, none, none, none]) ?_).trans ?_
  · refine (sFor_of (ds := [.str (wS u), .str (wS v)]) (st' := st3) (by simp)).trans ?_
    refine (forGo_cons (st2 := st3) rfl (body_ok st3 u hu' _ _ _ _ _ _ _ _ _ _)).trans ?_
    refine (forGo_cons (st2 := st3) rfl (body_ok st3 v hv _ _ _ _ _ _ _ _ _ _)).trans ?_
    rfl
  refine (seq_nx (st' := st3) (env' := [none, some (.v STT), some (.v (.str (wS u))), some (.v (.str (wS v))), some (.v (pr (fr u))), some (.v (pr (fr v))), some (.v (.str (wS v))), some (.v (pr (low v))), some (.v (pr (high v))), some (.v (pr (fr v))), some (.v (.int 0)), none, none, none, none]) (by simp)).trans ?_
  refine (seq_nx (lp _ _ _ _ _ _ _ _ _)).trans ?_
  generalize hcp : cpl u v = c at c1 c2 w1 ⊢
  generalize pr (low v) = LV
  generalize pr (high v) = HV
  have k1 : ∀ (t : Env), compGo ([none, some (.v STT), some (.v (.str (wS u))), some (.v (.str (wS v))), some (.v (pr (fr u))), some (.v (pr (fr v))), some (.v (.str (wS v))), some (.v LV), some (.v HV), some (.v (pr (fr v))), some (.v (.int (c : Int))), none, none, none, none]) (tgN 12) tYesF (callF 1 m__law_fraction (aCons (eSl (eV 2) oNo (oSo (e2 opSub (eB opLen (aCons (eV 2) aNil)) (eV 12)))) aNil)) (rangeL 0 1 (u.length - c)) st3 = .ok ((wayA u c).map pr) st3 := by
    intro t
    rw [rangeL_map (lo := 0) (c := 1) (n := u.length - c) (h := fun i => .int (i : Int)) (fun i hi => congrArg PyData.int (show 0 + (i : Int) * 1 = (i : Int) by omega))]
    rw [compGo_all (g := fun (i : Nat) => pr (fr (u.take (u.length - i))))]
    · unfold wayA; rw [List.map_map]; rfl
    · intro i hi
      have hi' := List.mem_range.mp hi
      refine ⟨_, rfl, ?_, rfl⟩
      have s1 := opSl_wS st3 u (u.length - i) (by omega) (by omega)
      have ez : ((u.length - i : Nat) : Int) = (u.length : Int) - (i : Int) := by omega
      rw [ez] at s1
      have l3 := lu st3
      generalize (u.length : Int) = ul at s1 l3 ⊢
      simp [l3, s1, lfr_ok]
  have k2 : ∀ (t : Env), compGo ([none, some (.v STT), some (.v (.str (wS u))), some (.v (.str (wS v))), some (.v (pr (fr u))), some (.v (pr (fr v))), some (.v (.str (wS v))), some (.v LV), some (.v HV), some (.v (pr (fr v))), some (.v (.int (c : Int))), none, none, none, none]) (tgN 12) tYesF (callF 1 m__law_fraction (aCons (eSl (eV 3) oNo (oSo (eV 12))) aNil)) (rangeL c 1 (v.length + 1 - c)) st3 = .ok ((wayB v c).map pr) st3 := by
    intro t
    rw [rangeL_map (lo := (c : Int)) (c := 1) (n := v.length + 1 - c) (h := fun i => .int ((c + i : Nat) : Int)) (fun i hi => congrArg PyData.int (show (c : Int) + (i : Int) * 1 = ((c + i : Nat) : Int) by omega))]
    rw [compGo_all (g := fun (i : Nat) => pr (fr (v.take (c + i))))]
    · unfold wayB; rw [List.map_map]; rfl
    · intro i hi
      have hi' := List.mem_range.mp hi
      refine ⟨_, rfl, ?_, rfl⟩
      have := opSl_wS st3 v (c + i) (by omega) (by omega)
      generalize ((c + i : Nat) : Int) = z at this ⊢
      simp [this, lfr_ok]
  have lA : (wayA u c).length + (wayB v c).length ≤ 10000 := by simp [wayA, wayB]; omega
  have wL : wayL u v = wayA u c ++ wayB v c := by unfold wayL; rw [hcp]
  rw [wL] at w1
  refine (seq_nx (st' := st3) (env' := [none, some (.v STT), some (.v (.str (wS u))), some (.v (.str (wS v))), some (.v (pr (fr u))), some (.v (pr (fr v))), some (.v (.str (wS v))), some (.v LV), some (.v HV), some (.v (pr (fr v))), some (.v (.int (c : Int))), some (.v (.list ((wayA u c ++ wayB v c).map pr))), none, none, none]) ?_).trans ?_
  · rw [sSet_ap, e2_ap]
    refine Eq.trans (congrArg (fun r => setA 11 _ (e2a opAdd _ _ r)) (?_ : _ = R.ok (PyData.list ((wayA u c).map pr)) st3)) ?_
    · exact eL_of (nComp_of (ds := rangeL 0 1 (u.length - c)) (st' := st3) (iRng_of (st' := st3) (ds := [.int ((u.length - c : Nat) : Int)]) (by
        have ez : ((u.length - c : Nat) : Int) = (u.length : Int) - (c : Int) := by omega
        rw [ez]
        simp [lu]) (rng1D_nat _ (Nat.lt_of_le_of_lt (show u.length - c ≤ 1000 by omega) (by decide)))) (by rw [rangeL_len]; omega) (k1 []))
    rw [e2a_ok]
    refine Eq.trans (congrArg (fun r => setA 11 _ (e2b opAdd _ r)) (?_ : _ = R.ok (PyData.list ((wayB v c).map pr)) st3)) ?_
    · have r2 := rng2D_ok (c : Int) ((v.length : Int) + 1) (rngOk_small (by omega) (by omega)) (rngOk_small (by omega) (by omega))
      rw [show ((v.length : Int) + 1 - (c : Int)).toNat = v.length + 1 - c from by omega] at r2
      exact eL_of (nComp_of (ds := rangeL c 1 (v.length + 1 - c)) (st' := st3) (iRng_of (st' := st3) (ds := [.int (c : Int), .int ((v.length : Int) + 1)]) (by simp [lv]) r2) (by rw [rangeL_len]; omega) (k2 []))
    rw [e2b_ok, addPrs _ _ _ lA]
    rfl
  have q1 := opNe_prs (st := st3) (wayA u c ++ wayB v c) (wayA u c ++ wayB v c)
  rw [decide_eq_true rfl] at q1
  have q2 : opNe st3 (.list [pr (fr u)]) (.list [pr (fr u)]) = some (.bool false) := by
    have := opNe_prs (st := st3) [fr u] [fr u]
    rw [decide_eq_true rfl] at this
    exact this
  have w2' : m_way_between [pr (fr u), pr (fr u)] st3 = .ok (.list [pr (fr u)]) st3 := w2
  have isu : isD (pr (fr u)) = true := rfl
  generalize (wayA u c ++ wayB v c).map pr = WW at w1 q1 ⊢
  refine (seq_nx (st' := st3) (env' := [none, some (.v STT), some (.v (.str (wS u))), some (.v (.str (wS v))), some (.v (pr (fr u))), some (.v (pr (fr v))), some (.v (.str (wS v))), some (.v LV), some (.v HV), some (.v (pr (fr v))), some (.v (.int (c : Int))), some (.v (.list WW)), none, none, none]) (by simp [w1, w2', q1, q2, isu])).trans ?_
  clear w1 w2 w2' q1 q2 k1 k2 lp wL lA fu fv isu
  generalize fr v = fv at *
  generalize fr u = fu at *
  obtain ⟨a, b⟩ := fu
  obtain ⟨a', b'⟩ := fv
  dsimp only at *
  have up : ∀ {i : Int}, Bz 202 i → Bz 1000 i := fun h => h.mono (by decide)
  have m1 : mulOk a b' := mulOk_bz bu1 bv2 (by decide)
  have m2 : mulOk b a' := mulOk_bz bu2 bv1 (by decide)
  have bx : Bz 500 (a * b' - b * a') := ((bu1.mul bv2).sub (bu2.mul bv1)).mono (by decide)
  have n1 := nxt_ok st3 (up bu1) (up bu2) (up bv1) (up bv2)
  have n2 := cir_ok st3 (up bu1) (up bu2) (up bv1) (up bv2)
  have mx : mulOk (a * b' - b * a') (a * b' - b * a') := mulOk_bz bx bx (by decide)
  have x1 := ifp_ok st3 1 0
  have x2 := ifp_ok st3 (-1) 0
  have x3 := ifp_ok st3 1 (-2)
  rw [show (decide (Nat.gcd (1 : Int).natAbs (0 : Int).natAbs = 1) && (decide ((0 : Int) < 0) || (decide ((1 : Int) = 1) && decide ((0 : Int) = 0)))) = true from by decide] at x1
  rw [show (decide (Nat.gcd (-1 : Int).natAbs (0 : Int).natAbs = 1) && (decide ((0 : Int) < 0) || (decide ((-1 : Int) = 1) && decide ((0 : Int) = 0)))) = false from by decide] at x2
  rw [show (decide (Nat.gcd (1 : Int).natAbs (-2 : Int).natAbs = 1) && (decide ((0 : Int) < -2) || (decide ((1 : Int) = 1) && decide ((-2 : Int) = 0)))) = false from by decide] at x3
  have h14 := llh_ok st4 (1 + z) (by omega) (by omega)
  have hw := lwd_ok st4 (401 + (1 + (z : Int))) (by omega)
  have bb1 := lbest_ok st5 a b (1 + z + z2) (by omega) (by omega) (by omega) (by omega) (by omega) (by omega)
  have bb2 := lbest_ok st5 a b (min b 60).toNat (by omega) (by omega) (by omega) (by omega) (by omega) (by omega)
  rw [show (((min b 60).toNat : Nat) : Int) = min b 60 from by omega] at bb2
  push_cast at h14 bb1
  have lt := ltr_ok st3 (decide ((a * b' - b * a').natAbs = 1)) (decide ((a * b' - b * a').natAbs = 1)) rfl
  have hd : decide ((((a * b' - b * a').natAbs : Nat) : Int) = 1) = decide ((a * b' - b * a').natAbs = 1) := by
    by_cases h : (a * b' - b * a').natAbs = 1
    · rw [h]; rfl
    · rw [decide_eq_false h, decide_eq_false (by omega)]
  simp only [pr]
  generalize hX : a * b' - b * a' = X at *
  refine (seq_nx (st' := st3) (env' := [none, some (.v STT), some (.v (.str (wS u))), some (.v (.str (wS v))), some (.v (.tuple [.int a, .int b])), some (.v (.tuple [.int a', .int b'])), some (.v (.str (wS v))), some (.v LV), some (.v HV), some (.v (.tuple [.int a', .int b'])), some (.v (.int (c : Int))), some (.v (.list WW)), none, some (.v (.int X)), none]) (by simp [m1, m2, hX])).trans ?_
  refine (seq_nx (st' := st3) (env' := [none, some (.v STT), some (.v (.str (wS u))), some (.v (.str (wS v))), some (.v (.tuple [.int a, .int b])), some (.v (.tuple [.int a', .int b'])), some (.v (.str (wS v))), some (.v LV), some (.v HV), some (.v (.tuple [.int a', .int b'])), some (.v (.int (c : Int))), some (.v (.list WW)), none, some (.v (.int X)), none]) (by simp [n1, n2, mx, hd, lt])).trans ?_
  refine (seq_nx (st' := st3) (env' := [none, some (.v STT), some (.v (.str (wS u))), some (.v (.str (wS v))), some (.v (.tuple [.int a, .int b])), some (.v (.tuple [.int a', .int b'])), some (.v (.str (wS v))), some (.v LV), some (.v HV), some (.v (.tuple [.int a', .int b'])), some (.v (.int (c : Int))), some (.v (.list WW)), none, some (.v (.int X)), none]) (by simp [x1, x2, x3])).trans ?_
  refine (seq_nx (st' := st4) (env' := [none, some (.v STT), some (.v (.str (wS u))), some (.v (.str (wS v))), some (.v (.tuple [.int a, .int b])), some (.v (.tuple [.int a', .int b'])), some (.v (.str (wS v))), some (.v LV), some (.v HV), some (.v (.tuple [.int a', .int b'])), some (.v (.int (c : Int))), some (.v (.list WW)), none, some (.v (.int X)), some (.v (.int (1 + (z : Int))))]) (by simp [e4'])).trans ?_
  refine (seq_nx (st' := st4) (env' := [none, some (.v STT), some (.v (.str (wS u))), some (.v (.str (wS v))), some (.v (.tuple [.int a, .int b])), some (.v (.tuple [.int a', .int b'])), some (.v (.str (wS v))), some (.v LV), some (.v HV), some (.v (.tuple [.int a', .int b'])), some (.v (.int (c : Int))), some (.v (.list WW)), none, some (.v (.int X)), some (.v (.int (1 + (z : Int))))]) (by simp [h14, hw])).trans ?_
  simp [e5', bb1, bb2]
end DL
namespace LW
open DL
theorem law_holds (ns : List Int) (h : ns.length ≤ 63) : ∃ st', g_law ((List.replicate 15 none).set 1 (some (.v STT))) ⟨ns, 0, 0, 0, false⟩ = .ok (.rt (.bool true)) st' := by
  rw [g_law_eq]
  exact law_run _ (good0 ns)
end LW
namespace LW
open PySem PySem.Spec PyProof.Rows L2 DL
section
variable {P : Program} {w : World} {K : PySem.W.Frag} {mg : Str → Option Value} {base : Heap}
theorem sc_common_divisor : FnScope ["one", "other"] ["one", "other"] (defScope s_common_divisor) := ⟨rfl, rfl, rfl, by decide +kernel, rfl, by decide +kernel, by decide +kernel⟩
theorem ok_common_divisor {f : Addr} {fd : FuncData} (z_abs : mg "abs" = none)
    (F : Fun K "common_divisor" "common_divisor" s_common_divisor f fd) (hm : mg "common_divisor" = some (.ref f)) (hb : Binds K fd ["one", "other"] []) : Cal P w K mg base 1 "common_divisor" ["one", "other"] m_common_divisor := by
  refine cal_ok F hm hb sc_common_divisor fun cdv A outer s H E hr => ?_
  exact ⟨_, (dss_cons (ds_par2 (i := 0) (j := 1) sc_common_divisor.nd (da_cons (de_B b_abs z_abs (by decide +kernel) (dap_cons (dp_of (de_v 0)) dap_nil)) (da_cons (de_B b_abs z_abs (by decide +kernel) (dap_cons (dp_of (de_v 1)) dap_nil)) da_nil)) (by decide))
  (dss_cons (ds_while (passes_of rfl) (dt_cmp (c_ne hr) (de_v 1) de_int (nomark _)) (dss_one (ds_par2 (i := 0) (j := 1) sc_common_divisor.nd (da_cons (de_v 1) (da_cons (de_mod (de_v 0) (de_v 1)) da_nil)) (by decide))))
  (dss_one (ds_ret (de_v 0)))))⟩
theorem sc_combined : FnScope ["one", "other", "first", "second", "count"] ["one", "other"] (defScope s_combined) := ⟨rfl, rfl, rfl, by decide +kernel, rfl, by decide +kernel, by decide +kernel⟩
theorem ok_combined {f : Addr} {fd : FuncData} 
    (F : Fun K "combined" "combined" s_combined f fd) (hm : mg "combined" = some (.ref f)) (hb : Binds K fd ["one", "other"] []) : Cal P w K mg base 1 "combined" ["one", "other"] m_combined := by
  refine cal_ok F hm hb sc_combined fun cdv A outer s H E hr => ?_
  exact ⟨_, (dss_cons (ds_asg (de_tup (da_cons (de_tup (da_cons de_int (da_cons de_int da_nil))) (da_cons (de_tup (da_cons de_int (da_cons de_int da_nil))) da_nil))) (dg_tup (dgs_cons (dg_name (i := 2) sc_combined.nd) (dgs_cons (dg_name (i := 3) sc_combined.nd) dgs_nil))))
  (dss_cons (ds_while (passes_of rfl) (dt_cmp (c_ne hr) (de_v 1) de_int (nomark _)) (dss_cons (ds_set (i := 4) sc_combined.nd (de_div (de_v 0) (de_v 1)))
  (dss_cons (ds_par2 (i := 0) (j := 1) sc_combined.nd (da_cons (de_v 1) (da_cons (de_sub (de_v 0) (de_mul (de_v 4) (de_v 1))) da_nil)) (by decide))
  (dss_one (ds_par2 (i := 2) (j := 3) sc_combined.nd (da_cons (de_v 3) (da_cons (de_tup (da_cons (de_sub (de_ixP (dp_of (de_v 2)) (dp_of de_int) (fun _ _ => rfl)) (de_mul (de_v 4) (de_ixP (dp_of (de_v 3)) (dp_of de_int) (fun _ _ => rfl)))) (da_cons (de_sub (de_ixP (dp_of (de_v 2)) (dp_of de_int) (fun _ _ => rfl)) (de_mul (de_v 4) (de_ixP (dp_of (de_v 3)) (dp_of de_int) (fun _ _ => rfl)))) da_nil))) da_nil)) (by decide))))))
  (dss_cons (ds_if (dt_cmp c_lt (de_v 0) de_int (nomark _)) (dss_one (ds_ret (de_tup (da_cons (de_neg (de_v 0)) (da_cons (de_neg (de_ixP (dp_of (de_v 2)) (dp_of de_int) (fun _ _ => rfl))) (da_cons (de_neg (de_ixP (dp_of (de_v 2)) (dp_of de_int) (fun _ _ => rfl))) da_nil)))))) dss_nil)
  (dss_one (ds_ret (de_tup (da_cons (de_v 0) (da_cons (de_ixP (dp_of (de_v 2)) (dp_of de_int) (fun _ _ => rfl)) (da_cons (de_ixP (dp_of (de_v 2)) (dp_of de_int) (fun _ _ => rfl)) da_nil)))))))))⟩
theorem sc_is_fraction_pair : FnScope ["value"] ["value"] (defScope s_is_fraction_pair) := ⟨rfl, rfl, rfl, by decide +kernel, rfl, by decide +kernel, by decide +kernel⟩
theorem ok_is_fraction_pair {f : Addr} {fd : FuncData} (c_common_divisor : Cal P w K mg base 1 "common_divisor" ["one", "other"] m_common_divisor)
    (F : Fun K "is_fraction_pair" "is_fraction_pair" s_is_fraction_pair f fd) (hm : mg "is_fraction_pair" = some (.ref f)) (hb : Binds K fd ["value"] []) : Cal P w K mg base 2 "is_fraction_pair" ["value"] m_is_fraction_pair := by
  refine cal_ok F hm hb sc_is_fraction_pair fun cdv A outer s H E hr => ?_
  exact ⟨_, (dss_one (ds_ret (de_and (de_cmp (c_eq hr) (de_call (c_common_divisor.mono (by decide)) hr (takes_of rfl rfl rfl rfl) (da_cons (de_ixP (dp_of (de_v 0)) (dp_of de_int) (fun _ _ => rfl)) (da_cons (de_ixP (dp_of (de_v 0)) (dp_of de_int) (fun _ _ => rfl)) da_nil))) de_int (nomark _)) (de_one (de_or (de_cmp c_gt (de_ixP (dp_of (de_v 0)) (dp_of de_int) (fun _ _ => rfl)) de_int (nomark _)) (de_one (de_cmp (c_eq hr) (de_v 0) (de_tup (da_cons de_int (da_cons de_int da_nil))) (nomark _))))))))⟩
theorem sc_farey_list : FnScope ["size", "found", "a", "b", "c", "d", "turn"] ["size"] (defScope s_farey_list) := ⟨rfl, rfl, rfl, by decide +kernel, rfl, by decide +kernel, by decide +kernel⟩
theorem ok_farey_list {f : Addr} {fd : FuncData} {tk_MOST_FAREY : Tok} (k_MOST_FAREY : mg "MOST_FAREY" = some (.int 400 tk_MOST_FAREY))
    {CTooLarge : Addr} (x_TooLarge : ErrC K mg "TooLarge" CTooLarge)
    (F : Fun K "farey_list" "farey_list" s_farey_list f fd) (hm : mg "farey_list" = some (.ref f)) (hb : Binds K fd ["size"] []) : Cal P w K mg base 1 "farey_list" ["size"] m_farey_list := by
  refine cal_ok F hm hb sc_farey_list fun cdv A outer s H E hr => ?_
  exact ⟨_, (dss_cons (ds_if (dt_cmp c_gt (de_v 0) (de_glI k_MOST_FAREY) (nomark _)) (dss_one (ds_raise x_TooLarge (takes_of rfl rfl rfl rfl))) dss_nil)
  (dss_cons (ds_new (i := 1) sc_farey_list.nd (dn_lst (da_cons (de_tup (da_cons de_int (da_cons de_int da_nil))) da_nil)))
  (dss_cons (ds_asg (de_tup (da_cons de_int (da_cons de_int (da_cons de_int (da_cons (de_v 0) da_nil))))) (dg_tup (dgs_cons (dg_name (i := 2) sc_farey_list.nd) (dgs_cons (dg_name (i := 3) sc_farey_list.nd) (dgs_cons (dg_name (i := 4) sc_farey_list.nd) (dgs_cons (dg_name (i := 5) sc_farey_list.nd) dgs_nil))))))
  (dss_cons (ds_while (passes_of rfl) (dt_cmp c_le (de_v 4) (de_v 5) (nomark _)) (dss_cons (ds_app 1 (de_tup (da_cons (de_v 4) (da_cons (de_v 5) da_nil))))
  (dss_cons (ds_set (i := 6) sc_farey_list.nd (de_div (de_add (de_v 0) (de_v 3)) (de_v 5)))
  (dss_cons (ds_asg (de_tup (da_cons (de_v 4) (da_cons (de_v 5) (da_cons (de_sub (de_mul (de_v 6) (de_v 4)) (de_v 2)) (da_cons (de_sub (de_mul (de_v 6) (de_v 5)) (de_v 3)) da_nil))))) (dg_tup (dgs_cons (dg_name (i := 2) sc_farey_list.nd) (dgs_cons (dg_name (i := 3) sc_farey_list.nd) (dgs_cons (dg_name (i := 4) sc_farey_list.nd) (dgs_cons (dg_name (i := 5) sc_farey_list.nd) dgs_nil))))))
  (dss_one (ds_if (dt_cmp (c_eq hr) (de_ixP (dp_pk 1) (dp_of (de_neg de_int)) (fun _ _ => rfl)) (de_tup (da_cons de_int (da_cons de_int da_nil))) (nomark _)) (dss_one ds_brk) dss_nil))))))
  (dss_frz 1 (dss_one (ds_ret (de_v 1))))))))⟩
theorem sc_is_next_to : FnScope ["one", "other"] ["one", "other"] (defScope s_is_next_to) := ⟨rfl, rfl, rfl, by decide +kernel, rfl, by decide +kernel, by decide +kernel⟩
theorem ok_is_next_to {f : Addr} {fd : FuncData} (z_abs : mg "abs" = none)
    (F : Fun K "is_next_to" "is_next_to" s_is_next_to f fd) (hm : mg "is_next_to" = some (.ref f)) (hb : Binds K fd ["one", "other"] []) : Cal P w K mg base 1 "is_next_to" ["one", "other"] m_is_next_to := by
  refine cal_ok F hm hb sc_is_next_to fun cdv A outer s H E hr => ?_
  exact ⟨_, (dss_one (ds_ret (de_cmp (c_eq hr) (de_B b_abs z_abs (by decide +kernel) (dap_cons (dp_of (de_sub (de_mul (de_ixP (dp_of (de_v 0)) (dp_of de_int) (fun _ _ => rfl)) (de_ixP (dp_of (de_v 1)) (dp_of de_int) (fun _ _ => rfl))) (de_mul (de_ixP (dp_of (de_v 0)) (dp_of de_int) (fun _ _ => rfl)) (de_ixP (dp_of (de_v 1)) (dp_of de_int) (fun _ _ => rfl))))) dap_nil)) de_int (nomark _))))⟩
theorem sc_mediant : FnScope ["one", "other"] ["one", "other"] (defScope s_mediant) := ⟨rfl, rfl, rfl, by decide +kernel, rfl, by decide +kernel, by decide +kernel⟩
theorem ok_mediant {f : Addr} {fd : FuncData} 
    (F : Fun K "mediant" "mediant" s_mediant f fd) (hm : mg "mediant" = some (.ref f)) (hb : Binds K fd ["one", "other"] []) : Cal P w K mg base 1 "mediant" ["one", "other"] m_mediant := by
  refine cal_ok F hm hb sc_mediant fun cdv A outer s H E hr => ?_
  exact ⟨_, (dss_one (ds_ret (de_tup (da_cons (de_add (de_ixP (dp_of (de_v 0)) (dp_of de_int) (fun _ _ => rfl)) (de_ixP (dp_of (de_v 1)) (dp_of de_int) (fun _ _ => rfl))) (da_cons (de_add (de_ixP (dp_of (de_v 0)) (dp_of de_int) (fun _ _ => rfl)) (de_ixP (dp_of (de_v 1)) (dp_of de_int) (fun _ _ => rfl))) da_nil)))))⟩
theorem sc_parents_of : FnScope ["fraction", "above", "below", "divisor", "first", "_", "lesser_below", "lesser_above"] ["fraction"] (defScope s_parents_of) := ⟨rfl, rfl, rfl, by decide +kernel, rfl, by decide +kernel, by decide +kernel⟩
theorem ok_parents_of {f : Addr} {fd : FuncData} (c_combined : Cal P w K mg base 1 "combined" ["one", "other"] m_combined)
    {CNotPossible : Addr} (x_NotPossible : ErrC K mg "NotPossible" CNotPossible)
    (F : Fun K "parents_of" "parents_of" s_parents_of f fd) (hm : mg "parents_of" = some (.ref f)) (hb : Binds K fd ["fraction"] []) : Cal P w K mg base 2 "parents_of" ["fraction"] m_parents_of := by
  refine cal_ok F hm hb sc_parents_of fun cdv A outer s H E hr => ?_
  exact ⟨_, (dss_cons (ds_asg (de_v 0) (dg_tup (dgs_cons (dg_name (i := 1) sc_parents_of.nd) (dgs_cons (dg_name (i := 2) sc_parents_of.nd) dgs_nil))))
  (dss_cons (ds_if (DW.dt (dw_or (dt_cmp c_lt (de_v 1) de_int (nomark _)) (dw_or1 (dt_cmp c_lt (de_v 2) de_int (nomark _))))) (dss_one (ds_raise x_NotPossible (takes_of rfl rfl rfl rfl))) dss_nil)
  (dss_cons (ds_asg (de_call (c_combined.mono (by decide)) hr (takes_of rfl rfl rfl rfl) (da_cons (de_v 1) (da_cons (de_v 2) da_nil))) (dg_tup (dgs_cons (dg_name (i := 3) sc_parents_of.nd) (dgs_cons (dg_name (i := 4) sc_parents_of.nd) (dgs_cons (dg_name (i := 5) sc_parents_of.nd) dgs_nil)))))
  (dss_cons (ds_if (dt_cmp (c_ne hr) (de_v 3) de_int (nomark _)) (dss_one (ds_raise x_NotPossible (takes_of rfl rfl rfl rfl))) dss_nil)
  (dss_cons (ds_set (i := 6) sc_parents_of.nd (de_if (dt_cmp c_gt (de_v 2) de_int (nomark _)) (de_mod (de_v 4) (de_v 2)) de_int))
  (dss_cons (ds_set (i := 7) sc_parents_of.nd (de_div (de_sub (de_mul (de_v 1) (de_v 6)) de_int) (de_v 2)))
  (dss_one (ds_ret (de_tup (da_cons (de_tup (da_cons (de_v 7) (da_cons (de_v 6) da_nil))) (da_cons (de_tup (da_cons (de_sub (de_v 1) (de_v 7)) (da_cons (de_sub (de_v 2) (de_v 6)) da_nil))) da_nil)))))))))))⟩
theorem sc_word_of_fraction : FnScope ["fraction", "above", "below", "word"] ["fraction"] (defScope s_word_of_fraction) := ⟨rfl, rfl, rfl, by decide +kernel, rfl, by decide +kernel, by decide +kernel⟩
theorem ok_word_of_fraction {f : Addr} {fd : FuncData} (c_common_divisor : Cal P w K mg base 1 "common_divisor" ["one", "other"] m_common_divisor)
    {CNotPossible : Addr} (x_NotPossible : ErrC K mg "NotPossible" CNotPossible)
    (F : Fun K "word_of_fraction" "word_of_fraction" s_word_of_fraction f fd) (hm : mg "word_of_fraction" = some (.ref f)) (hb : Binds K fd ["fraction"] []) : Cal P w K mg base 2 "word_of_fraction" ["fraction"] m_word_of_fraction := by
  refine cal_ok F hm hb sc_word_of_fraction fun cdv A outer s H E hr => ?_
  exact ⟨_, (dss_cons (ds_asg (de_v 0) (dg_tup (dgs_cons (dg_name (i := 1) sc_word_of_fraction.nd) (dgs_cons (dg_name (i := 2) sc_word_of_fraction.nd) dgs_nil))))
  (dss_cons (ds_if (DW.dt (dw_or (dt_cmp c_lt (de_v 1) de_int (nomark _)) (dw_or (dt_cmp c_lt (de_v 2) de_int (nomark _)) (dw_or1 (dt_cmp (c_ne hr) (de_call (c_common_divisor.mono (by decide)) hr (takes_of rfl rfl rfl rfl) (da_cons (de_v 1) (da_cons (de_v 2) da_nil))) de_int (nomark _)))))) (dss_one (ds_raise x_NotPossible (takes_of rfl rfl rfl rfl))) dss_nil)
  (dss_cons (ds_set (i := 3) sc_word_of_fraction.nd de_str)
  (dss_cons (ds_while (passes_of rfl) (dt_cmp (c_ne hr) (de_v 1) (de_v 2) (nomark _)) (dss_one (ds_if (dt_cmp c_gt (de_v 1) (de_v 2) (nomark _)) (dss_cons (ds_aug (i := 3) sc_word_of_fraction.nd i_add de_str)
  (dss_one (ds_aug (i := 1) sc_word_of_fraction.nd i_sub (de_v 2)))) (dss_cons (ds_aug (i := 3) sc_word_of_fraction.nd i_add de_str)
  (dss_one (ds_aug (i := 2) sc_word_of_fraction.nd i_sub (de_v 1)))))))
  (dss_one (ds_ret (de_v 3)))))))⟩
theorem sc_fraction_of_word : FnScope ["word", "low", "high", "letter", "middle"] ["word"] (defScope s_fraction_of_word) := ⟨rfl, rfl, rfl, by decide +kernel, rfl, by decide +kernel, by decide +kernel⟩
theorem ok_fraction_of_word {f : Addr} {fd : FuncData} (c_mediant : Cal P w K mg base 1 "mediant" ["one", "other"] m_mediant)
    (F : Fun K "fraction_of_word" "fraction_of_word" s_fraction_of_word f fd) (hm : mg "fraction_of_word" = some (.ref f)) (hb : Binds K fd ["word"] []) : Cal P w K mg base 2 "fraction_of_word" ["word"] m_fraction_of_word := by
  refine cal_ok F hm hb sc_fraction_of_word fun cdv A outer s H E hr => ?_
  exact ⟨_, (dss_cons (ds_asg (de_tup (da_cons (de_tup (da_cons de_int (da_cons de_int da_nil))) (da_cons (de_tup (da_cons de_int (da_cons de_int da_nil))) da_nil))) (dg_tup (dgs_cons (dg_name (i := 1) sc_fraction_of_word.nd) (dgs_cons (dg_name (i := 2) sc_fraction_of_word.nd) dgs_nil))))
  (dss_cons (ds_for (passes_of rfl) (di_any (de_v 0)) (dg_name (i := 3) sc_fraction_of_word.nd) (dss_cons (ds_set (i := 4) sc_fraction_of_word.nd (de_call (c_mediant.mono (by decide)) hr (takes_of rfl rfl rfl rfl) (da_cons (de_v 1) (da_cons (de_v 2) da_nil))))
  (dss_one (ds_if (dt_cmp (c_eq hr) (de_v 3) de_str (nomark _)) (dss_one (ds_set (i := 1) sc_fraction_of_word.nd (de_v 4))) (dss_one (ds_set (i := 2) sc_fraction_of_word.nd (de_v 4)))))))
  (dss_one (ds_ret (de_call (c_mediant.mono (by decide)) hr (takes_of rfl rfl rfl rfl) (da_cons (de_v 1) (da_cons (de_v 2) da_nil)))))))⟩
theorem sc_between_word : FnScope ["word", "low", "high", "letter", "middle"] ["word"] (defScope s_between_word) := ⟨rfl, rfl, rfl, by decide +kernel, rfl, by decide +kernel, by decide +kernel⟩
theorem ok_between_word {f : Addr} {fd : FuncData} (c_mediant : Cal P w K mg base 1 "mediant" ["one", "other"] m_mediant)
    (F : Fun K "between_word" "between_word" s_between_word f fd) (hm : mg "between_word" = some (.ref f)) (hb : Binds K fd ["word"] []) : Cal P w K mg base 2 "between_word" ["word"] m_between_word := by
  refine cal_ok F hm hb sc_between_word fun cdv A outer s H E hr => ?_
  exact ⟨_, (dss_cons (ds_asg (de_tup (da_cons (de_tup (da_cons de_int (da_cons de_int da_nil))) (da_cons (de_tup (da_cons de_int (da_cons de_int da_nil))) da_nil))) (dg_tup (dgs_cons (dg_name (i := 1) sc_between_word.nd) (dgs_cons (dg_name (i := 2) sc_between_word.nd) dgs_nil))))
  (dss_cons (ds_for (passes_of rfl) (di_any (de_v 0)) (dg_name (i := 3) sc_between_word.nd) (dss_cons (ds_set (i := 4) sc_between_word.nd (de_call (c_mediant.mono (by decide)) hr (takes_of rfl rfl rfl rfl) (da_cons (de_v 1) (da_cons (de_v 2) da_nil))))
  (dss_one (ds_if (dt_cmp (c_eq hr) (de_v 3) de_str (nomark _)) (dss_one (ds_set (i := 1) sc_between_word.nd (de_v 4))) (dss_one (ds_set (i := 2) sc_between_word.nd (de_v 4)))))))
  (dss_one (ds_ret (de_tup (da_cons (de_v 1) (da_cons (de_v 2) da_nil)))))))⟩
theorem sc_way_between : FnScope ["one", "other", "first", "second", "count", "found", "place"] ["one", "other"] (defScope s_way_between) := ⟨rfl, rfl, rfl, by decide +kernel, rfl, by decide +kernel, by decide +kernel⟩
theorem ok_way_between {f : Addr} {fd : FuncData} (c_word_of_fraction : Cal P w K mg base 2 "word_of_fraction" ["fraction"] m_word_of_fraction)
    (c_fraction_of_word : Cal P w K mg base 2 "fraction_of_word" ["word"] m_fraction_of_word)
    (z_len : mg "len" = none)
    (z_min : mg "min" = none)
    (z_range : mg "range" = none)
    (F : Fun K "way_between" "way_between" s_way_between f fd) (hm : mg "way_between" = some (.ref f)) (hb : Binds K fd ["one", "other"] []) : Cal P w K mg base 3 "way_between" ["one", "other"] m_way_between := by
  refine cal_ok F hm hb sc_way_between fun cdv A outer s H E hr => ?_
  exact ⟨_, (dss_cons (ds_asg (de_tup (da_cons (de_call (c_word_of_fraction.mono (by decide)) hr (takes_of rfl rfl rfl rfl) (da_cons (de_v 0) da_nil)) (da_cons (de_call (c_word_of_fraction.mono (by decide)) hr (takes_of rfl rfl rfl rfl) (da_cons (de_v 1) da_nil)) da_nil))) (dg_tup (dgs_cons (dg_name (i := 2) sc_way_between.nd) (dgs_cons (dg_name (i := 3) sc_way_between.nd) dgs_nil))))
  (dss_cons (ds_set (i := 4) sc_way_between.nd de_int)
  (dss_cons (ds_while (passes_of rfl) (DW.dt (dw_and (dt_cmp c_lt (de_v 4) (de_B (b_min2) z_min (by decide +kernel) (dap_cons (dp_of (de_B b_len z_len (by decide +kernel) (dap_cons (dp_of (de_v 2)) dap_nil))) (dap_cons (dp_of (de_B b_len z_len (by decide +kernel) (dap_cons (dp_of (de_v 3)) dap_nil))) dap_nil))) (nomark _)) (dw_and1 (dt_cmp (c_eq hr) (de_ixP (dp_of (de_v 2)) (dp_of (de_v 4)) (fun _ _ => rfl)) (de_ixP (dp_of (de_v 3)) (dp_of (de_v 4)) (fun _ _ => rfl)) (nomark _))))) (dss_one (ds_aug (i := 4) sc_way_between.nd i_add de_int)))
  (dss_cons (ds_newC (i := 5) sc_way_between.nd (blkOk_by (own := [("place", 6)]) (N := ["one", "other", "first", "second", "count", "found", "place"]) (sc := defScope s_way_between) (by decide +kernel)) (di_rng3 z_range (da_cons (de_B b_len z_len (by decide +kernel) (dap_cons (dp_of (de_v 2)) dap_nil)) (da_cons (de_v 4) (da_cons (de_neg de_int) da_nil)))) (fun _ _ _ _ _ => (dg_name (i := 6) sc_way_between.nd)) (fun _ _ _ _ _ => dts_nil) (fun _ _ _ _ _ => (de_call (c_fraction_of_word.mono (by decide)) hr takes0 (da_cons (de_sl (dp_of (de_v 2)) do_no (do_so (de_v 6))) da_nil))) (by decide) s)
  (dss_cons (ds_ext 5 (de_n (dn_comp sc_way_between.nd (blkOk_by (own := [("place", 6)]) (N := ["one", "other", "first", "second", "count", "found", "place"]) (sc := defScope s_way_between) (by decide +kernel)) (di_rng2 z_range (da_cons (de_v 4) (da_cons (de_add (de_B b_len z_len (by decide +kernel) (dap_cons (dp_of (de_v 3)) dap_nil)) de_int) da_nil))) (fun _ _ _ _ _ => (dg_name (i := 6) sc_way_between.nd)) (fun _ _ _ _ _ => dts_nil) (fun _ _ _ _ _ => (de_call (c_fraction_of_word.mono (by decide)) hr takes0 (da_cons (de_sl (dp_of (de_v 3)) do_no (do_so (de_v 6))) da_nil))) (by decide) s)))
  (dss_frz 5 (dss_one (ds_ret (de_v 5)))))))))⟩
theorem sc_best_below : FnScope ["size", "above", "below", "best", "lower", "upper", "divisor"] ["size", "above", "below"] (defScope s_best_below) := ⟨rfl, rfl, rfl, by decide +kernel, rfl, by decide +kernel, by decide +kernel⟩
theorem ok_best_below {f : Addr} {fd : FuncData} (c_common_divisor : Cal P w K mg base 1 "common_divisor" ["one", "other"] m_common_divisor)
    (z_range : mg "range" = none)
    (F : Fun K "best_below" "best_below" s_best_below f fd) (hm : mg "best_below" = some (.ref f)) (hb : Binds K fd ["size", "above", "below"] []) : Cal P w K mg base 2 "best_below" ["size", "above", "below"] m_best_below := by
  refine cal_ok F hm hb sc_best_below fun cdv A outer s H E hr => ?_
  exact ⟨_, (dss_cons (ds_set (i := 3) sc_best_below.nd (de_tup (da_cons de_int (da_cons de_int da_nil))))
  (dss_cons (ds_for (passes_of rfl) (di_rng2 z_range (da_cons de_int (da_cons (de_add (de_v 0) de_int) da_nil))) (dg_name (i := 4) sc_best_below.nd) (dss_cons (ds_set (i := 5) sc_best_below.nd (de_div (de_mul (de_v 1) (de_v 4)) (de_v 2)))
  (dss_one (ds_if (dt_cmp c_gt (de_mul (de_v 5) (de_ixP (dp_of (de_v 3)) (dp_of de_int) (fun _ _ => rfl))) (de_mul (de_ixP (dp_of (de_v 3)) (dp_of de_int) (fun _ _ => rfl)) (de_v 4)) (nomark _)) (dss_one (ds_set (i := 3) sc_best_below.nd (de_tup (da_cons (de_v 5) (da_cons (de_v 4) da_nil))))) dss_nil))))
  (dss_cons (ds_set (i := 6) sc_best_below.nd (de_call (c_common_divisor.mono (by decide)) hr (takes_of rfl rfl rfl rfl) (da_cons (de_ixP (dp_of (de_v 3)) (dp_of de_int) (fun _ _ => rfl)) (da_cons (de_ixP (dp_of (de_v 3)) (dp_of de_int) (fun _ _ => rfl)) da_nil))))
  (dss_one (ds_ret (de_tup (da_cons (de_div (de_ixP (dp_of (de_v 3)) (dp_of de_int) (fun _ _ => rfl)) (de_v 6)) (da_cons (de_div (de_ixP (dp_of (de_v 3)) (dp_of de_int) (fun _ _ => rfl)) (de_v 6)) da_nil))))))))⟩
theorem sc_circle_touch : FnScope ["one", "other", "cross"] ["one", "other"] (defScope s_circle_touch) := ⟨rfl, rfl, rfl, by decide +kernel, rfl, by decide +kernel, by decide +kernel⟩
theorem ok_circle_touch {f : Addr} {fd : FuncData} 
    (F : Fun K "circle_touch" "circle_touch" s_circle_touch f fd) (hm : mg "circle_touch" = some (.ref f)) (hb : Binds K fd ["one", "other"] []) : Cal P w K mg base 1 "circle_touch" ["one", "other"] m_circle_touch := by
  refine cal_ok F hm hb sc_circle_touch fun cdv A outer s H E hr => ?_
  exact ⟨_, (dss_cons (ds_set (i := 2) sc_circle_touch.nd (de_sub (de_mul (de_ixP (dp_of (de_v 0)) (dp_of de_int) (fun _ _ => rfl)) (de_ixP (dp_of (de_v 1)) (dp_of de_int) (fun _ _ => rfl))) (de_mul (de_ixP (dp_of (de_v 0)) (dp_of de_int) (fun _ _ => rfl)) (de_ixP (dp_of (de_v 1)) (dp_of de_int) (fun _ _ => rfl)))))
  (dss_one (ds_ret (de_sub (de_mul (de_v 2) (de_v 2)) de_int))))⟩
theorem sc__law_state : FnScope ["script"] ["script"] (defScope s__law_state) := ⟨rfl, rfl, rfl, by decide +kernel, rfl, by decide +kernel, by decide +kernel⟩
theorem ok__law_state {f : Addr} {fd : FuncData} (F : Fun K "_law_state" "_law_state" s__law_state f fd) (ml : mg "list" = none) : FnOk P w K mg base (L2.CX P w) 1 f fd ["script"] (spState K) := by
  refine F.okX sc__law_state (fun vs H Q E h => by obtain ⟨a, ns, rfl, _⟩ := h; rfl) (fun cdv A outer s H vs Q E hr h => ⟨_, pss_one (ps_ret (pe_lst (pa_cons (pe_callTy call_list_of (by rfl) ml (by decide +kernel) (pa_cons (pv 0) pa_nil)) (pa_cons pe_int (pa_cons pe_int (pa_cons pe_int (pa_cons pe_bl (pa_cons pe_int pa_nil)))))))), state_red h rfl⟩)
theorem sc__law_draw : FnScope ["state", "limit", "cell", "digit", "mixed"] ["state", "limit"] (defScope s__law_draw) := ⟨rfl, rfl, rfl, by decide +kernel, rfl, by decide +kernel, by decide +kernel⟩
theorem ok__law_draw {f : Addr} {fd : FuncData} (z_int : mg "int" = none)
    (z_len : mg "len" = none)
    (F : Fun K "_law_draw" "_law_draw" s__law_draw f fd) (hm : mg "_law_draw" = some (.ref f)) (hb : Binds K fd ["state", "limit"] []) : Cal P w K mg base 1 "_law_draw" ["state", "limit"] m__law_draw := by
  refine cal_ok F hm hb sc__law_draw fun cdv A outer s H E hr => ?_
  exact ⟨_, (dss_cons (ds_if (dt_cmp (c_eq hr) (de_ixP (dp_of (de_v 0)) (dp_of de_int) (fun _ _ => rfl)) de_int (nomark _)) (dss_cons (ds_if (dt_cmp c_ge (de_ixP (dp_of (de_v 0)) (dp_of de_int) (fun _ _ => rfl)) (de_B b_len z_len (by decide +kernel) (dap_cons (dp_of (de_ixP (dp_of (de_v 0)) (dp_of de_int) (fun _ _ => rfl))) dap_nil)) (nomark _)) (dss_one (ds_ret de_int)) dss_nil)
  (dss_cons (ds_set (i := 2) sc__law_draw.nd (de_ixP (dp_of (de_ixP (dp_of (de_v 0)) (dp_of de_int) (fun _ _ => rfl))) (dp_of (de_ixP (dp_of (de_v 0)) (dp_of de_int) (fun _ _ => rfl))) (fun _ _ => rfl)))
  (dss_cons (ds_if (dt_cmp c_lt (de_v 2) de_int (nomark _)) (dss_one (ds_set (i := 2) sc__law_draw.nd (de_sub (de_neg de_int) (de_v 2)))) dss_nil)
  (dss_cons (ds_st 0 (de_add (de_ixP (dp_of (de_v 0)) (dp_of de_int) (fun _ _ => rfl)) de_int))
  (dss_cons (ds_st 0 (de_v 2))
  (dss_cons (ds_st 0 (de_cmp c_ge (de_v 2) (de_pow de_int de_int) (nomark _)))
  (dss_cons (ds_st 0 de_int)
  (dss_one (ds_if (dt_val (de_ixP (dp_of (de_v 0)) (dp_of de_int) (fun _ _ => rfl))) (dss_one (ds_st 0 de_int)) dss_nil))))))))) dss_nil)
  (dss_cons (ds_st 0 (de_sub (de_ixP (dp_of (de_v 0)) (dp_of de_int) (fun _ _ => rfl)) de_int))
  (dss_cons (ds_if (dt_val (de_ixP (dp_of (de_v 0)) (dp_of de_int) (fun _ _ => rfl))) (dss_cons (ds_set (i := 3) sc__law_draw.nd (de_mod (de_T b_int z_int (by decide +kernel) (dap_cons (dp_of (de_ixP (dp_of (de_v 0)) (dp_of de_int) (fun _ _ => rfl))) dap_nil)) (de_v 1)))
  (dss_cons (ds_st 0 (de_div (de_ixP (dp_of (de_v 0)) (dp_of de_int) (fun _ _ => rfl)) (de_v 1)))
  (dss_cons (ds_if (dt_cmp (c_eq hr) (de_ixP (dp_of (de_v 0)) (dp_of de_int) (fun _ _ => rfl)) de_int (nomark _)) (dss_one (ds_st 0 de_int)) dss_nil)
  (dss_one (ds_ret (de_v 3)))))) dss_nil)
  (dss_cons (ds_set (i := 4) sc__law_draw.nd (de_mod (de_T b_int z_int (by decide +kernel) (dap_cons (dp_of (de_add (de_add (de_mul (de_ixP (dp_of (de_v 0)) (dp_of de_int) (fun _ _ => rfl)) de_int) (de_mul (de_ixP (dp_of (de_v 0)) (dp_of de_int) (fun _ _ => rfl)) de_int)) de_int)) dap_nil)) de_int))
  (dss_cons (ds_set (i := 4) sc__law_draw.nd (de_mod (de_T b_int z_int (by decide +kernel) (dap_cons (dp_of (de_add (de_add (de_mul (de_v 4) (de_v 4)) (de_mul (de_ixP (dp_of (de_v 0)) (dp_of de_int) (fun _ _ => rfl)) de_int)) (de_ixP (dp_of (de_v 0)) (dp_of de_int) (fun _ _ => rfl)))) dap_nil)) de_int))
  (dss_one (ds_ret (de_mod (de_T b_int z_int (by decide +kernel) (dap_cons (dp_of (de_v 4)) dap_nil)) (de_v 1)))))))))⟩
theorem sc__law_truth : FnScope ["told", "due"] ["told", "due"] (defScope s__law_truth) := ⟨rfl, rfl, rfl, by decide +kernel, rfl, by decide +kernel, by decide +kernel⟩
theorem ok__law_truth {f : Addr} {fd : FuncData} 
    (F : Fun K "_law_truth" "_law_truth" s__law_truth f fd) (hm : mg "_law_truth" = some (.ref f)) (hb : Binds K fd ["told", "due"] []) : Cal P w K mg base 1 "_law_truth" ["told", "due"] m__law_truth := by
  refine cal_ok F hm hb sc__law_truth fun cdv A outer s H E hr => ?_
  exact ⟨_, (dss_cons (ds_if (dt_val (de_v 1)) (dss_one (ds_ret (de_cmp c_is (de_v 0) de_bl (nomark _)))) dss_nil)
  (dss_one (ds_ret (de_cmp c_is (de_v 0) de_bl (nomark _)))))⟩
theorem sc__law_common : FnScope ["one", "other"] ["one", "other"] (defScope s__law_common) := ⟨rfl, rfl, rfl, by decide +kernel, rfl, by decide +kernel, by decide +kernel⟩
theorem ok__law_common {f : Addr} {fd : FuncData} (z_abs : mg "abs" = none)
    (z_int : mg "int" = none)
    (F : Fun K "_law_common" "_law_common" s__law_common f fd) (hm : mg "_law_common" = some (.ref f)) (hb : Binds K fd ["one", "other"] []) : Cal P w K mg base 1 "_law_common" ["one", "other"] m__law_common := by
  refine cal_ok F hm hb sc__law_common fun cdv A outer s H E hr => ?_
  exact ⟨_, (dss_cons (ds_set (i := 0) sc__law_common.nd (de_B b_abs z_abs (by decide +kernel) (dap_cons (dp_of (de_v 0)) dap_nil)))
  (dss_cons (ds_set (i := 1) sc__law_common.nd (de_B b_abs z_abs (by decide +kernel) (dap_cons (dp_of (de_v 1)) dap_nil)))
  (dss_cons (ds_while (passes_of rfl) (dt_cmp (c_ne hr) (de_v 1) de_int (nomark _)) (dss_one (ds_par2 (i := 0) (j := 1) sc__law_common.nd (da_cons (de_v 1) (da_cons (de_mod (de_T b_int z_int (by decide +kernel) (dap_cons (dp_of (de_v 0)) dap_nil)) (de_v 1)) da_nil)) (by decide))))
  (dss_one (ds_ret (de_v 0))))))⟩
theorem sc__law_word : FnScope ["state", "most", "word", "turn"] ["state", "most"] (defScope s__law_word) := ⟨rfl, rfl, rfl, by decide +kernel, rfl, by decide +kernel, by decide +kernel⟩
theorem ok__law_word {f : Addr} {fd : FuncData} (c__law_draw : Cal P w K mg base 1 "_law_draw" ["state", "limit"] m__law_draw)
    (z_range : mg "range" = none)
    (F : Fun K "_law_word" "_law_word" s__law_word f fd) (hm : mg "_law_word" = some (.ref f)) (hb : Binds K fd ["state", "most"] []) : Cal P w K mg base 2 "_law_word" ["state", "most"] m__law_word := by
  refine cal_ok F hm hb sc__law_word fun cdv A outer s H E hr => ?_
  exact ⟨_, (dss_cons (ds_set (i := 2) sc__law_word.nd de_str)
  (dss_cons (ds_for (passes_of rfl) (di_rng1 z_range (da_cons (de_call (c__law_draw.mono (by decide)) hr (takes_of rfl rfl rfl rfl) (da_cons (de_v 0) (da_cons (de_add (de_v 1) de_int) da_nil))) da_nil)) (dg_name (i := 3) sc__law_word.nd) (dss_one (ds_set (i := 2) sc__law_word.nd (de_add (de_v 2) (de_mul (de_ixP (dp_of de_str) (dp_of (de_call (c__law_draw.mono (by decide)) hr (takes_of rfl rfl rfl rfl) (da_cons (de_v 0) (da_cons de_int da_nil)))) (fun _ _ => rfl)) (de_ixP (dp_of (de_n (dn_lst (da_cons de_int (da_cons de_int (da_cons (de_add de_int (de_call (c__law_draw.mono (by decide)) hr (takes_of rfl rfl rfl rfl) (da_cons (de_v 0) (da_cons de_int da_nil)))) da_nil)))))) (dp_of (de_call (c__law_draw.mono (by decide)) hr (takes_of rfl rfl rfl rfl) (da_cons (de_v 0) (da_cons de_int da_nil)))) (fun _ _ => rfl)))))))
  (dss_one (ds_ret (de_v 2)))))⟩
theorem sc__law_around : FnScope ["word", "low", "high", "letter", "middle"] ["word"] (defScope s__law_around) := ⟨rfl, rfl, rfl, by decide +kernel, rfl, by decide +kernel, by decide +kernel⟩
theorem ok__law_around {f : Addr} {fd : FuncData} 
    (F : Fun K "_law_around" "_law_around" s__law_around f fd) (hm : mg "_law_around" = some (.ref f)) (hb : Binds K fd ["word"] []) : Cal P w K mg base 1 "_law_around" ["word"] m__law_around := by
  refine cal_ok F hm hb sc__law_around fun cdv A outer s H E hr => ?_
  exact ⟨_, (dss_cons (ds_set (i := 1) sc__law_around.nd (de_tup (da_cons de_int (da_cons de_int da_nil))))
  (dss_cons (ds_set (i := 2) sc__law_around.nd (de_tup (da_cons de_int (da_cons de_int da_nil))))
  (dss_cons (ds_for (passes_of rfl) (di_any (de_v 0)) (dg_name (i := 3) sc__law_around.nd) (dss_cons (ds_set (i := 4) sc__law_around.nd (de_tup (da_cons (de_add (de_ixP (dp_of (de_v 1)) (dp_of de_int) (fun _ _ => rfl)) (de_ixP (dp_of (de_v 2)) (dp_of de_int) (fun _ _ => rfl))) (da_cons (de_add (de_ixP (dp_of (de_v 1)) (dp_of de_int) (fun _ _ => rfl)) (de_ixP (dp_of (de_v 2)) (dp_of de_int) (fun _ _ => rfl))) da_nil))))
  (dss_one (ds_if (dt_cmp (c_eq hr) (de_v 3) de_str (nomark _)) (dss_one (ds_set (i := 1) sc__law_around.nd (de_v 4))) (dss_one (ds_set (i := 2) sc__law_around.nd (de_v 4)))))))
  (dss_one (ds_ret (de_n (dn_lst (da_cons (de_v 1) (da_cons (de_v 2) da_nil)))))))))⟩
theorem sc__law_fraction : FnScope ["word", "low", "high"] ["word"] (defScope s__law_fraction) := ⟨rfl, rfl, rfl, by decide +kernel, rfl, by decide +kernel, by decide +kernel⟩
theorem ok__law_fraction {f : Addr} {fd : FuncData} (c__law_around : Cal P w K mg base 1 "_law_around" ["word"] m__law_around)
    (F : Fun K "_law_fraction" "_law_fraction" s__law_fraction f fd) (hm : mg "_law_fraction" = some (.ref f)) (hb : Binds K fd ["word"] []) : Cal P w K mg base 2 "_law_fraction" ["word"] m__law_fraction := by
  refine cal_ok F hm hb sc__law_fraction fun cdv A outer s H E hr => ?_
  exact ⟨_, (dss_cons (ds_asg (de_call (c__law_around.mono (by decide)) hr (takes_of rfl rfl rfl rfl) (da_cons (de_v 0) da_nil)) (dg_tup (dgs_cons (dg_name (i := 1) sc__law_fraction.nd) (dgs_cons (dg_name (i := 2) sc__law_fraction.nd) dgs_nil))))
  (dss_one (ds_ret (de_tup (da_cons (de_add (de_ixP (dp_of (de_v 1)) (dp_of de_int) (fun _ _ => rfl)) (de_ixP (dp_of (de_v 2)) (dp_of de_int) (fun _ _ => rfl))) (da_cons (de_add (de_ixP (dp_of (de_v 1)) (dp_of de_int) (fun _ _ => rfl)) (de_ixP (dp_of (de_v 2)) (dp_of de_int) (fun _ _ => rfl))) da_nil))))))⟩
theorem sc__law_refused : FnScope ["kind", "value"] ["kind", "value"] (defScope s__law_refused) := ⟨rfl, rfl, rfl, by decide +kernel, rfl, by decide +kernel, by decide +kernel⟩
theorem ok__law_refused {f : Addr} {fd : FuncData} (c_parents_of : Cal P w K mg base 2 "parents_of" ["fraction"] m_parents_of)
    (c_word_of_fraction : Cal P w K mg base 2 "word_of_fraction" ["fraction"] m_word_of_fraction)
    {CNotPossible : Addr} (x_NotPossible : ErrC K mg "NotPossible" CNotPossible)
    (xx : ErrT K mg known)
    (F : Fun K "_law_refused" "_law_refused" s__law_refused f fd) (hm : mg "_law_refused" = some (.ref f)) (hb : Binds K fd ["kind", "value"] []) : Cal P w K mg base 3 "_law_refused" ["kind", "value"] m__law_refused := by
  refine cal_ok F hm hb sc__law_refused fun cdv A outer s H E hr => ?_
  exact ⟨_, (dss_one (ds_try (takes_of rfl rfl rfl rfl) (fun W pn xe tk hp => (dss_cons (ds_if (dt_cmp (c_eq hr) (de_v 0) de_int (nomark _)) (dss_one (ds_expr (de_call (c_word_of_fraction.mono (by decide)) hr tk (da_cons (de_v 1) da_nil)))) (dss_one (ds_expr (de_call (c_parents_of.mono (by decide)) hr tk (da_cons (de_v 1) da_nil)))))
  (dss_one (ds_ret de_bl)))) (HdD.cons (by rfl) (by decide) x_NotPossible.gC (exc_of xx x_NotPossible.gC (by decide)) (fun _ _ _ => (dss_one (ds_ret de_bl))) HdD.nil)))⟩
theorem sc__law_wide : FnScope ["size"] ["size"] (defScope s__law_wide) := ⟨rfl, rfl, rfl, by decide +kernel, rfl, by decide +kernel, by decide +kernel⟩
theorem ok__law_wide {f : Addr} {fd : FuncData} (c_farey_list : Cal P w K mg base 1 "farey_list" ["size"] m_farey_list)
    {CTooLarge : Addr} (x_TooLarge : ErrC K mg "TooLarge" CTooLarge)
    (xx : ErrT K mg known)
    (F : Fun K "_law_wide" "_law_wide" s__law_wide f fd) (hm : mg "_law_wide" = some (.ref f)) (hb : Binds K fd ["size"] []) : Cal P w K mg base 2 "_law_wide" ["size"] m__law_wide := by
  refine cal_ok F hm hb sc__law_wide fun cdv A outer s H E hr => ?_
  exact ⟨_, (dss_one (ds_try (takes_of rfl rfl rfl rfl) (fun W pn xe tk hp => (dss_cons (ds_expr (de_call (c_farey_list.mono (by decide)) hr tk (da_cons (de_v 0) da_nil)))
  (dss_one (ds_ret de_bl)))) (HdD.cons (by rfl) (by decide) x_TooLarge.gC (exc_of xx x_TooLarge.gC (by decide)) (fun _ _ _ => (dss_one (ds_ret de_bl))) HdD.nil)))⟩
theorem sc__law_list_holds : FnScope ["size", "told", "due", "below", "above", "pair", "k"] ["size"] (defScope s__law_list_holds) := ⟨rfl, rfl, rfl, by decide +kernel, rfl, by decide +kernel, by decide +kernel⟩
theorem ok__law_list_holds {f : Addr} {fd : FuncData} (c_farey_list : Cal P w K mg base 1 "farey_list" ["size"] m_farey_list)
    (c__law_common : Cal P w K mg base 1 "_law_common" ["one", "other"] m__law_common)
    (z_len : mg "len" = none)
    (z_range : mg "range" = none)
    (F : Fun K "_law_list_holds" "_law_list_holds" s__law_list_holds f fd) (hm : mg "_law_list_holds" = some (.ref f)) (hb : Binds K fd ["size"] []) : Cal P w K mg base 2 "_law_list_holds" ["size"] m__law_list_holds := by
  refine cal_ok F hm hb sc__law_list_holds fun cdv A outer s H E hr => ?_
  exact ⟨_, (dss_cons (ds_set (i := 1) sc__law_list_holds.nd (de_call (c_farey_list.mono (by decide)) hr (takes_of rfl rfl rfl rfl) (da_cons (de_v 0) da_nil)))
  (dss_cons (ds_set (i := 2) sc__law_list_holds.nd (de_n (dn_lst da_nil)))
  (dss_cons (ds_for (passes_of rfl) (di_rng2 z_range (da_cons de_int (da_cons (de_add (de_v 0) de_int) da_nil))) (dg_name (i := 3) sc__law_list_holds.nd) (dss_one (ds_set (i := 2) sc__law_list_holds.nd (de_add (de_v 2) (de_n (dn_comp sc__law_list_holds.nd (blkOk_by (own := [("above", 4)]) (N := ["size", "told", "due", "below", "above", "pair", "k"]) (sc := defScope s__law_list_holds) (by decide +kernel)) (di_rng1 z_range (da_cons (de_add (de_v 3) de_int) da_nil)) (fun _ _ _ _ _ => (dg_name (i := 4) sc__law_list_holds.nd)) (fun _ _ _ _ _ => (dts_one (dt_cmp (c_eq hr) (de_call (c__law_common.mono (by decide)) hr takes0 (da_cons (de_v 4) (da_cons (de_v 3) da_nil))) de_int (nomark _)))) (fun _ _ _ _ _ => (de_tup (da_cons (de_v 4) (da_cons (de_v 3) da_nil)))) (by decide) s))))))
  (dss_cons (ds_if (DW.dt (dw_or (dt_cmp (c_ne hr) (de_B b_len z_len (by decide +kernel) (dap_cons (dp_of (de_v 1)) dap_nil)) (de_B b_len z_len (by decide +kernel) (dap_cons (dp_of (de_v 2)) dap_nil)) (nomark _)) (dw_or1 (dt_cmp c_gt (de_B b_len z_len (by decide +kernel) (dap_cons (dp_of (de_n (dn_comp sc__law_list_holds.nd (blkOk_by (own := [("pair", 5)]) (N := ["size", "told", "due", "below", "above", "pair", "k"]) (sc := defScope s__law_list_holds) (by decide +kernel)) (di_any (de_v 2)) (fun _ _ _ _ _ => (dg_name (i := 5) sc__law_list_holds.nd)) (fun _ _ _ _ _ => (dts_one (dt_cmp (c_notIn hr) (de_v 5) (de_v 1) (by with_unfolding_all rfl)))) (fun _ _ _ _ _ => (de_v 5)) (by decide) s))) dap_nil)) de_int (nomark _))))) (dss_one (ds_ret de_bl)) dss_nil)
  (dss_one (ds_ret (de_cmp (c_eq hr) (de_B b_len z_len (by decide +kernel) (dap_cons (dp_of (de_n (dn_comp sc__law_list_holds.nd (blkOk_by (own := [("k", 6)]) (N := ["size", "told", "due", "below", "above", "pair", "k"]) (sc := defScope s__law_list_holds) (by decide +kernel)) (di_rng2 z_range (da_cons de_int (da_cons (de_B b_len z_len (by decide +kernel) (dap_cons (dp_of (de_v 1)) dap_nil)) da_nil))) (fun _ _ _ _ _ => (dg_name (i := 6) sc__law_list_holds.nd)) (fun _ _ _ _ _ => (dts_one (dt_cmp c_ge (de_mul (de_ixP (dp_of (de_ixP (dp_of (de_v 1)) (dp_of (de_sub (de_v 6) de_int)) (fun _ _ => rfl))) (dp_of de_int) (fun _ _ => rfl)) (de_ixP (dp_of (de_ixP (dp_of (de_v 1)) (dp_of (de_v 6)) (fun _ _ => rfl))) (dp_of de_int) (fun _ _ => rfl))) (de_mul (de_ixP (dp_of (de_ixP (dp_of (de_v 1)) (dp_of (de_v 6)) (fun _ _ => rfl))) (dp_of de_int) (fun _ _ => rfl)) (de_ixP (dp_of (de_ixP (dp_of (de_v 1)) (dp_of (de_sub (de_v 6) de_int)) (fun _ _ => rfl))) (dp_of de_int) (fun _ _ => rfl))) (nomark _)))) (fun _ _ _ _ _ => (de_v 6)) (by decide) s))) dap_nil)) de_int (nomark _))))))))⟩
theorem sc__law_best_holds : FnScope ["size", "above", "below", "told", "lower"] ["size", "above", "below"] (defScope s__law_best_holds) := ⟨rfl, rfl, rfl, by decide +kernel, rfl, by decide +kernel, by decide +kernel⟩
theorem ok__law_best_holds {f : Addr} {fd : FuncData} (c_best_below : Cal P w K mg base 2 "best_below" ["size", "above", "below"] m_best_below)
    (c__law_common : Cal P w K mg base 1 "_law_common" ["one", "other"] m__law_common)
    (z_range : mg "range" = none)
    (F : Fun K "_law_best_holds" "_law_best_holds" s__law_best_holds f fd) (hm : mg "_law_best_holds" = some (.ref f)) (hb : Binds K fd ["size", "above", "below"] []) : Cal P w K mg base 3 "_law_best_holds" ["size", "above", "below"] m__law_best_holds := by
  refine cal_ok F hm hb sc__law_best_holds fun cdv A outer s H E hr => ?_
  exact ⟨_, (dss_cons (ds_set (i := 3) sc__law_best_holds.nd (de_call (c_best_below.mono (by decide)) hr (takes_of rfl rfl rfl rfl) (da_cons (de_v 0) (da_cons (de_v 1) (da_cons (de_v 2) da_nil)))))
  (dss_cons (ds_if (DW.dt (dw_or (dt_cmp c_lt (de_ixP (dp_of (de_v 3)) (dp_of de_int) (fun _ _ => rfl)) de_int (nomark _)) (dw_or (dt_cmp c_gt (de_ixP (dp_of (de_v 3)) (dp_of de_int) (fun _ _ => rfl)) (de_v 0) (nomark _)) (dw_or (dt_cmp (c_ne hr) (de_call (c__law_common.mono (by decide)) hr (takes_of rfl rfl rfl rfl) (da_cons (de_ixP (dp_of (de_v 3)) (dp_of de_int) (fun _ _ => rfl)) (da_cons (de_ixP (dp_of (de_v 3)) (dp_of de_int) (fun _ _ => rfl)) da_nil))) de_int (nomark _)) (dw_or1 (dt_cmp c_gt (de_mul (de_ixP (dp_of (de_v 3)) (dp_of de_int) (fun _ _ => rfl)) (de_v 2)) (de_mul (de_v 1) (de_ixP (dp_of (de_v 3)) (dp_of de_int) (fun _ _ => rfl))) (nomark _))))))) (dss_one (ds_ret de_bl)) dss_nil)
  (dss_cons (ds_for (passes_of rfl) (di_rng2 z_range (da_cons de_int (da_cons (de_add (de_v 0) de_int) da_nil))) (dg_name (i := 4) sc__law_best_holds.nd) (dss_one (ds_if (dt_cmp c_gt (de_mul (de_div (de_mul (de_v 1) (de_v 4)) (de_v 2)) (de_ixP (dp_of (de_v 3)) (dp_of de_int) (fun _ _ => rfl))) (de_mul (de_ixP (dp_of (de_v 3)) (dp_of de_int) (fun _ _ => rfl)) (de_v 4)) (nomark _)) (dss_one (ds_ret de_bl)) dss_nil)))
  (dss_one (ds_ret de_bl)))))⟩
theorem sc_law : FnScope ["script", "state", "first", "second", "one", "other", "word", "low", "high", "whole", "shared", "way", "k", "cross", "size"] ["script"] (defScope s_law) := ⟨rfl, rfl, rfl, by decide +kernel, rfl, by decide +kernel, by decide +kernel⟩
theorem ok_law {f : Addr} {fd : FuncData} (c_is_fraction_pair : Cal P w K mg base 2 "is_fraction_pair" ["value"] m_is_fraction_pair)
    (c_is_next_to : Cal P w K mg base 1 "is_next_to" ["one", "other"] m_is_next_to)
    (c_mediant : Cal P w K mg base 1 "mediant" ["one", "other"] m_mediant)
    (c_parents_of : Cal P w K mg base 2 "parents_of" ["fraction"] m_parents_of)
    (c_word_of_fraction : Cal P w K mg base 2 "word_of_fraction" ["fraction"] m_word_of_fraction)
    (c_fraction_of_word : Cal P w K mg base 2 "fraction_of_word" ["word"] m_fraction_of_word)
    (c_between_word : Cal P w K mg base 2 "between_word" ["word"] m_between_word)
    (c_way_between : Cal P w K mg base 3 "way_between" ["one", "other"] m_way_between)
    (c_circle_touch : Cal P w K mg base 1 "circle_touch" ["one", "other"] m_circle_touch)
    (c__law_draw : Cal P w K mg base 1 "_law_draw" ["state", "limit"] m__law_draw)
    (c__law_truth : Cal P w K mg base 1 "_law_truth" ["told", "due"] m__law_truth)
    (c__law_word : Cal P w K mg base 2 "_law_word" ["state", "most"] m__law_word)
    (c__law_around : Cal P w K mg base 1 "_law_around" ["word"] m__law_around)
    (c__law_fraction : Cal P w K mg base 2 "_law_fraction" ["word"] m__law_fraction)
    (c__law_refused : Cal P w K mg base 3 "_law_refused" ["kind", "value"] m__law_refused)
    (c__law_wide : Cal P w K mg base 2 "_law_wide" ["size"] m__law_wide)
    (c__law_list_holds : Cal P w K mg base 2 "_law_list_holds" ["size"] m__law_list_holds)
    (c__law_best_holds : Cal P w K mg base 3 "_law_best_holds" ["size", "above", "below"] m__law_best_holds)
    (z_abs : mg "abs" = none)
    (z_len : mg "len" = none)
    (z_min : mg "min" = none)
    (z_range : mg "range" = none)
    {fS : Addr} {fdS : FuncData}
    (FS : FnOk P w K mg base (L2.CX P w) 1 fS fdS ["script"] (spState K))
    (gS : mg "_law_state" = some (.ref fS))
    (kS : PySem.W.keepIn K (.ref fS) = true)
    (bS : Binds K fdS ["script"] [])
    (F : Fun K "law" "law" s_law f fd) (hl : ∀ ns : List Int, ns.length ≤ 63 → ∃ st', g_law ((List.replicate 15 none).set 1 (some (.v STT))) ⟨ns, 0, 0, 0, false⟩ = .ok (.rt (.bool true)) st') :
    FnOk P w K mg base (L2.CX P w) 4 f fd ["script"] (spLaw K 63) := by
  refine F.okX sc_law (fun vs H Q E h => by obtain ⟨a, ns, rfl, _⟩ := h; rfl) (fun cdv A outer s H vs Q E hr h => ?_)
  have d : ∃ t, DSs (cxOf (L2.CX P w) P w K mg base ["script", "state", "first", "second", "one", "other", "word", "low", "high", "whole", "shared", "way", "k", "cross", "size"] "law" (defScope s_law) f cdv A outer s H E) K mg (fun c d _ H' => E c d H') ((defBody s_law).drop 1) t g_law := by
    exact ⟨_, (dss_cons (ds_set (i := 2) sc_law.nd (de_call (c__law_word.mono (by decide)) hr (takes_of rfl rfl rfl rfl) (da_cons (de_v 1) (da_cons de_int da_nil))))
  (dss_cons (ds_set (i := 3) sc_law.nd (de_add (de_sl (dp_of (de_v 2)) do_no (do_so (de_call (c__law_draw.mono (by decide)) hr (takes_of rfl rfl rfl rfl) (da_cons (de_v 1) (da_cons (de_add (de_B b_len z_len (by decide +kernel) (dap_cons (dp_of (de_v 2)) dap_nil)) de_int) da_nil))))) (de_call (c__law_word.mono (by decide)) hr (takes_of rfl rfl rfl rfl) (da_cons (de_v 1) (da_cons de_int da_nil)))))
  (dss_cons (ds_set (i := 4) sc_law.nd (de_call (c__law_fraction.mono (by decide)) hr (takes_of rfl rfl rfl rfl) (da_cons (de_v 2) da_nil)))
  (dss_cons (ds_set (i := 5) sc_law.nd (de_call (c__law_fraction.mono (by decide)) hr (takes_of rfl rfl rfl rfl) (da_cons (de_v 3) da_nil)))
  (dss_cons (ds_for (passes_of rfl) (di_any (de_n (dn_lst (da_cons (de_v 2) (da_cons (de_v 3) da_nil))))) (dg_name (i := 6) sc_law.nd) (dss_cons (ds_asg (de_call (c__law_around.mono (by decide)) hr (takes_of rfl rfl rfl rfl) (da_cons (de_v 6) da_nil)) (dg_tup (dgs_cons (dg_name (i := 7) sc_law.nd) (dgs_cons (dg_name (i := 8) sc_law.nd) dgs_nil))))
  (dss_cons (ds_set (i := 9) sc_law.nd (de_call (c__law_fraction.mono (by decide)) hr (takes_of rfl rfl rfl rfl) (da_cons (de_v 6) da_nil)))
  (dss_cons (ds_if (DW.dt (dw_or (dt_cmp (c_ne hr) (de_call (c_fraction_of_word.mono (by decide)) hr (takes_of rfl rfl rfl rfl) (da_cons (de_v 6) da_nil)) (de_v 9) (nomark _)) (dw_or (dt_cmp (c_ne hr) (de_call (c_word_of_fraction.mono (by decide)) hr (takes_of rfl rfl rfl rfl) (da_cons (de_v 9) da_nil)) (de_v 6) (nomark _)) (dw_or (dt_cmp (c_ne hr) (de_call (c_between_word.mono (by decide)) hr (takes_of rfl rfl rfl rfl) (da_cons (de_v 6) da_nil)) (de_tup (da_cons (de_v 7) (da_cons (de_v 8) da_nil))) (nomark _)) (dw_or1 (dt_cmp (c_ne hr) (de_call (c_parents_of.mono (by decide)) hr (takes_of rfl rfl rfl rfl) (da_cons (de_v 9) da_nil)) (de_tup (da_cons (de_v 7) (da_cons (de_v 8) da_nil))) (nomark _))))))) (dss_one (ds_ret de_bl)) dss_nil)
  (dss_cons (ds_if (DW.dt (dw_or (dt_cmp (c_ne hr) (de_call (c_mediant.mono (by decide)) hr (takes_of rfl rfl rfl rfl) (da_cons (de_v 7) (da_cons (de_v 8) da_nil))) (de_v 9) (nomark _)) (dw_or (dt_cmp c_isNt (de_call (c_is_next_to.mono (by decide)) hr (takes_of rfl rfl rfl rfl) (da_cons (de_v 7) (da_cons (de_v 8) da_nil))) de_bl (nomark _)) (dw_or (dt_cmp c_isNt (de_call (c_is_next_to.mono (by decide)) hr (takes_of rfl rfl rfl rfl) (da_cons (de_v 7) (da_cons (de_v 9) da_nil))) de_bl (nomark _)) (dw_or1 (dt_cmp c_isNt (de_call (c_is_next_to.mono (by decide)) hr (takes_of rfl rfl rfl rfl) (da_cons (de_v 9) (da_cons (de_v 8) da_nil))) de_bl (nomark _))))))) (dss_one (ds_ret de_bl)) dss_nil)
  (dss_cons (ds_if (DW.dt (dw_or (dt_cmp c_isNt (de_call (c_is_fraction_pair.mono (by decide)) hr (takes_of rfl rfl rfl rfl) (da_cons (de_v 9) da_nil)) de_bl (nomark _)) (dw_or (dt_cmp (c_ne hr) (de_call (c_circle_touch.mono (by decide)) hr (takes_of rfl rfl rfl rfl) (da_cons (de_v 7) (da_cons (de_v 9) da_nil))) de_int (nomark _)) (dw_or1 (dt_cmp c_isNt (de_call (c_is_fraction_pair.mono (by decide)) hr (takes_of rfl rfl rfl rfl) (da_cons (de_tup (da_cons (de_mul de_int (de_ixP (dp_of (de_v 9)) (dp_of de_int) (fun _ _ => rfl))) (da_cons (de_mul de_int (de_ixP (dp_of (de_v 9)) (dp_of de_int) (fun _ _ => rfl))) da_nil))) da_nil)) de_bl (nomark _)))))) (dss_one (ds_ret de_bl)) dss_nil)
  (dss_one (ds_if (DW.dt (dw_or (dt_not (dt_val (de_call (c__law_refused.mono (by decide)) hr (takes_of rfl rfl rfl rfl) (da_cons de_int (da_cons (de_tup (da_cons (de_mul de_int (de_ixP (dp_of (de_v 9)) (dp_of de_int) (fun _ _ => rfl))) (da_cons (de_mul de_int (de_ixP (dp_of (de_v 9)) (dp_of de_int) (fun _ _ => rfl))) da_nil))) da_nil))))) (dw_or (dt_not (dt_val (de_call (c__law_refused.mono (by decide)) hr (takes_of rfl rfl rfl rfl) (da_cons de_int (da_cons (de_tup (da_cons (de_mul de_int (de_ixP (dp_of (de_v 9)) (dp_of de_int) (fun _ _ => rfl))) (da_cons (de_mul de_int (de_ixP (dp_of (de_v 9)) (dp_of de_int) (fun _ _ => rfl))) da_nil))) da_nil))))) (dw_or1 (dt_not (dt_val (de_call (c__law_refused.mono (by decide)) hr (takes_of rfl rfl rfl rfl) (da_cons de_int (da_cons (de_tup (da_cons (de_sub de_int (de_ixP (dp_of (de_v 9)) (dp_of de_int) (fun _ _ => rfl))) (da_cons (de_ixP (dp_of (de_v 9)) (dp_of de_int) (fun _ _ => rfl)) da_nil))) da_nil))))))))) (dss_one (ds_ret de_bl)) dss_nil))))))))
  (dss_cons (ds_set (i := 10) sc_law.nd de_int)
  (dss_cons (ds_while (passes_of rfl) (DW.dt (dw_and (dt_cmp c_lt (de_v 10) (de_B (b_min2) z_min (by decide +kernel) (dap_cons (dp_of (de_B b_len z_len (by decide +kernel) (dap_cons (dp_of (de_v 2)) dap_nil))) (dap_cons (dp_of (de_B b_len z_len (by decide +kernel) (dap_cons (dp_of (de_v 3)) dap_nil))) dap_nil))) (nomark _)) (dw_and1 (dt_cmp (c_eq hr) (de_ixP (dp_of (de_v 2)) (dp_of (de_v 10)) (fun _ _ => rfl)) (de_ixP (dp_of (de_v 3)) (dp_of (de_v 10)) (fun _ _ => rfl)) (nomark _))))) (dss_one (ds_set (i := 10) sc_law.nd (de_add (de_v 10) de_int))))
  (dss_cons (ds_set (i := 11) sc_law.nd (de_add (de_n (dn_comp sc_law.nd (blkOk_by (own := [("k", 12)]) (N := ["script", "state", "first", "second", "one", "other", "word", "low", "high", "whole", "shared", "way", "k", "cross", "size"]) (sc := defScope s_law) (by decide +kernel)) (di_rng1 z_range (da_cons (de_sub (de_B b_len z_len (by decide +kernel) (dap_cons (dp_of (de_v 2)) dap_nil)) (de_v 10)) da_nil)) (fun _ _ _ _ _ => (dg_name (i := 12) sc_law.nd)) (fun _ _ _ _ _ => dts_nil) (fun _ _ _ _ _ => (de_call (c__law_fraction.mono (by decide)) hr takes0 (da_cons (de_sl (dp_of (de_v 2)) do_no (do_so (de_sub (de_B b_len z_len (by decide +kernel) (dap_cons (dp_of (de_v 2)) dap_nil)) (de_v 12)))) da_nil))) (by decide) s)) (de_n (dn_comp sc_law.nd (blkOk_by (own := [("k", 12)]) (N := ["script", "state", "first", "second", "one", "other", "word", "low", "high", "whole", "shared", "way", "k", "cross", "size"]) (sc := defScope s_law) (by decide +kernel)) (di_rng2 z_range (da_cons (de_v 10) (da_cons (de_add (de_B b_len z_len (by decide +kernel) (dap_cons (dp_of (de_v 3)) dap_nil)) de_int) da_nil))) (fun _ _ _ _ _ => (dg_name (i := 12) sc_law.nd)) (fun _ _ _ _ _ => dts_nil) (fun _ _ _ _ _ => (de_call (c__law_fraction.mono (by decide)) hr takes0 (da_cons (de_sl (dp_of (de_v 3)) do_no (do_so (de_v 12))) da_nil))) (by decide) s))))
  (dss_cons (ds_if (DW.dt (dw_or (dt_cmp (c_ne hr) (de_call (c_way_between.mono (by decide)) hr (takes_of rfl rfl rfl rfl) (da_cons (de_v 4) (da_cons (de_v 5) da_nil))) (de_v 11) (nomark _)) (dw_or1 (dt_cmp (c_ne hr) (de_call (c_way_between.mono (by decide)) hr (takes_of rfl rfl rfl rfl) (da_cons (de_v 4) (da_cons (de_v 4) da_nil))) (de_n (dn_lst (da_cons (de_v 4) da_nil))) (nomark _))))) (dss_one (ds_ret de_bl)) dss_nil)
  (dss_cons (ds_set (i := 13) sc_law.nd (de_sub (de_mul (de_ixP (dp_of (de_v 4)) (dp_of de_int) (fun _ _ => rfl)) (de_ixP (dp_of (de_v 5)) (dp_of de_int) (fun _ _ => rfl))) (de_mul (de_ixP (dp_of (de_v 4)) (dp_of de_int) (fun _ _ => rfl)) (de_ixP (dp_of (de_v 5)) (dp_of de_int) (fun _ _ => rfl)))))
  (dss_cons (ds_if (DW.dt (dw_or (dt_cmp (c_ne hr) (de_call (c_circle_touch.mono (by decide)) hr (takes_of rfl rfl rfl rfl) (da_cons (de_v 4) (da_cons (de_v 5) da_nil))) (de_sub (de_mul (de_v 13) (de_v 13)) de_int) (nomark _)) (dw_or1 (dt_not (dt_val (de_call (c__law_truth.mono (by decide)) hr (takes_of rfl rfl rfl rfl) (da_cons (de_call (c_is_next_to.mono (by decide)) hr (takes_of rfl rfl rfl rfl) (da_cons (de_v 4) (da_cons (de_v 5) da_nil))) (da_cons (de_cmp (c_eq hr) (de_B b_abs z_abs (by decide +kernel) (dap_cons (dp_of (de_v 13)) dap_nil)) de_int (nomark _)) da_nil)))))))) (dss_one (ds_ret de_bl)) dss_nil)
  (dss_cons (ds_if (DW.dt (dw_or (dt_cmp c_isNt (de_call (c_is_fraction_pair.mono (by decide)) hr (takes_of rfl rfl rfl rfl) (da_cons (de_tup (da_cons de_int (da_cons de_int da_nil))) da_nil)) de_bl (nomark _)) (dw_or (dt_cmp c_isNt (de_call (c_is_fraction_pair.mono (by decide)) hr (takes_of rfl rfl rfl rfl) (da_cons (de_tup (da_cons (de_neg de_int) (da_cons de_int da_nil))) da_nil)) de_bl (nomark _)) (dw_or1 (dt_cmp c_isNt (de_call (c_is_fraction_pair.mono (by decide)) hr (takes_of rfl rfl rfl rfl) (da_cons (de_tup (da_cons de_int (da_cons (de_neg de_int) da_nil))) da_nil)) de_bl (nomark _)))))) (dss_one (ds_ret de_bl)) dss_nil)
  (dss_cons (ds_set (i := 14) sc_law.nd (de_add de_int (de_call (c__law_draw.mono (by decide)) hr (takes_of rfl rfl rfl rfl) (da_cons (de_v 1) (da_cons de_int da_nil)))))
  (dss_cons (ds_if (DW.dt (dw_or (dt_not (dt_val (de_call (c__law_list_holds.mono (by decide)) hr (takes_of rfl rfl rfl rfl) (da_cons (de_v 14) da_nil)))) (dw_or1 (dt_not (dt_val (de_call (c__law_wide.mono (by decide)) hr (takes_of rfl rfl rfl rfl) (da_cons (de_add de_int (de_v 14)) da_nil))))))) (dss_one (ds_ret de_bl)) dss_nil)
  (dss_one (ds_ret (de_and (de_call (c__law_best_holds.mono (by decide)) hr (takes_of rfl rfl rfl rfl) (da_cons (de_add (de_v 14) (de_call (c__law_draw.mono (by decide)) hr (takes_of rfl rfl rfl rfl) (da_cons (de_v 1) (da_cons de_int da_nil)))) (da_cons (de_ixP (dp_of (de_v 4)) (dp_of de_int) (fun _ _ => rfl)) (da_cons (de_ixP (dp_of (de_v 4)) (dp_of de_int) (fun _ _ => rfl)) da_nil)))) (de_one (de_call (c__law_best_holds.mono (by decide)) hr (takes_of rfl rfl rfl rfl) (da_cons (de_B (b_min2) z_min (by decide +kernel) (dap_cons (dp_of (de_ixP (dp_of (de_v 4)) (dp_of de_int) (fun _ _ => rfl))) (dap_cons (dp_of de_int) dap_nil))) (da_cons (de_ixP (dp_of (de_v 4)) (dp_of de_int) (fun _ _ => rfl)) (da_cons (de_ixP (dp_of (de_v 4)) (dp_of de_int) (fun _ _ => rfl)) da_nil))))))))))))))))))))))⟩
  obtain ⟨t, d⟩ := d
  exact ⟨_, pss_cons (ps_set (i := 1) sc_law.nd rfl (Or.inl rfl) (pe_callS FS (hr.mono (by decide)) rfl gS kS bS (fun σ => passAt (takes_of rfl rfl rfl rfl) σ) (pa_cons (pv 0) pa_nil))) d.ps, law_red h (by decide) (by decide) d.rf hl⟩
end
end LW
namespace LW
open PySem PySem.Spec PyProof.Rows L2 DL
theorem all_mk {w : World} {K : PySem.W.Frag} {h : Heap} {mg : Str → Option Value} {fa : Addr} (X : K.In h) (G : h.Ns mainGlobals mg) (hfa : mg "law" = some (.ref fa))
    {f0 : Addr} {od0 an0 : Option Addr} {sl0 : Array (Option Value)} {oc0 kV0 dc0 pm0 cd0 ct0 : Value}
    {f1 : Addr} {od1 an1 : Option Addr} {sl1 : Array (Option Value)} {oc1 kV1 dc1 pm1 cd1 ct1 : Value}
    {f2 : Addr} {od2 an2 : Option Addr} {sl2 : Array (Option Value)} {oc2 kV2 dc2 pm2 cd2 ct2 : Value}
    {f3 : Addr} {od3 an3 : Option Addr} {sl3 : Array (Option Value)} {oc3 kV3 dc3 pm3 cd3 ct3 : Value}
    {f4 : Addr} {od4 an4 : Option Addr} {sl4 : Array (Option Value)} {oc4 kV4 dc4 pm4 cd4 ct4 : Value}
    {f5 : Addr} {od5 an5 : Option Addr} {sl5 : Array (Option Value)} {oc5 kV5 dc5 pm5 cd5 ct5 : Value}
    {f6 : Addr} {od6 an6 : Option Addr} {sl6 : Array (Option Value)} {oc6 kV6 dc6 pm6 cd6 ct6 : Value}
    {f7 : Addr} {od7 an7 : Option Addr} {sl7 : Array (Option Value)} {oc7 kV7 dc7 pm7 cd7 ct7 : Value}
    {f8 : Addr} {od8 an8 : Option Addr} {sl8 : Array (Option Value)} {oc8 kV8 dc8 pm8 cd8 ct8 : Value}
    {f9 : Addr} {od9 an9 : Option Addr} {sl9 : Array (Option Value)} {oc9 kV9 dc9 pm9 cd9 ct9 : Value}
    {f10 : Addr} {od10 an10 : Option Addr} {sl10 : Array (Option Value)} {oc10 kV10 dc10 pm10 cd10 ct10 : Value}
    {f11 : Addr} {od11 an11 : Option Addr} {sl11 : Array (Option Value)} {oc11 kV11 dc11 pm11 cd11 ct11 : Value}
    {f12 : Addr} {od12 an12 : Option Addr} {sl12 : Array (Option Value)} {oc12 kV12 dc12 pm12 cd12 ct12 : Value}
    {f13 : Addr} {od13 an13 : Option Addr} {sl13 : Array (Option Value)} {oc13 kV13 dc13 pm13 cd13 ct13 : Value}
    {f14 : Addr} {od14 an14 : Option Addr} {sl14 : Array (Option Value)} {oc14 kV14 dc14 pm14 cd14 ct14 : Value}
    {f15 : Addr} {od15 an15 : Option Addr} {sl15 : Array (Option Value)} {oc15 kV15 dc15 pm15 cd15 ct15 : Value}
    {f16 : Addr} {od16 an16 : Option Addr} {sl16 : Array (Option Value)} {oc16 kV16 dc16 pm16 cd16 ct16 : Value}
    {f17 : Addr} {od17 an17 : Option Addr} {sl17 : Array (Option Value)} {oc17 kV17 dc17 pm17 cd17 ct17 : Value}
    {f18 : Addr} {od18 an18 : Option Addr} {sl18 : Array (Option Value)} {oc18 kV18 dc18 pm18 cd18 ct18 : Value}
    {f19 : Addr} {od19 an19 : Option Addr} {sl19 : Array (Option Value)} {oc19 kV19 dc19 pm19 cd19 ct19 : Value}
    {f20 : Addr} {od20 an20 : Option Addr} {sl20 : Array (Option Value)} {oc20 kV20 dc20 pm20 cd20 ct20 : Value}
    {f21 : Addr} {od21 an21 : Option Addr} {sl21 : Array (Option Value)} {oc21 kV21 dc21 pm21 cd21 ct21 : Value}
    {f22 : Addr} {od22 an22 : Option Addr} {sl22 : Array (Option Value)} {oc22 kV22 dc22 pm22 cd22 ct22 : Value}
    {f23 : Addr} {od23 an23 : Option Addr} {sl23 : Array (Option Value)} {oc23 kV23 dc23 pm23 cd23 ct23 : Value}
    {f24 : Addr} {od24 an24 : Option Addr} {sl24 : Array (Option Value)} {oc24 kV24 dc24 pm24 cd24 ct24 : Value}
    {tMOST_FAREY : Tok}
    {CTooLarge : Addr}
    {CNotPossible : Addr}
    (a0 : PySem.W.nsIn K mainGlobals "common_divisor" = some (some (.ref f0))) (l0 : K.lookup f0 = some ⟨oc0, od0, .func (PySem.W.fnOf "common_divisor" "common_divisor" (defArgs s_common_divisor) (defBody s_common_divisor) (defScope s_common_divisor) .none kV0 dc0 pm0 an0 cd0 ct0), sl0⟩) (c0 : PySem.W.codeIn K cd0 "common_divisor" = true) (k0 : PySem.W.keepIn K (.ref f0) = true)
    (a1 : PySem.W.nsIn K mainGlobals "combined" = some (some (.ref f1))) (l1 : K.lookup f1 = some ⟨oc1, od1, .func (PySem.W.fnOf "combined" "combined" (defArgs s_combined) (defBody s_combined) (defScope s_combined) .none kV1 dc1 pm1 an1 cd1 ct1), sl1⟩) (c1 : PySem.W.codeIn K cd1 "combined" = true) (k1 : PySem.W.keepIn K (.ref f1) = true)
    (a2 : PySem.W.nsIn K mainGlobals "is_fraction_pair" = some (some (.ref f2))) (l2 : K.lookup f2 = some ⟨oc2, od2, .func (PySem.W.fnOf "is_fraction_pair" "is_fraction_pair" (defArgs s_is_fraction_pair) (defBody s_is_fraction_pair) (defScope s_is_fraction_pair) .none kV2 dc2 pm2 an2 cd2 ct2), sl2⟩) (c2 : PySem.W.codeIn K cd2 "is_fraction_pair" = true) (k2 : PySem.W.keepIn K (.ref f2) = true)
    (a3 : PySem.W.nsIn K mainGlobals "farey_list" = some (some (.ref f3))) (l3 : K.lookup f3 = some ⟨oc3, od3, .func (PySem.W.fnOf "farey_list" "farey_list" (defArgs s_farey_list) (defBody s_farey_list) (defScope s_farey_list) .none kV3 dc3 pm3 an3 cd3 ct3), sl3⟩) (c3 : PySem.W.codeIn K cd3 "farey_list" = true) (k3 : PySem.W.keepIn K (.ref f3) = true)
    (a4 : PySem.W.nsIn K mainGlobals "is_next_to" = some (some (.ref f4))) (l4 : K.lookup f4 = some ⟨oc4, od4, .func (PySem.W.fnOf "is_next_to" "is_next_to" (defArgs s_is_next_to) (defBody s_is_next_to) (defScope s_is_next_to) .none kV4 dc4 pm4 an4 cd4 ct4), sl4⟩) (c4 : PySem.W.codeIn K cd4 "is_next_to" = true) (k4 : PySem.W.keepIn K (.ref f4) = true)
    (a5 : PySem.W.nsIn K mainGlobals "mediant" = some (some (.ref f5))) (l5 : K.lookup f5 = some ⟨oc5, od5, .func (PySem.W.fnOf "mediant" "mediant" (defArgs s_mediant) (defBody s_mediant) (defScope s_mediant) .none kV5 dc5 pm5 an5 cd5 ct5), sl5⟩) (c5 : PySem.W.codeIn K cd5 "mediant" = true) (k5 : PySem.W.keepIn K (.ref f5) = true)
    (a6 : PySem.W.nsIn K mainGlobals "parents_of" = some (some (.ref f6))) (l6 : K.lookup f6 = some ⟨oc6, od6, .func (PySem.W.fnOf "parents_of" "parents_of" (defArgs s_parents_of) (defBody s_parents_of) (defScope s_parents_of) .none kV6 dc6 pm6 an6 cd6 ct6), sl6⟩) (c6 : PySem.W.codeIn K cd6 "parents_of" = true) (k6 : PySem.W.keepIn K (.ref f6) = true)
    (a7 : PySem.W.nsIn K mainGlobals "word_of_fraction" = some (some (.ref f7))) (l7 : K.lookup f7 = some ⟨oc7, od7, .func (PySem.W.fnOf "word_of_fraction" "word_of_fraction" (defArgs s_word_of_fraction) (defBody s_word_of_fraction) (defScope s_word_of_fraction) .none kV7 dc7 pm7 an7 cd7 ct7), sl7⟩) (c7 : PySem.W.codeIn K cd7 "word_of_fraction" = true) (k7 : PySem.W.keepIn K (.ref f7) = true)
    (a8 : PySem.W.nsIn K mainGlobals "fraction_of_word" = some (some (.ref f8))) (l8 : K.lookup f8 = some ⟨oc8, od8, .func (PySem.W.fnOf "fraction_of_word" "fraction_of_word" (defArgs s_fraction_of_word) (defBody s_fraction_of_word) (defScope s_fraction_of_word) .none kV8 dc8 pm8 an8 cd8 ct8), sl8⟩) (c8 : PySem.W.codeIn K cd8 "fraction_of_word" = true) (k8 : PySem.W.keepIn K (.ref f8) = true)
    (a9 : PySem.W.nsIn K mainGlobals "between_word" = some (some (.ref f9))) (l9 : K.lookup f9 = some ⟨oc9, od9, .func (PySem.W.fnOf "between_word" "between_word" (defArgs s_between_word) (defBody s_between_word) (defScope s_between_word) .none kV9 dc9 pm9 an9 cd9 ct9), sl9⟩) (c9 : PySem.W.codeIn K cd9 "between_word" = true) (k9 : PySem.W.keepIn K (.ref f9) = true)
    (a10 : PySem.W.nsIn K mainGlobals "way_between" = some (some (.ref f10))) (l10 : K.lookup f10 = some ⟨oc10, od10, .func (PySem.W.fnOf "way_between" "way_between" (defArgs s_way_between) (defBody s_way_between) (defScope s_way_between) .none kV10 dc10 pm10 an10 cd10 ct10), sl10⟩) (c10 : PySem.W.codeIn K cd10 "way_between" = true) (k10 : PySem.W.keepIn K (.ref f10) = true)
    (a11 : PySem.W.nsIn K mainGlobals "best_below" = some (some (.ref f11))) (l11 : K.lookup f11 = some ⟨oc11, od11, .func (PySem.W.fnOf "best_below" "best_below" (defArgs s_best_below) (defBody s_best_below) (defScope s_best_below) .none kV11 dc11 pm11 an11 cd11 ct11), sl11⟩) (c11 : PySem.W.codeIn K cd11 "best_below" = true) (k11 : PySem.W.keepIn K (.ref f11) = true)
    (a12 : PySem.W.nsIn K mainGlobals "circle_touch" = some (some (.ref f12))) (l12 : K.lookup f12 = some ⟨oc12, od12, .func (PySem.W.fnOf "circle_touch" "circle_touch" (defArgs s_circle_touch) (defBody s_circle_touch) (defScope s_circle_touch) .none kV12 dc12 pm12 an12 cd12 ct12), sl12⟩) (c12 : PySem.W.codeIn K cd12 "circle_touch" = true) (k12 : PySem.W.keepIn K (.ref f12) = true)
    (a13 : PySem.W.nsIn K mainGlobals "_law_state" = some (some (.ref f13))) (l13 : K.lookup f13 = some ⟨oc13, od13, .func (PySem.W.fnOf "_law_state" "_law_state" (defArgs s__law_state) (defBody s__law_state) (defScope s__law_state) .none kV13 dc13 pm13 an13 cd13 ct13), sl13⟩) (c13 : PySem.W.codeIn K cd13 "_law_state" = true) (k13 : PySem.W.keepIn K (.ref f13) = true)
    (a14 : PySem.W.nsIn K mainGlobals "_law_draw" = some (some (.ref f14))) (l14 : K.lookup f14 = some ⟨oc14, od14, .func (PySem.W.fnOf "_law_draw" "_law_draw" (defArgs s__law_draw) (defBody s__law_draw) (defScope s__law_draw) .none kV14 dc14 pm14 an14 cd14 ct14), sl14⟩) (c14 : PySem.W.codeIn K cd14 "_law_draw" = true) (k14 : PySem.W.keepIn K (.ref f14) = true)
    (a15 : PySem.W.nsIn K mainGlobals "_law_truth" = some (some (.ref f15))) (l15 : K.lookup f15 = some ⟨oc15, od15, .func (PySem.W.fnOf "_law_truth" "_law_truth" (defArgs s__law_truth) (defBody s__law_truth) (defScope s__law_truth) .none kV15 dc15 pm15 an15 cd15 ct15), sl15⟩) (c15 : PySem.W.codeIn K cd15 "_law_truth" = true) (k15 : PySem.W.keepIn K (.ref f15) = true)
    (a16 : PySem.W.nsIn K mainGlobals "_law_common" = some (some (.ref f16))) (l16 : K.lookup f16 = some ⟨oc16, od16, .func (PySem.W.fnOf "_law_common" "_law_common" (defArgs s__law_common) (defBody s__law_common) (defScope s__law_common) .none kV16 dc16 pm16 an16 cd16 ct16), sl16⟩) (c16 : PySem.W.codeIn K cd16 "_law_common" = true) (k16 : PySem.W.keepIn K (.ref f16) = true)
    (a17 : PySem.W.nsIn K mainGlobals "_law_word" = some (some (.ref f17))) (l17 : K.lookup f17 = some ⟨oc17, od17, .func (PySem.W.fnOf "_law_word" "_law_word" (defArgs s__law_word) (defBody s__law_word) (defScope s__law_word) .none kV17 dc17 pm17 an17 cd17 ct17), sl17⟩) (c17 : PySem.W.codeIn K cd17 "_law_word" = true) (k17 : PySem.W.keepIn K (.ref f17) = true)
    (a18 : PySem.W.nsIn K mainGlobals "_law_around" = some (some (.ref f18))) (l18 : K.lookup f18 = some ⟨oc18, od18, .func (PySem.W.fnOf "_law_around" "_law_around" (defArgs s__law_around) (defBody s__law_around) (defScope s__law_around) .none kV18 dc18 pm18 an18 cd18 ct18), sl18⟩) (c18 : PySem.W.codeIn K cd18 "_law_around" = true) (k18 : PySem.W.keepIn K (.ref f18) = true)
    (a19 : PySem.W.nsIn K mainGlobals "_law_fraction" = some (some (.ref f19))) (l19 : K.lookup f19 = some ⟨oc19, od19, .func (PySem.W.fnOf "_law_fraction" "_law_fraction" (defArgs s__law_fraction) (defBody s__law_fraction) (defScope s__law_fraction) .none kV19 dc19 pm19 an19 cd19 ct19), sl19⟩) (c19 : PySem.W.codeIn K cd19 "_law_fraction" = true) (k19 : PySem.W.keepIn K (.ref f19) = true)
    (a20 : PySem.W.nsIn K mainGlobals "_law_refused" = some (some (.ref f20))) (l20 : K.lookup f20 = some ⟨oc20, od20, .func (PySem.W.fnOf "_law_refused" "_law_refused" (defArgs s__law_refused) (defBody s__law_refused) (defScope s__law_refused) .none kV20 dc20 pm20 an20 cd20 ct20), sl20⟩) (c20 : PySem.W.codeIn K cd20 "_law_refused" = true) (k20 : PySem.W.keepIn K (.ref f20) = true)
    (a21 : PySem.W.nsIn K mainGlobals "_law_wide" = some (some (.ref f21))) (l21 : K.lookup f21 = some ⟨oc21, od21, .func (PySem.W.fnOf "_law_wide" "_law_wide" (defArgs s__law_wide) (defBody s__law_wide) (defScope s__law_wide) .none kV21 dc21 pm21 an21 cd21 ct21), sl21⟩) (c21 : PySem.W.codeIn K cd21 "_law_wide" = true) (k21 : PySem.W.keepIn K (.ref f21) = true)
    (a22 : PySem.W.nsIn K mainGlobals "_law_list_holds" = some (some (.ref f22))) (l22 : K.lookup f22 = some ⟨oc22, od22, .func (PySem.W.fnOf "_law_list_holds" "_law_list_holds" (defArgs s__law_list_holds) (defBody s__law_list_holds) (defScope s__law_list_holds) .none kV22 dc22 pm22 an22 cd22 ct22), sl22⟩) (c22 : PySem.W.codeIn K cd22 "_law_list_holds" = true) (k22 : PySem.W.keepIn K (.ref f22) = true)
    (a23 : PySem.W.nsIn K mainGlobals "_law_best_holds" = some (some (.ref f23))) (l23 : K.lookup f23 = some ⟨oc23, od23, .func (PySem.W.fnOf "_law_best_holds" "_law_best_holds" (defArgs s__law_best_holds) (defBody s__law_best_holds) (defScope s__law_best_holds) .none kV23 dc23 pm23 an23 cd23 ct23), sl23⟩) (c23 : PySem.W.codeIn K cd23 "_law_best_holds" = true) (k23 : PySem.W.keepIn K (.ref f23) = true)
    (a24 : PySem.W.nsIn K mainGlobals "law" = some (some (.ref f24))) (l24 : K.lookup f24 = some ⟨oc24, od24, .func (PySem.W.fnOf "law" "law" (defArgs s_law) (defBody s_law) (defScope s_law) .none kV24 dc24 pm24 an24 cd24 ct24), sl24⟩) (c24 : PySem.W.codeIn K cd24 "law" = true) (k24 : PySem.W.keepIn K (.ref f24) = true)
    (zabs : PySem.W.nsIn K mainGlobals "abs" = some none)
    (zint : PySem.W.nsIn K mainGlobals "int" = some none)
    (zlen : PySem.W.nsIn K mainGlobals "len" = some none)
    (zlist : PySem.W.nsIn K mainGlobals "list" = some none)
    (zmin : PySem.W.nsIn K mainGlobals "min" = some none)
    (zrange : PySem.W.nsIn K mainGlobals "range" = some none)
    (qMOST_FAREY : PySem.W.nsIn K mainGlobals "MOST_FAREY" = some (some (.int 400 tMOST_FAREY)))
    (eTooLarge : PySem.W.nsIn K mainGlobals "TooLarge" = some (some (.ref CTooLarge))) (exTooLarge : PySem.W.excIn K CTooLarge [.type "ValueError", .type "Exception", .type "BaseException", .type "object"] "ValueError.__new__" = true) (ekTooLarge : PySem.W.keepIn K (.ref CTooLarge) = true) (ebTooLarge : PySem.W.subIn K (.ref CTooLarge) (.type "BaseException") = some true) (etTooLarge : PySem.W.typeIn K (.ref CTooLarge) = some (.type "type"))
    (eNotPossible : PySem.W.nsIn K mainGlobals "NotPossible" = some (some (.ref CNotPossible))) (exNotPossible : PySem.W.excIn K CNotPossible [.type "ValueError", .type "Exception", .type "BaseException", .type "object"] "ValueError.__new__" = true) (ekNotPossible : PySem.W.keepIn K (.ref CNotPossible) = true) (ebNotPossible : PySem.W.subIn K (.ref CNotPossible) (.type "BaseException") = some true) (etNotPossible : PySem.W.typeIn K (.ref CNotPossible) = some (.type "type"))
    (mTooLarge_TooLarge : PySem.W.exmOne K (.ref CTooLarge) (.ref CTooLarge) = some true)
    (mTooLarge_NotPossible : PySem.W.exmOne K (.ref CTooLarge) (.ref CNotPossible) = some false)
    (mNotPossible_TooLarge : PySem.W.exmOne K (.ref CNotPossible) (.ref CTooLarge) = some false)
    (mNotPossible_NotPossible : PySem.W.exmOne K (.ref CNotPossible) (.ref CNotPossible) = some true) :
    ∃ fd : FuncData, (∀ (s : Shared) (v : Value), BindsTo s fd ⟨[v], []⟩ [("script", v)]) ∧ ∀ base : Heap, K.In base → base.Ns mainGlobals mg → FnOk PySem.Challenge.rw_rootsooth_k05_whole_planted_words_of_fra.prog w K mg base (L2.CX PySem.Challenge.rw_rootsooth_k05_whole_planted_words_of_fra.prog w) 4 fa fd ["script"] (spLaw K 63) := by
  have e := hfa.symm.trans (PySem.W.mg_of X G a24)
  cases e
  have z_abs := PySem.W.mg_none_of X G zabs
  have z_int := PySem.W.mg_none_of X G zint
  have z_len := PySem.W.mg_none_of X G zlen
  have z_list := PySem.W.mg_none_of X G zlist
  have z_min := PySem.W.mg_none_of X G zmin
  have z_range := PySem.W.mg_none_of X G zrange
  have k_MOST_FAREY := PySem.W.mg_of X G qMOST_FAREY
  have x_TooLarge : ErrC K mg "TooLarge" CTooLarge := ⟨PySem.W.mg_of X G eTooLarge, exTooLarge, ekTooLarge, ebTooLarge, etTooLarge⟩
  have x_NotPossible : ErrC K mg "NotPossible" CNotPossible := ⟨PySem.W.mg_of X G eNotPossible, exNotPossible, ekNotPossible, ebNotPossible, etNotPossible⟩
  have xx : ErrT K mg known := ⟨fun c hc h hh C Ch h1 h2 => by
    simp only [known, List.mem_cons, List.not_mem_nil, or_false] at hc hh
    rcases hc with rfl | rfl <;> rcases hh with rfl | rfl
    · cases h1.symm.trans x_TooLarge.gC; cases h2.symm.trans x_TooLarge.gC; rw [mTooLarge_TooLarge]; rfl
    · cases h1.symm.trans x_TooLarge.gC; cases h2.symm.trans x_NotPossible.gC; rw [mTooLarge_NotPossible]; rfl
    · cases h1.symm.trans x_NotPossible.gC; cases h2.symm.trans x_TooLarge.gC; rw [mNotPossible_TooLarge]; rfl
    · cases h1.symm.trans x_NotPossible.gC; cases h2.symm.trans x_NotPossible.gC; rw [mNotPossible_NotPossible]; rfl
    ⟩
  have F_common_divisor := fun_mk (st := s_common_divisor) l0 c0 k0
  have b_common_divisor := F_common_divisor.binds (ps := ["one", "other"]) fun _ _ _ _ _ _ us hl => match us, hl with | [_, _], _ => rfl
  have F_combined := fun_mk (st := s_combined) l1 c1 k1
  have b_combined := F_combined.binds (ps := ["one", "other"]) fun _ _ _ _ _ _ us hl => match us, hl with | [_, _], _ => rfl
  have F_is_fraction_pair := fun_mk (st := s_is_fraction_pair) l2 c2 k2
  have b_is_fraction_pair := F_is_fraction_pair.binds (ps := ["value"]) fun _ _ _ _ _ _ us hl => match us, hl with | [_], _ => rfl
  have F_farey_list := fun_mk (st := s_farey_list) l3 c3 k3
  have b_farey_list := F_farey_list.binds (ps := ["size"]) fun _ _ _ _ _ _ us hl => match us, hl with | [_], _ => rfl
  have F_is_next_to := fun_mk (st := s_is_next_to) l4 c4 k4
  have b_is_next_to := F_is_next_to.binds (ps := ["one", "other"]) fun _ _ _ _ _ _ us hl => match us, hl with | [_, _], _ => rfl
  have F_mediant := fun_mk (st := s_mediant) l5 c5 k5
  have b_mediant := F_mediant.binds (ps := ["one", "other"]) fun _ _ _ _ _ _ us hl => match us, hl with | [_, _], _ => rfl
  have F_parents_of := fun_mk (st := s_parents_of) l6 c6 k6
  have b_parents_of := F_parents_of.binds (ps := ["fraction"]) fun _ _ _ _ _ _ us hl => match us, hl with | [_], _ => rfl
  have F_word_of_fraction := fun_mk (st := s_word_of_fraction) l7 c7 k7
  have b_word_of_fraction := F_word_of_fraction.binds (ps := ["fraction"]) fun _ _ _ _ _ _ us hl => match us, hl with | [_], _ => rfl
  have F_fraction_of_word := fun_mk (st := s_fraction_of_word) l8 c8 k8
  have b_fraction_of_word := F_fraction_of_word.binds (ps := ["word"]) fun _ _ _ _ _ _ us hl => match us, hl with | [_], _ => rfl
  have F_between_word := fun_mk (st := s_between_word) l9 c9 k9
  have b_between_word := F_between_word.binds (ps := ["word"]) fun _ _ _ _ _ _ us hl => match us, hl with | [_], _ => rfl
  have F_way_between := fun_mk (st := s_way_between) l10 c10 k10
  have b_way_between := F_way_between.binds (ps := ["one", "other"]) fun _ _ _ _ _ _ us hl => match us, hl with | [_, _], _ => rfl
  have F_best_below := fun_mk (st := s_best_below) l11 c11 k11
  have b_best_below := F_best_below.binds (ps := ["size", "above", "below"]) fun _ _ _ _ _ _ us hl => match us, hl with | [_, _, _], _ => rfl
  have F_circle_touch := fun_mk (st := s_circle_touch) l12 c12 k12
  have b_circle_touch := F_circle_touch.binds (ps := ["one", "other"]) fun _ _ _ _ _ _ us hl => match us, hl with | [_, _], _ => rfl
  have F__law_state := fun_mk (st := s__law_state) l13 c13 k13
  have b__law_state := F__law_state.binds (ps := ["script"]) fun _ _ _ _ _ _ us hl => match us, hl with | [_], _ => rfl
  have F__law_draw := fun_mk (st := s__law_draw) l14 c14 k14
  have b__law_draw := F__law_draw.binds (ps := ["state", "limit"]) fun _ _ _ _ _ _ us hl => match us, hl with | [_, _], _ => rfl
  have F__law_truth := fun_mk (st := s__law_truth) l15 c15 k15
  have b__law_truth := F__law_truth.binds (ps := ["told", "due"]) fun _ _ _ _ _ _ us hl => match us, hl with | [_, _], _ => rfl
  have F__law_common := fun_mk (st := s__law_common) l16 c16 k16
  have b__law_common := F__law_common.binds (ps := ["one", "other"]) fun _ _ _ _ _ _ us hl => match us, hl with | [_, _], _ => rfl
  have F__law_word := fun_mk (st := s__law_word) l17 c17 k17
  have b__law_word := F__law_word.binds (ps := ["state", "most"]) fun _ _ _ _ _ _ us hl => match us, hl with | [_, _], _ => rfl
  have F__law_around := fun_mk (st := s__law_around) l18 c18 k18
  have b__law_around := F__law_around.binds (ps := ["word"]) fun _ _ _ _ _ _ us hl => match us, hl with | [_], _ => rfl
  have F__law_fraction := fun_mk (st := s__law_fraction) l19 c19 k19
  have b__law_fraction := F__law_fraction.binds (ps := ["word"]) fun _ _ _ _ _ _ us hl => match us, hl with | [_], _ => rfl
  have F__law_refused := fun_mk (st := s__law_refused) l20 c20 k20
  have b__law_refused := F__law_refused.binds (ps := ["kind", "value"]) fun _ _ _ _ _ _ us hl => match us, hl with | [_, _], _ => rfl
  have F__law_wide := fun_mk (st := s__law_wide) l21 c21 k21
  have b__law_wide := F__law_wide.binds (ps := ["size"]) fun _ _ _ _ _ _ us hl => match us, hl with | [_], _ => rfl
  have F__law_list_holds := fun_mk (st := s__law_list_holds) l22 c22 k22
  have b__law_list_holds := F__law_list_holds.binds (ps := ["size"]) fun _ _ _ _ _ _ us hl => match us, hl with | [_], _ => rfl
  have F__law_best_holds := fun_mk (st := s__law_best_holds) l23 c23 k23
  have b__law_best_holds := F__law_best_holds.binds (ps := ["size", "above", "below"]) fun _ _ _ _ _ _ us hl => match us, hl with | [_, _, _], _ => rfl
  have F_law := fun_mk (st := s_law) l24 c24 k24
  have b_law := F_law.binds (ps := ["script"]) fun _ _ _ _ _ _ us hl => match us, hl with | [_], _ => rfl
  refine ⟨PySem.W.fnOf "law" "law" (defArgs s_law) (defBody s_law) (defScope s_law) .none kV24 dc24 pm24 an24 cd24 ct24, fun s v => .of_eq rfl, fun base _ _ => ?_⟩
  have c_common_divisor := ok_common_divisor (P := PySem.Challenge.rw_rootsooth_k05_whole_planted_words_of_fra.prog) (w := w) (base := base) z_abs F_common_divisor (PySem.W.mg_of X G a0) b_common_divisor
  have c_combined := ok_combined (P := PySem.Challenge.rw_rootsooth_k05_whole_planted_words_of_fra.prog) (w := w) (base := base)  F_combined (PySem.W.mg_of X G a1) b_combined
  have c_is_fraction_pair := ok_is_fraction_pair (P := PySem.Challenge.rw_rootsooth_k05_whole_planted_words_of_fra.prog) (w := w) (base := base) c_common_divisor F_is_fraction_pair (PySem.W.mg_of X G a2) b_is_fraction_pair
  have c_farey_list := ok_farey_list (P := PySem.Challenge.rw_rootsooth_k05_whole_planted_words_of_fra.prog) (w := w) (base := base) k_MOST_FAREY x_TooLarge F_farey_list (PySem.W.mg_of X G a3) b_farey_list
  have c_is_next_to := ok_is_next_to (P := PySem.Challenge.rw_rootsooth_k05_whole_planted_words_of_fra.prog) (w := w) (base := base) z_abs F_is_next_to (PySem.W.mg_of X G a4) b_is_next_to
  have c_mediant := ok_mediant (P := PySem.Challenge.rw_rootsooth_k05_whole_planted_words_of_fra.prog) (w := w) (base := base)  F_mediant (PySem.W.mg_of X G a5) b_mediant
  have c_parents_of := ok_parents_of (P := PySem.Challenge.rw_rootsooth_k05_whole_planted_words_of_fra.prog) (w := w) (base := base) c_combined x_NotPossible F_parents_of (PySem.W.mg_of X G a6) b_parents_of
  have c_word_of_fraction := ok_word_of_fraction (P := PySem.Challenge.rw_rootsooth_k05_whole_planted_words_of_fra.prog) (w := w) (base := base) c_common_divisor x_NotPossible F_word_of_fraction (PySem.W.mg_of X G a7) b_word_of_fraction
  have c_fraction_of_word := ok_fraction_of_word (P := PySem.Challenge.rw_rootsooth_k05_whole_planted_words_of_fra.prog) (w := w) (base := base) c_mediant F_fraction_of_word (PySem.W.mg_of X G a8) b_fraction_of_word
  have c_between_word := ok_between_word (P := PySem.Challenge.rw_rootsooth_k05_whole_planted_words_of_fra.prog) (w := w) (base := base) c_mediant F_between_word (PySem.W.mg_of X G a9) b_between_word
  have c_way_between := ok_way_between (P := PySem.Challenge.rw_rootsooth_k05_whole_planted_words_of_fra.prog) (w := w) (base := base) c_word_of_fraction c_fraction_of_word z_len z_min z_range F_way_between (PySem.W.mg_of X G a10) b_way_between
  have c_best_below := ok_best_below (P := PySem.Challenge.rw_rootsooth_k05_whole_planted_words_of_fra.prog) (w := w) (base := base) c_common_divisor z_range F_best_below (PySem.W.mg_of X G a11) b_best_below
  have c_circle_touch := ok_circle_touch (P := PySem.Challenge.rw_rootsooth_k05_whole_planted_words_of_fra.prog) (w := w) (base := base)  F_circle_touch (PySem.W.mg_of X G a12) b_circle_touch
  have FS := ok__law_state (P := PySem.Challenge.rw_rootsooth_k05_whole_planted_words_of_fra.prog) (w := w) (mg := mg) (base := base) F__law_state z_list
  have c__law_draw := ok__law_draw (P := PySem.Challenge.rw_rootsooth_k05_whole_planted_words_of_fra.prog) (w := w) (base := base) z_int z_len F__law_draw (PySem.W.mg_of X G a14) b__law_draw
  have c__law_truth := ok__law_truth (P := PySem.Challenge.rw_rootsooth_k05_whole_planted_words_of_fra.prog) (w := w) (base := base)  F__law_truth (PySem.W.mg_of X G a15) b__law_truth
  have c__law_common := ok__law_common (P := PySem.Challenge.rw_rootsooth_k05_whole_planted_words_of_fra.prog) (w := w) (base := base) z_abs z_int F__law_common (PySem.W.mg_of X G a16) b__law_common
  have c__law_word := ok__law_word (P := PySem.Challenge.rw_rootsooth_k05_whole_planted_words_of_fra.prog) (w := w) (base := base) c__law_draw z_range F__law_word (PySem.W.mg_of X G a17) b__law_word
  have c__law_around := ok__law_around (P := PySem.Challenge.rw_rootsooth_k05_whole_planted_words_of_fra.prog) (w := w) (base := base)  F__law_around (PySem.W.mg_of X G a18) b__law_around
  have c__law_fraction := ok__law_fraction (P := PySem.Challenge.rw_rootsooth_k05_whole_planted_words_of_fra.prog) (w := w) (base := base) c__law_around F__law_fraction (PySem.W.mg_of X G a19) b__law_fraction
  have c__law_refused := ok__law_refused (P := PySem.Challenge.rw_rootsooth_k05_whole_planted_words_of_fra.prog) (w := w) (base := base) c_parents_of c_word_of_fraction x_NotPossible xx F__law_refused (PySem.W.mg_of X G a20) b__law_refused
  have c__law_wide := ok__law_wide (P := PySem.Challenge.rw_rootsooth_k05_whole_planted_words_of_fra.prog) (w := w) (base := base) c_farey_list x_TooLarge xx F__law_wide (PySem.W.mg_of X G a21) b__law_wide
  have c__law_list_holds := ok__law_list_holds (P := PySem.Challenge.rw_rootsooth_k05_whole_planted_words_of_fra.prog) (w := w) (base := base) c_farey_list c__law_common z_len z_range F__law_list_holds (PySem.W.mg_of X G a22) b__law_list_holds
  have c__law_best_holds := ok__law_best_holds (P := PySem.Challenge.rw_rootsooth_k05_whole_planted_words_of_fra.prog) (w := w) (base := base) c_best_below c__law_common z_range F__law_best_holds (PySem.W.mg_of X G a23) b__law_best_holds
  exact ok_law c_is_fraction_pair c_is_next_to c_mediant c_parents_of c_word_of_fraction c_fraction_of_word c_between_word c_way_between c_circle_touch c__law_draw c__law_truth c__law_word c__law_around c__law_fraction c__law_refused c__law_wide c__law_list_holds c__law_best_holds z_abs z_len z_min z_range FS (PySem.W.mg_of X G a13) F__law_state.kp b__law_state F_law law_holds
end LW
open PySem PySem.W PyProof.Rows
set_option maxHeartbeats 0 in
theorem PySem.Challenge.cw_rootsooth_k05_whole_planted_words_of_fra_holds : PySem.Challenge.rw_rootsooth_k05_whole_planted_words_of_fra.Holds := by
  w_on; o_law; k_head; (case hw => w_witness2)
  k_fill
  refine L2.walk_of (l := PySem.Challenge.rw_rootsooth_k05_whole_planted_words_of_fra) (n := 63) (k := 4) (x := "script") (CX := fun w => L2.CX PySem.Challenge.rw_rootsooth_k05_whole_planted_words_of_fra.prog w) (sp := fun w => DL.spLaw _ 63) rfl (by decide) rfl ⟨rfl, by decide, by decide⟩ (fun w h Y => PySem.W.kIn_of Y) ?F (fun _ _ a ns hl _ hS => ⟨a, ns, rfl, hS, hl, fun _ => rfl⟩) (fun _ _ _ _ _ h => by obtain ⟨_, _, _, _, _, _, _, _, _, _, _, _, z⟩ := h; exact z)
  case F =>
    intro w mg fa h KX G hmg
    refine' LW.all_mk KX G hmg ?a0 ?l0 ?c0 ?k0 ?a1 ?l1 ?c1 ?k1 ?a2 ?l2 ?c2 ?k2 ?a3 ?l3 ?c3 ?k3 ?a4 ?l4 ?c4 ?k4 ?a5 ?l5 ?c5 ?k5 ?a6 ?l6 ?c6 ?k6 ?a7 ?l7 ?c7 ?k7 ?a8 ?l8 ?c8 ?k8 ?a9 ?l9 ?c9 ?k9 ?a10 ?l10 ?c10 ?k10 ?a11 ?l11 ?c11 ?k11 ?a12 ?l12 ?c12 ?k12 ?a13 ?l13 ?c13 ?k13 ?a14 ?l14 ?c14 ?k14 ?a15 ?l15 ?c15 ?k15 ?a16 ?l16 ?c16 ?k16 ?a17 ?l17 ?c17 ?k17 ?a18 ?l18 ?c18 ?k18 ?a19 ?l19 ?c19 ?k19 ?a20 ?l20 ?c20 ?k20 ?a21 ?l21 ?c21 ?k21 ?a22 ?l22 ?c22 ?k22 ?a23 ?l23 ?c23 ?k23 ?a24 ?l24 ?c24 ?k24 ?zabs ?zint ?zlen ?zlist ?zmin ?zrange ?qMOST_FAREY ?eTooLarge ?exTooLarge ?ekTooLarge ?ebTooLarge ?etTooLarge ?eNotPossible ?exNotPossible ?ekNotPossible ?ebNotPossible ?etNotPossible ?mTooLarge_TooLarge ?mTooLarge_NotPossible ?mNotPossible_TooLarge ?mNotPossible_NotPossible
    (case a0 => k_is); (case l0 => k_is); (case c0 => k_is); (case k0 => k_is); (case a1 => k_is); (case l1 => k_is); (case c1 => k_is); (case k1 => k_is); (case a2 => k_is); (case l2 => k_is); (case c2 => k_is); (case k2 => k_is); (case a3 => k_is); (case l3 => k_is); (case c3 => k_is); (case k3 => k_is); (case a4 => k_is); (case l4 => k_is); (case c4 => k_is); (case k4 => k_is); (case a5 => k_is); (case l5 => k_is); (case c5 => k_is); (case k5 => k_is); (case a6 => k_is); (case l6 => k_is); (case c6 => k_is); (case k6 => k_is); (case a7 => k_is); (case l7 => k_is); (case c7 => k_is); (case k7 => k_is); (case a8 => k_is); (case l8 => k_is); (case c8 => k_is); (case k8 => k_is); (case a9 => k_is); (case l9 => k_is); (case c9 => k_is); (case k9 => k_is); (case a10 => k_is); (case l10 => k_is); (case c10 => k_is); (case k10 => k_is); (case a11 => k_is); (case l11 => k_is); (case c11 => k_is); (case k11 => k_is); (case a12 => k_is); (case l12 => k_is); (case c12 => k_is); (case k12 => k_is); (case a13 => k_is); (case l13 => k_is); (case c13 => k_is); (case k13 => k_is); (case a14 => k_is); (case l14 => k_is); (case c14 => k_is); (case k14 => k_is); (case a15 => k_is); (case l15 => k_is); (case c15 => k_is); (case k15 => k_is); (case a16 => k_is); (case l16 => k_is); (case c16 => k_is); (case k16 => k_is); (case a17 => k_is); (case l17 => k_is); (case c17 => k_is); (case k17 => k_is); (case a18 => k_is); (case l18 => k_is); (case c18 => k_is); (case k18 => k_is); (case a19 => k_is); (case l19 => k_is); (case c19 => k_is); (case k19 => k_is); (case a20 => k_is); (case l20 => k_is); (case c20 => k_is); (case k20 => k_is); (case a21 => k_is); (case l21 => k_is); (case c21 => k_is); (case k21 => k_is); (case a22 => k_is); (case l22 => k_is); (case c22 => k_is); (case k22 => k_is); (case a23 => k_is); (case l23 => k_is); (case c23 => k_is); (case k23 => k_is); (case a24 => k_is); (case l24 => k_is); (case c24 => k_is); (case k24 => k_is); (case zabs => k_is); (case zint => k_is); (case zlen => k_is); (case zlist => k_is); (case zmin => k_is); (case zrange => k_is); (case qMOST_FAREY => k_is); (case eTooLarge => k_is); (case exTooLarge => k_exc); (case ekTooLarge => k_is); (case ebTooLarge => k_is); (case etTooLarge => k_is); (case eNotPossible => k_is); (case exNotPossible => k_exc); (case ekNotPossible => k_is); (case ebNotPossible => k_is); (case etNotPossible => k_is); (case mTooLarge_TooLarge => first | rfl | k_is); (case mTooLarge_NotPossible => first | rfl | k_is); (case mNotPossible_TooLarge => first | rfl | k_is); (case mNotPossible_NotPossible => first | rfl | k_is)
